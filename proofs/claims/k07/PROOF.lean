import PyProof.Rows.All
import Wide.All
import OpenK.AllK
import Wide.FinOn
import KE.KStateDown
import Lean
import HandS.ForMost
import HandS.Exc
import HandS.Text
import HandS.Style
import HandS.Flow
import HandS.Wide
import PyProof.StrBlock2
import PyProof.ListIndex
import PyProof.ListIndexNeg
import HandS.Walk
import KE.GoesEnum
import HandS.Zip
import HandS.TupAny
import HandS.IsInst
import HandS.ExcOwn
import HandS.Defaults
import HandS.Ends
import HandS.EndBits
import HandS.HeadEnd
import HandS.HeadHook1
import HandS.HeadHook2
import HandS.Head0
import HandS.Head1
import HandS.Head2
import PySem.Challenge.RW_scalesfound_k07_judges_of_fit_one_condit
set_option Elab.async false
set_option linter.all false
set_option maxRecDepth 100000
set_option maxHeartbeats 0
/-! Z1: deep data, a small core language and its evaluator. Plain Lean. -/
namespace Z
abbrev Txt := List Nat
/-- the most items of a list or a text that the evaluator makes -/
def LIM : Nat := 4000000

inductive D where
  | non | bl (b : Bool) | int (i : Int) | str (s : Txt)
  | tup (xs : List D) | lst (xs : List D)
  | set (xs : List D)
  | itr (xs : List D)
  | dct (ks : List D) (vs : List D)
  | ob (l : Nat)
  | exc (c : Nat) (xs : List D)
deriving Inhabited

structure Ob where
  cls : Nat
  fs : List D

structure Env where
  s : List D
  o : List Ob

inductive O2 | add | sub | mul | fdiv | mod | pow | bor
deriving DecidableEq
inductive Cp | eq | ne | lt | le | gt | ge | is | isn | isin | nin
deriving DecidableEq
/-- built-in functions -/
inductive B1 | len | abs | int | str | list | tuple | sum | all | any | max | min | sorted | gcd | set | isInt | isBool | isStr | isList | isTuple | range1
deriving DecidableEq
/-- methods that read -/
inductive M1 | join | split | count | index | startswith | find
deriving DecidableEq

/-- targets -/
inductive T | n (i : Nat) | tp (is : List Nat)

inductive C where
  | non | bl (b : Bool) | int (i : Int) | str (s : Txt)
  /-- a local, shared from here on; moved; looked at -/
  | v (i : Nat) | mv (i : Nat) | pk (i : Nat)
  /-- an argument that the callee may change; one that it looks at -/
  | io (i : Nat) | bo (i : Nat)
  | gl (g : Nat)
  | op (o : O2) (a b : C)
  | cat (a b : C) | rep (a b : C) | catT (a b : C)
  | neg (a : C) | nt (a : C)
  | and (a b : C) | or (a b : C)
  | cmp (o : Cp) (a b : C)
  | cmp2 (o o' : Cp) (a b c : C)
  | ife (c a b : C)
  | call (f : Nat) (as : List C)
  | bi (f : B1) (as : List C)
  | mt (m : M1) (o : C) (as : List C)
  | ix (a i : C)
  /-- an item of a local -/
  | ixv (x : Nat) (i : C)
  | sl (a : C) (lo hi : Option C) | slT (a : C) (lo hi : Option C)
  | rev (a : C)
  | lst (as : List C) | tup (as : List C)
  | rg (a : C) | rg2 (a b : C) | en (a : C) | zp (a b : C)
  | lc (e : C) (t : T) (it : C) (cs : List C)
  | lc2 (e : C) (t : T) (it : C) (cs : List C) (t2 : T) (it2 : C) (cs2 : List C)
  | fst (as : List C)
  /-- a flat value: asked while it runs -/
  | fl (a : C)
  | pop (i : Nat)

inductive S where
  | pass | brk | ct
  | asg (t : T) (e : C)
  | par (i j : Nat) (a b : C)
  | aug (i : Nat) (o : O2) (e : C)
  /-- x[p]..[i] = e -/
  | six (p : C) (i : C) (e : C)
  | aix (p : C) (i : C) (o : O2) (e : C)
  | app (p : C) (e : C)
  | ext (p : C) (e : C)
  | ex (e : C)
  | ite (c : C) (a b : List S)
  | fr (t : T) (it : C) (b : List S)
  | wl (c : C) (b : List S)
  | ret (e : C) | retN
  | rs (c : Nat) (as : List C)
  | tr (b : List S) (h : S)
  /-- an except clause: class, the slot of its name, the suite, the next clause -/
  | hc (c : Nat) (i : Nat) (b : List S) (nx : S)

inductive R (α : Type) where
  | ok (a : α) (e : Env)
  | exc (x : D) (e : Env)
  | bad
def R.bind {α β : Type} (r : R α) (f : α → Env → R β) : R β := match r with
  | .ok a e => f a e
  | .exc x e => .exc x e
  | .bad => .bad
@[simp] theorem R.bind_ok {α β : Type} (a : α) (e : Env) (f : α → Env → R β) : (R.ok a e).bind f = f a e := rfl
@[simp] theorem R.bind_exc {α β : Type} (x : D) (e : Env) (f : α → Env → R β) : (R.exc x e : R α).bind f = .exc x e := rfl
@[simp] theorem R.bind_bad {α β : Type} (f : α → Env → R β) : (R.bad : R α).bind f = .bad := rfl
/-- a pure answer -/
def R.lift {α : Type} (o : Option α) (e : Env) : R α := match o with
  | some a => .ok a e
  | none => .bad
@[simp] theorem R.lift_some {α : Type} (a : α) (e : Env) : R.lift (some a) e = .ok a e := rfl
@[simp] theorem R.lift_none {α : Type} (e : Env) : R.lift (none : Option α) e = .bad := rfl

inductive RS where
  | nx (e : Env) | bk (e : Env) | ct (e : Env)
  | rt (d : D) (e : Env)
  | exc (x : D) (e : Env)
  | bad
def R.st {α : Type} (r : R α) (f : α → Env → RS) : RS := match r with
  | .ok a e => f a e
  | .exc x e => .exc x e
  | .bad => .bad
@[simp] theorem R.st_ok {α : Type} (a : α) (e : Env) (f : α → Env → RS) : (R.ok a e).st f = f a e := rfl
@[simp] theorem R.st_exc {α : Type} (x : D) (e : Env) (f : α → Env → RS) : (R.exc x e : R α).st f = .exc x e := rfl
@[simp] theorem R.st_bad {α : Type} (f : α → Env → RS) : (R.bad : R α).st f = .bad := rfl
def RS.seq (r : RS) (f : Env → RS) : RS := match r with
  | .nx e => f e
  | r => r
@[simp] theorem RS.seq_nx (e : Env) (f : Env → RS) : (RS.nx e).seq f = f e := rfl
@[simp] theorem RS.seq_bk (e : Env) (f : Env → RS) : (RS.bk e).seq f = .bk e := rfl
@[simp] theorem RS.seq_ct (e : Env) (f : Env → RS) : (RS.ct e).seq f = .ct e := rfl
@[simp] theorem RS.seq_rt (d : D) (e : Env) (f : Env → RS) : (RS.rt d e).seq f = .rt d e := rfl
@[simp] theorem RS.seq_exc (d : D) (e : Env) (f : Env → RS) : (RS.exc d e).seq f = .exc d e := rfl
@[simp] theorem RS.seq_bad (f : Env → RS) : RS.bad.seq f = .bad := rfl

/-- a call's end: the answer, the changed arguments, the objects -/
inductive CR where
  | ok (r : D) (outs : List D) (o : List Ob)
  | exc (x : D) (o : List Ob)
  | bad

/-! ### levels -/
def dn (n : Nat) : Nat := if n ≤ 1 then n else if 100 ≤ n then 100 else n - 1
def up (n : Nat) : Nat := if 99 ≤ n then 100 else n + 1
/-- what a comprehension lets out: nothing raised -/
def R.nox {α : Type} : R α → R α
  | .exc _ _ => .bad
  | r => r
@[simp] theorem R.nox_ok {α : Type} (a : α) (e : Env) : (R.ok a e).nox = .ok a e := rfl
@[simp] theorem R.nox_exc {α : Type} (x : D) (e : Env) : (R.exc x e : R α).nox = .bad := rfl
@[simp] theorem R.nox_bad {α : Type} : (R.bad : R α).nox = .bad := rfl
/-! ### values -/
def truth : D → Option Bool
  | .non => some false
  | .bl b => some b
  | .int i => some (i != 0)
  | .str s => if s.length ≤ LIM then some (s.length != 0) else none
  | .tup xs => some (!xs.isEmpty)
  | .lst xs => some (!xs.isEmpty)
  | _ => none
def flat : D → Bool
  | .non => true
  | .bl _ => true
  | .int _ => true
  | .str _ => true
  | _ => false
mutual
/-- data: what == compares; no deeper than n -/
def isDataN : D → Nat → Bool
  | .non, _ => true
  | .bl _, _ => true
  | .int _, _ => true
  | .str s, _ => s.all fun c => decide (c < 1114112)
  | .tup xs, n => decide (0 < n) && isDataL xs (n - 1)
  | .lst xs, n => decide (0 < n) && isDataL xs (n - 1)
  | _, _ => false
def isDataL : List D → Nat → Bool
  | [], _ => true
  | x :: xs, n => isDataN x n && isDataL xs n
end
def isData (d : D) : Bool := isDataN d 60
/-- two flat values that == compares by their kinds -/
def scalD : D → D → Bool
  | .non, .non => true | .non, .int _ => true | .int _, .non => true | .non, .bl _ => true | .bl _, .non => true | .non, .str _ => true | .str _, .non => true
  | .int _, .int _ => true | .bl _, .bl _ => true | .str _, .str _ => true
  | .int _, .str _ => true | .str _, .int _ => true | .bl _, .str _ => true | .str _, .bl _ => true
  | _, _ => false
mutual
def eqD : D → D → Bool
  | .non, .non => true
  | .bl a, .bl b => a == b
  | .bl a, .int b => (if a then 1 else 0) == b
  | .int a, .bl b => a == (if b then 1 else 0)
  | .int a, .int b => a == b
  | .str a, .str b => a == b
  | .tup xs, .tup ys => eqDL xs ys
  | .lst xs, .lst ys => eqDL xs ys
  | _, _ => false
def eqDL : List D → List D → Bool
  | [], [] => true
  | x :: xs, y :: ys => eqD x y && eqDL xs ys
  | _, _ => false
end
def guardL {α : Type} (n : Nat) (a : α) : Option α := if n ≤ LIM then some a else none
theorem guardL_pos {α : Type} {n : Nat} {a : α} (h : n ≤ LIM) : guardL n a = some a := if_pos h

/-! ### operators -/
/-- bits of a number -/
def bits (i : Int) : Nat := i.natAbs.log2
def opAdd : D → D → Option D
  | .int i, .int j => some (.int (i + j))
  | .str a, .str b => guardL (a.length + b.length) (.str (a ++ b))
  | .int i, .bl k => some (.int (i + if k then 1 else 0))
  | _, _ => none
def opSub : D → D → Option D
  | .int i, .int j => some (.int (i - j))
  | _, _ => none
/-- a product: one factor small, or both together below a million bits -/
def mulOk (i j : Int) : Bool := decide (i.natAbs < 2 ^ 64) || decide (j.natAbs < 2 ^ 64) || decide (bits i + bits j < 1000000)
def opMul : D → D → Option D
  | .int i, .int j => if mulOk i j then some (.int (i * j)) else none
  | .str xs, .int k => if k ≤ (LIM : Int) ∧ -(LIM : Int) ≤ k ∧ xs.length * k.toNat ≤ LIM then some (.str (List.replicate k.toNat xs).flatten) else none
  | _, _ => none
def opDiv : D → D → Option D
  | .int i, .int j => if j ≠ 0 ∧ (j.natAbs < 1073741824 ∨ (0 < j ∧ bits j < 9000)) then some (.int (i.fdiv j)) else none
  | _, _ => none
def opMod : D → D → Option D
  | .int i, .int j => if j ≠ 0 then some (.int (i.fmod j)) else none
  | _, _ => none
def opPow : D → D → Option D
  | .int i, .int j => if 0 ≤ j ∧ j ≤ 1000000 ∧ i.natAbs < 2 ^ 64 then some (.int (i ^ j.toNat)) else none
  | _, _ => none
def opBor : D → D → Option D
  | .int (.ofNat i), .int (.ofNat j) => some (.int (.ofNat (i ||| j)))
  | _, _ => none
/-- lists, tuples one behind the other -/
def opCat : D → D → Option D
  | .lst a, .lst b => guardL (a.length + b.length) (.lst (a ++ b))
  | _, _ => none
/-- .. of any kind, the answer shared -/
def opCatT : D → D → Option D
  | .lst a, .lst b => guardL (a.length + b.length) (.lst (a ++ b))
  | .tup a, .tup b => guardL (a.length + b.length) (.tup (a ++ b))
  | _, _ => none
def opRep : D → D → Option D
  | .lst xs, .int k => if k ≤ (LIM : Int) ∧ -(LIM : Int) ≤ k ∧ xs.length * k.toNat ≤ LIM then some (.lst (List.replicate k.toNat xs).flatten) else none
  | _, _ => none
def op2 : O2 → D → D → Option D
  | .add => opAdd
  | .sub => opSub
  | .mul => opMul
  | .fdiv => opDiv
  | .mod => opMod
  | .pow => opPow
  | .bor => opBor
/-- x op= y at a local -/
def op2i : O2 → D → D → Option D
  | .add, .int i, .int j => some (.int (i + j))
  | .add, .str a, .str b => guardL (a.length + b.length) (.str (a ++ b))
  | .sub, .int i, .int j => some (.int (i - j))
  | _, _, _ => none
def opIn (x : D) : D → Option Bool
  | .str t => match x with
    | .str [c] => some (t.contains c)
    | _ => none
  | .lst ys => if flat x && ys.all flat then some (ys.any fun y => eqD y x) else none
  | .tup ys => if flat x && ys.all flat then some (ys.any fun y => eqD y x) else none
  | _ => none
def isD : D → D → Option Bool
  | .non, .non => some true
  | .bl a, .bl b => some (a == b)
  | _, .non => some false
  | x, .bl _ => if flat x || (match x with | .tup _ => true | .lst _ => true | _ => false) then some false else none
  | _, _ => none
def lexI : List Int → List Int → Bool
  | [], [] => false
  | [], _ :: _ => true
  | _ :: _, [] => false
  | x :: xs, y :: ys => if x = y then lexI xs ys else decide (x < y)
def cmpI (p : Int → Int → Bool) : D → D → Option Bool
  | .int i, .int j => some (p i j)
  | _, _ => none
def cp : Cp → D → D → Option Bool
  | .eq, x, y => if scalD x y || (isData x && isData y) then some (eqD x y) else none
  | .ne, x, y => if scalD x y || (isData x && isData y) then some (!eqD x y) else none
  | .lt, x, y => cmpI (fun i j => decide (i < j)) x y
  | .le, x, y => cmpI (fun i j => decide (i ≤ j)) x y
  | .gt, x, y => cmpI (fun i j => decide (j < i)) x y
  | .ge, x, y => cmpI (fun i j => decide (j ≤ i)) x y
  | .is, x, y => isD x y
  | .isn, x, y => (isD x y).map (!·)
  | .isin, x, y => opIn x y
  | .nin, x, y => (opIn x y).map (!·)
/-- the place that an index of any sign means -/
def ixn (n : Nat) (i : Int) : Option Nat := if 0 ≤ i then (if i < n then some i.toNat else none) else if -(n : Int) ≤ i then some (i + n).toNat else none
def getI {α : Type} (xs : List α) (i : Int) : Option α := (ixn xs.length i).bind fun j => xs[j]?
def opIx : D → D → Option D
  | .lst xs, .int i => getI xs i
  | .tup xs, .int i => getI xs i
  | .str s, .int i => if s.length ≤ LIM then (getI s i).map fun c => .str [c] else none
  | _, _ => none
/-- a slice's bound -/
def sIx (n d : Nat) : Option Int → Nat
  | none => d
  | some v => if v < 0 then (v + (n : Int)).toNat else min v.toNat n
def cut {α : Type} (xs : List α) (lo hi : Option Int) : List α := (xs.drop (sIx xs.length 0 lo)).take (sIx xs.length xs.length hi - sIx xs.length 0 lo)
def opSl (lo hi : Option Int) : D → Option D
  | .lst xs => some (.lst (cut xs lo hi))
  | .str xs => if xs.length ≤ LIM then some (.str (cut xs lo hi)) else none
  | _ => none
/-- .. of any kind, the answer shared -/
def opSlT (lo hi : Option Int) : D → Option D
  | .lst xs => some (.lst (cut xs lo hi))
  | .tup xs => some (.tup (cut xs lo hi))
  | .str xs => if xs.length ≤ LIM then some (.str (cut xs lo hi)) else none
  | _ => none
def opRev : D → Option D
  | .lst xs => some (.lst xs.reverse)
  | _ => none

/-! ### built-ins -/
def ints? : List D → Option (List Int)
  | [] => some []
  | .int i :: r => (ints? r).map (i :: ·)
  | _ => none
def bls? : List D → Option (List Bool)
  | [] => some []
  | .bl b :: r => (bls? r).map (b :: ·)
  | _ => none
def strs? : List D → Option (List Txt)
  | [] => some []
  | .str b :: r => (strs? r).map (b :: ·)
  | _ => none
/-- sorting by insertion -/
def insI (x : Int) : List Int → List Int
  | [] => [x]
  | y :: r => if x ≤ y then x :: y :: r else y :: insI x r
def sortI : List Int → List Int
  | [] => []
  | x :: r => insI x (sortI r)
def maxL : List Int → Option Int
  | [] => none
  | x :: r => some (r.foldl (fun m y => if m < y then y else m) x)
def minL : List Int → Option Int
  | [] => none
  | x :: r => some (r.foldl (fun m y => if y < m then y else m) x)
/-- unlike items, each once -/
def uniq : List D → List D
  | [] => []
  | x :: r => if r.any (fun y => eqD y x) then uniq r else x :: uniq r
/-- the written form of a number -/
def digs (n : Nat) : Txt := (Nat.toDigits 10 n).map Char.toNat
def itxt (i : Int) : Txt := if i < 0 then 45 :: digs i.natAbs else digs i.natAbs
def enumD (k : Nat) : List D → List D
  | [] => []
  | x :: r => .tup [.int k, x] :: enumD (k + 1) r
def zipD : List D → List D → List D
  | x :: xs, y :: ys => .tup [x, y] :: zipD xs ys
  | _, _ => []
def rangeD (lo : Int) (n : Nat) : List D := (List.range n).map fun (k : Nat) => .int (lo + (k : Int))
/-- range(n), range(m, n) -/
def rgD (x : D) : Option D := match x with
  | .int n => if n ≤ (LIM : Int) ∧ -(LIM : Int) ≤ n then some (.itr (rangeD 0 n.toNat)) else none
  | _ => none
def rg2D (x y : D) : Option D := match x, y with
  | .int m, .int n => if (n ≤ (LIM : Int) ∧ -(LIM : Int) ≤ n) ∧ m ≤ (LIM : Int) ∧ -(LIM : Int) ≤ m then some (.itr (rangeD m (n - m).toNat)) else none
  | _, _ => none
/-- what a loop walks -/
def items : D → Option (List D)
  | .lst xs => some xs
  | .tup xs => some xs
  | .str s => if s.length ≤ LIM then some (s.map fun c => .str [c]) else none
  | .itr xs => some xs
  | _ => none
def b1 : B1 → List D → Option D
  | .len, [.lst xs] => some (.int xs.length)
  | .len, [.tup xs] => some (.int xs.length)
  | .len, [.str s] => if s.length ≤ LIM then some (.int s.length) else none
  | .len, [.set xs] => some (.int (uniq xs).length)
  | .abs, [.int i] => some (.int (if i < 0 then -i else i))
  | .int, [.int i] => some (.int i)
  | .int, [.bl b] => some (.int (if b then 1 else 0))
  | .str, [.int i] => if bits i < 1900 then some (.str (itxt i)) else none
  | .list, [.lst xs] => some (.lst xs)
  | .list, [.tup xs] => some (.lst xs)
  | .tuple, [.lst xs] => some (.tup xs)
  | .tuple, [.tup xs] => some (.tup xs)
  | .sum, [.lst xs] => (ints? xs).map fun l => .int l.sum
  | .all, [.lst xs] => (bls? xs).map fun l => .bl (l.all id)
  | .any, [.lst xs] => (bls? xs).map fun l => .bl (l.any id)
  | .max, [.lst xs] => ((ints? xs).bind maxL).map .int
  | .min, [.lst xs] => ((ints? xs).bind minL).map .int
  | .max, [.int i, .int j] => some (.int (if j > i then j else i))
  | .min, [.int i, .int j] => some (.int (if j < i then j else i))
  | .sorted, [.lst xs] => (ints? xs).map fun l => .lst ((sortI l).map .int)
  | .gcd, [.int i, .int j] => some (.int (Int.gcd i j))
  | .isInt, [x] => (match x with | .int _ => some true | .bl _ => some true | .ob _ => none | .exc .. => none | .set _ => none | .itr _ => none | .dct .. => none | _ => some false).map .bl
  | .isBool, [x] => (match x with | .bl _ => some true | .ob _ => none | .exc .. => none | .set _ => none | .itr _ => none | .dct .. => none | _ => some false).map .bl
  | .isStr, [x] => (match x with | .str _ => some true | .ob _ => none | .exc .. => none | .set _ => none | .itr _ => none | .dct .. => none | _ => some false).map .bl
  | .isList, [x] => (match x with | .lst _ => some true | .ob _ => none | .exc .. => none | .set _ => none | .itr _ => none | .dct .. => none | _ => some false).map .bl
  | .isTuple, [x] => (match x with | .tup _ => some true | .ob _ => none | .exc .. => none | .set _ => none | .itr _ => none | .dct .. => none | _ => some false).map .bl
  | _, _ => none
/-- texts joined by a text -/
def joinT (sep : Txt) : List Txt → Txt
  | [] => []
  | [x] => x
  | x :: r => x ++ sep ++ joinT sep r
def splitT (c : Nat) : Txt → List Txt
  | [] => [[]]
  | x :: r => if x = c then [] :: splitT c r else match splitT c r with
    | [] => [[x]]
    | w :: ws => (x :: w) :: ws
def idxD (x : D) (k : Nat) : List D → Option Nat
  | [] => none
  | y :: r => if eqD y x then some k else idxD x (k + 1) r
def m1 : M1 → D → List D → Option D
  | .join, .str s, [.lst xs] => (strs? xs).bind fun l => guardL (joinT s l).length (.str (joinT s l))
  | .count, .str s, [.str [c]] => if s.length ≤ LIM then some (.int (s.count c)) else none
  | .index, .lst xs, [x] => if flat x && xs.all flat then (idxD x 0 xs).map fun (k : Nat) => .int (k : Int) else none
  | .split, .str s, [.str [c]] => guardL s.length (.lst ((splitT c s).map .str))
  | _, _, _ => none

/-- what has such a method -/
def mtOk : M1 → D → Bool
  | .index, .lst _ => true
  | .join, .str _ => true
  | .count, .str _ => true
  | .split, .str _ => true
  | .startswith, .str _ => true
  | .find, .str _ => true
  | _, _ => false

/-! ### places within a value -/
/-- the value at a path, changed by f -/
def updAt (f : D → Option D) : List D → D → Option D
  | [], d => f d
  | .int i :: p, .lst xs => (ixn xs.length i).bind fun j => (xs[j]?).bind fun x => (updAt f p x).map fun y => .lst (xs.set j y)
  | .int i :: p, .tup xs => (ixn xs.length i).bind fun j => (xs[j]?).bind fun x => (updAt f p x).map fun y => .tup (xs.set j y)
  | _, _ => none
def getP : List D → D → Option D
  | [], d => some d
  | .int i :: p, .lst xs => (ixn xs.length i).bind fun j => (xs[j]?).bind fun x => getP p x
  | .int i :: p, .tup xs => (ixn xs.length i).bind fun j => (xs[j]?).bind fun x => getP p x
  | _, _ => none
def setIx (i v : D) : D → Option D
  | .lst xs => match i with
    | .int k => (ixn xs.length k).map fun j => .lst (xs.set j v)
    | _ => none
  | _ => none
def appD (v : D) : D → Option D
  | .lst xs => if xs.length < LIM then some (.lst (xs ++ [v])) else none
  | _ => none
def extD (v : D) : D → Option D
  | .lst xs => match v with
    | .lst ys => guardL (xs.length + ys.length) (.lst (xs ++ ys))
    | _ => none
  | _ => none

/-! ### the evaluator -/
def Env.get (e : Env) (i : Nat) : Option D := e.s[i]?
def Env.set (e : Env) (i : Nat) (d : D) : Env := { e with s := e.s.set i d }
def setAll : List Nat → List D → Env → Env
  | i :: is, x :: xs, e => setAll is xs (e.set i x)
  | _, _, e => e
def asgT : T → D → Env → Option Env
  | .n i, d, e => some (e.set i d)
  | .tp is, d, e => match d with
    | .tup xs => if xs.length = is.length then some (setAll is xs e) else none
    | _ => none
/-- the slots of a target -/
def T.is : T → List Nat
  | .n i => [i]
  | .tp is => is
def compL (f : D → Env → R (List D)) : List D → Env → R (List D)
  | [], e => .ok [] e
  | x :: xs, e => (f x e).bind fun ys e1 => (compL f xs e1).bind fun zs e2 => .ok (ys ++ zs) e2
/-- the changed arguments are put back -/
def putBack : List C → List D → Env → Env
  | .io i :: as, d :: ds, e => putBack as ds (e.set i d)
  | .io _ :: _, [], e => e
  | _ :: as, ds, e => putBack as ds e
  | [], _, e => e
abbrev Oracle := Nat → List D → List Ob → CR
def callR (k : Oracle) (f : Nat) (as : List C) (xs : List D) (e : Env) : R D := match k f xs e.o with
  | .ok r outs o => .ok r (putBack as outs { e with o := o })
  | .exc x o => .exc x { e with o := o }
  | .bad => .bad
/-- the slots of a clause's names get their old values back -/
def restore : List Nat → Env → Env → Env
  | [], _, e => e
  | i :: is, e0, e => restore is e0 (e.set i ((e0.s[i]?).getD .non))
/-- one turn of a clause -/
def turnD (t : T) (f : Env → R (List D)) (y : D) (e : Env) : R (List D) := match asgT t y e with
  | none => .bad
  | some e1 => (f e1).bind fun zs e2 => .ok zs (restore t.is e e2)
def optI : D → Option (Option Int)
  | .int i => some (some i)
  | _ => none
section
variable (G : List D) (k : Oracle)
mutual
def ev : C → Env → R D
  | .non, e => .ok .non e
  | .bl b, e => .ok (.bl b) e
  | .int i, e => .ok (.int i) e
  | .str s, e => .ok (.str s) e
  | .v i, e => R.lift (e.get i) e
  | .mv i, e => R.lift (e.get i) e
  | .pk i, e => R.lift (e.get i) e
  | .io i, e => R.lift (e.get i) e
  | .bo i, e => R.lift (e.get i) e
  | .gl g, e => R.lift (G[g]?) e
  | .op o a b, e => (ev a e).bind fun x e1 => (ev b e1).bind fun y e2 => R.lift (op2 o x y) e2
  | .cat a b, e => (ev a e).bind fun x e1 => (ev b e1).bind fun y e2 => R.lift (opCat x y) e2
  | .catT a b, e => (ev a e).bind fun x e1 => (ev b e1).bind fun y e2 => R.lift (opCatT x y) e2
  | .rep a b, e => (ev a e).bind fun x e1 => (ev b e1).bind fun y e2 => R.lift (opRep x y) e2
  | .neg a, e => (ev a e).bind fun x e1 => match x with
    | .int i => .ok (.int (-i)) e1
    | _ => .bad
  | .nt a, e => (ev a e).bind fun x e1 => R.lift ((truth x).map fun b => .bl (!b)) e1
  | .and a b, e => (ev a e).bind fun x e1 => match truth x with
    | some true => ev b e1
    | some false => .ok x e1
    | none => .bad
  | .or a b, e => (ev a e).bind fun x e1 => match truth x with
    | some true => .ok x e1
    | some false => ev b e1
    | none => .bad
  | .cmp o a b, e => (ev a e).bind fun x e1 => (ev b e1).bind fun y e2 => R.lift ((cp o x y).map .bl) e2
  | .cmp2 o o' a b c, e => (ev a e).bind fun x e1 => (ev b e1).bind fun y e2 => match cp o x y with
    | some true => (ev c e2).bind fun z e3 => R.lift ((cp o' y z).map .bl) e3
    | some false => .ok (.bl false) e2
    | none => .bad
  | .ife c a b, e => (ev c e).bind fun x e1 => match truth x with
    | some true => ev a e1
    | some false => ev b e1
    | none => .bad
  | .call f as, e => (evL as e).bind fun xs e1 => callR k f as xs e1
  | .bi f as, e => (evL as e).bind fun xs e1 => R.lift (b1 f xs) e1
  | .mt m o as, e => (ev o e).bind fun x e1 => if mtOk m x = true then (evL as e1).bind fun xs e2 => R.lift (m1 m x xs) e2 else .bad
  | .ix a i, e => (ev a e).bind fun x e1 => (ev i e1).bind fun y e2 => R.lift (opIx x y) e2
  | .ixv x i, e => (R.lift (e.get x) e).bind fun x e1 => (ev i e1).bind fun y e2 => R.lift (opIx x y) e2
  | .sl a lo hi, e => (ev a e).bind fun x e1 => (evO lo e1).bind fun l e2 => (evO hi e2).bind fun h e3 => R.lift (opSl l h x) e3
  | .slT a lo hi, e => (ev a e).bind fun x e1 => (evO lo e1).bind fun l e2 => (evO hi e2).bind fun h e3 => R.lift (opSlT l h x) e3
  | .rev a, e => (ev a e).bind fun x e1 => R.lift (opRev x) e1
  | .lst as, e => (evL as e).bind fun xs e1 => .ok (.lst xs) e1
  | .tup as, e => (evL as e).bind fun xs e1 => .ok (.tup xs) e1
  | .rg a, e => (ev a e).bind fun x e1 => R.lift (rgD x) e1
  | .rg2 a b, e => (ev a e).bind fun x e1 => (ev b e1).bind fun y e2 => R.lift (rg2D x y) e2
  | .en a, e => (ev a e).bind fun x e1 => R.lift ((items x).map fun xs => .itr (enumD 0 xs)) e1
  | .zp a b, e => (ev a e).bind fun x e1 => (ev b e1).bind fun y e2 => R.lift ((items x).bind fun xs => (items y).map fun ys => .itr (zipD xs ys)) e2
  | .lc e t it cs, env => (ev it env).bind fun x e1 => match items x with
    | none => .bad
    | some xs => (compL (turnD t fun e3 => (evT cs e3).bind fun b e4 => if b = true then (ev e e4).bind fun z e5 => .ok [z] e5 else .ok [] e4) xs e1).nox.bind fun zs e6 =>
      R.lift (guardL zs.length (.lst zs)) e6
  | .lc2 e t it cs t2 it2 cs2, env => (ev it env).bind fun x e1 => match items x with
    | none => .bad
    | some xs => (compL (turnD t fun e3 => (evT cs e3).bind fun b e4 => if b = true then (ev it2 e4).bind fun x2 e5 => match items x2 with
          | none => .bad
          | some xs2 => compL (turnD t2 fun e7 => (evT cs2 e7).bind fun b2 e8 => if b2 = true then (ev e e8).bind fun z e9 => .ok [z] e9 else .ok [] e8) xs2 e5
          else .ok [] e4) xs e1).nox.bind fun zs e6 => R.lift (guardL zs.length (.lst zs)) e6
  | .fst as, e => (evL as e).bind fun xs e1 => R.lift ((strs? xs).bind fun l => guardL l.flatten.length (.str l.flatten)) e1
  | .fl a, e => (ev a e).bind fun x e1 => if flat x = true then .ok x e1 else .bad
  | .pop i, e => match e.get i with
    | some (.lst xs) => (match xs.getLast? with
      | some x => .ok x (e.set i (.lst xs.dropLast))
      | none => .bad)
    | _ => .bad
def evL : List C → Env → R (List D)
  | [], e => .ok [] e
  | a :: as, e => (ev a e).bind fun x e1 => (evL as e1).bind fun xs e2 => .ok (x :: xs) e2
/-- all tests -/
def evT : List C → Env → R Bool
  | [], e => .ok true e
  | a :: as, e => (ev a e).bind fun x e1 => match truth x with
    | some true => evT as e1
    | some false => .ok false e1
    | none => .bad
def evO : Option C → Env → R (Option Int)
  | none, e => .ok none e
  | some a, e => (ev a e).bind fun x e1 => R.lift (optI x) e1
end
/-- a place: a local and the places within it -/
def evP : C → Env → R (Nat × List D)
  | .pk x, e => .ok (x, []) e
  | .ix p i, e => (evP p e).bind fun ps e1 => (ev G k i e1).nox.bind fun j e2 => .ok (ps.1, ps.2 ++ [j]) { e2 with s := e1.s }
  | _, _ => .bad
/-- the list that a for walks is walked item by item -/
def forL (t : T) (b : Env → RS) : List D → Env → RS
  | [], e => .nx e
  | x :: xs, e => match asgT t x e with
    | none => .bad
    | some e1 => match b e1 with
      | .nx e2 => forL t b xs e2
      | .ct e2 => forL t b xs e2
      | .bk e2 => .nx e2
      | r => r
def BIG : Nat := 10 ^ 60
def whL (c : Env → R D) (b : Env → RS) : Nat → Env → RS
  | 0, _ => .bad
  | n + 1, e => (c e).st fun x e1 => match truth x with
    | some false => .nx e1
    | none => .bad
    | some true => match b e1 with
      | .nx e2 => whL c b n e2
      | .ct e2 => whL c b n e2
      | .bk e2 => .nx e2
      | r => r
/-- a change at a place of a local -/
def chg (x : Nat) (p : List D) (f : D → Option D) (e : Env) : RS := match (e.get x).bind (updAt f p) with
  | some d => .nx (e.set x d)
  | none => .bad
variable (sub : Nat → Nat → Bool)
mutual
def ex : S → Env → RS
  | .pass, e => .nx e
  | .brk, e => .bk e
  | .ct, e => .ct e
  | .asg t a, e => (ev G k a e).st fun x e1 => match asgT t x e1 with
    | some e2 => .nx e2
    | none => .bad
  | .par i j a b, e => (ev G k a e).st fun x e1 => (ev G k b e1).st fun y e2 => .nx ((e2.set i x).set j y)
  | .aug i o a, e => match e.get i with
    | none => .bad
    | some x => (ev G k a e).st fun y e1 => match op2i o x y with
      | some z => .nx (e1.set i z)
      | none => .bad
  | .six p i a, e => (ev G k a e).st fun v e1 => (evP G k p e1).st fun ps e2 => match (e2.get ps.1).bind (getP ps.2) with
    | some (.lst _) => (ev G k i e2).st fun i e3 => chg ps.1 ps.2 (setIx i v) e3
    | _ => .bad
  | .aix p i o a, e => (evP G k p e).st fun ps e1 => match (e1.get ps.1).bind (getP ps.2) with
    | some (.lst xs) => (ev G k i e1).st fun i e2 => match opIx (.lst xs) i with
      | none => .bad
      | some old => (ev G k a e2).st fun y e3 => match op2i o old y with
        | some z => chg ps.1 ps.2 (setIx i z) e3
        | none => .bad
    | _ => .bad
  | .app p a, e => (evP G k p e).st fun ps e1 => match (e1.get ps.1).bind (getP ps.2) with
    | some (.lst _) => (ev G k a e1).st fun v e2 => chg ps.1 ps.2 (appD v) e2
    | _ => .bad
  | .ext p a, e => (evP G k p e).st fun ps e1 => match (e1.get ps.1).bind (getP ps.2) with
    | some (.lst _) => (ev G k a e1).st fun v e2 => chg ps.1 ps.2 (extD v) e2
    | _ => .bad
  | .ex a, e => (ev G k a e).st fun _ e1 => .nx e1
  | .ite c a b, e => (ev G k c e).st fun x e1 => match truth x with
    | some true => exs a e1
    | some false => exs b e1
    | none => .bad
  | .fr t it b, e => (ev G k it e).st fun x e1 => match items x with
    | none => .bad
    | some xs => forL t (exs b) xs e1
  | .wl c b, e => whL (ev G k c) (exs b) BIG e
  | .ret a, e => (ev G k a e).st fun x e1 => .rt x e1
  | .retN, e => .rt .non e
  | .rs c as, e => (evL G k as e).st fun xs e1 => .exc (.exc c xs) e1
  | .tr b h, e => match exs b e with
    | .exc x e1 => hnd h x e1
    | r => r
  | .hc .., _ => .bad
def exs : List S → Env → RS
  | [], e => .nx e
  | a :: as, e => (ex a e).seq (exs as)
def hnd : S → D → Env → RS
  | .hc c i b nx, x, e => match x with
    | .exc c' _ => if sub c' c = true then exs b (e.set i x) else hnd nx x e
    | _ => .bad
  | _, x, e => .exc x e
end
end

/-! ### defs -/
structure Fn where
  np : Nat
  ns : Nat
  /-- the parameters that may be changed, their levels -/
  io : List Nat
  il : List Nat
  /-- the level of what is handed back -/
  rl : Nat
  body : List S
structure Prog where
  fns : List Fn
  gl : List D
  sub : Nat → Nat → Bool
def outsOf (e : Env) : List Nat → List D
  | [] => []
  | i :: is => (e.s[i]?.getD .non) :: outsOf e is
def ends (fn : Fn) : RS → CR
  | .rt d e => .ok d (outsOf e fn.io) e.o
  | .nx e => .ok .non (outsOf e fn.io) e.o
  | .exc x e => .exc x e.o
  | _ => .bad
def callFn (P : Prog) (k : Oracle) (fn : Fn) (args : List D) (o : List Ob) : CR :=
  if args.length = fn.np then ends fn (exs P.gl k P.sub fn.body ⟨args ++ List.replicate (fn.ns - fn.np) .non, o⟩) else .bad
def run (P : Prog) : Nat → Nat → List D → List Ob → CR
  | 0, _, _, _ => .bad
  | n + 1, f, args, o => match P.fns[f]? with
    | none => .bad
    | some fn => callFn P (run P n) fn args o
theorem run_eq {P : Prog} {n f : Nat} {fn : Fn} {args : List D} {o : List Ob} (h : P.fns[f]? = some fn) : run P (n + 1) f args o = callFn P (run P n) fn args o := by
  show (match P.fns[f]? with
    | none => CR.bad
    | some fn => callFn P (run P n) fn args o) = _
  rw [h]
end Z

/-! Z2: what stands in the abstract heap for a value: shared (in the part F that nobody changes) or one's own. -/
namespace Z
open PySem L2
abbrev AS := Addr → Prop
def emp : AS := fun _ => False
def txt (s : Txt) : Str := ⟨s.toArray⟩
def Sub (F H : Hp) : Prop := ∀ a o, F a = some o → H a = some o
theorem Sub.refl (F : Hp) : Sub F F := fun _ _ h => h
theorem Sub.trans {F G H : Hp} (a : Sub F G) (b : Sub G H) : Sub F H := fun _ _ h => b _ _ (a _ _ h)
def Dis (f g : AS) : Prop := ∀ a, f a → g a → False

mutual
def RF (K : PySem.W.Frag) (F : Hp) : D → V → Prop
  | .non, v => v = .non
  | .bl b, v => v = .bl b
  | .int i, v => v = .int i
  | .str s, v => v = .str (txt s)
  | .lst xs, v => ∃ a vs, v = .ref a ∧ Rd F a (.lst vs) ∧ RFL K F xs vs
  | .tup xs, v => ∃ a vs, v = .ref a ∧ SqT K F a vs ∧ RFL K F xs vs
  | _, _ => False
def RFL (K : PySem.W.Frag) (F : Hp) : List D → List V → Prop
  | [], vs => vs = []
  | x :: xs, vs => ∃ w ws, vs = w :: ws ∧ RF K F x w ∧ RFL K F xs ws
end
mutual
/-- level 1: shared; above: the object at its place is one's own -/
def RO (K : PySem.W.Frag) (F H : Hp) : D → Nat → V → AS → Prop
  | .lst xs, n, v, f => if n ≤ 1 then RF K F (.lst xs) v ∧ f = emp else
      ∃ a vs g, v = .ref a ∧ H a = some (.lst vs) ∧ F a = none ∧ ¬ g a ∧ ROL K F H xs (dn n) vs g ∧ f = fun b => b = a ∨ g b
  | .tup xs, n, v, f => if n ≤ 1 then RF K F (.tup xs) v ∧ f = emp else
      ∃ a vs g, v = .ref a ∧ H a = some (.tup vs) ∧ F a = none ∧ ¬ g a ∧ ROL K F H xs (dn n) vs g ∧ f = fun b => b = a ∨ g b
  | .non, _, v, f => v = .non ∧ f = emp
  | .bl b, _, v, f => v = .bl b ∧ f = emp
  | .int i, _, v, f => v = .int i ∧ f = emp
  | .str s, _, v, f => v = .str (txt s) ∧ f = emp
  | _, _, _, _ => False
def ROL (K : PySem.W.Frag) (F H : Hp) : List D → Nat → List V → AS → Prop
  | [], _, vs, f => vs = [] ∧ f = emp
  | x :: xs, n, vs, f => ∃ w ws g1 g2, vs = w :: ws ∧ RO K F H x n w g1 ∧ ROL K F H xs n ws g2 ∧ Dis g1 g2 ∧ f = fun b => g1 b ∨ g2 b
end
section
variable {K : PySem.W.Frag} {F F' H H' : Hp}
theorem SqL.sub {a : Addr} {xs : List V} (s : Sub F F') (h : SqL K F a xs) : SqL K F' a xs := by
  rcases h with (h | ⟨o, h⟩) | h
  · exact .inl (.inl (s _ _ h))
  · exact .inl (.inr ⟨o, s _ _ h⟩)
  · exact .inr h
theorem SqT.sub {a : Addr} {xs : List V} (s : Sub F F') (h : SqT K F a xs) : SqT K F' a xs := by
  rcases h with (h | ⟨o, h⟩) | h
  · exact .inl (.inl (s _ _ h))
  · exact .inl (.inr ⟨o, s _ _ h⟩)
  · exact .inr h
theorem Rd.sub {a : Addr} {u : HO} (s : Sub F F') (h : Rd F a u) : Rd F' a u := by
  rcases h with h | ⟨o, h⟩
  · exact .inl (s _ _ h)
  · exact .inr ⟨o, s _ _ h⟩
mutual
theorem RF.sub (s : Sub F F') : ∀ (d : D) (v : V), RF K F d v → RF K F' d v
  | .non, _, h => h
  | .bl _, _, h => h
  | .int _, _, h => h
  | .str _, _, h => h
  | .lst xs, v, h => by
    simp only [RF] at h ⊢
    obtain ⟨a, vs, e, q, r⟩ := h
    exact ⟨a, vs, e, Rd.sub s q, RFL.sub s xs vs r⟩
  | .tup xs, v, h => by
    simp only [RF] at h ⊢
    obtain ⟨a, vs, e, q, r⟩ := h
    exact ⟨a, vs, e, SqT.sub s q, RFL.sub s xs vs r⟩
  | .set _, _, h => h
  | .itr _, _, h => h
  | .dct _ _, _, h => h
  | .ob _, _, h => h
  | .exc _ _, _, h => h
theorem RFL.sub (s : Sub F F') : ∀ (xs : List D) (vs : List V), RFL K F xs vs → RFL K F' xs vs
  | [], _, h => h
  | x :: xs, vs, h => by
    simp only [RFL] at h ⊢
    obtain ⟨w, ws, e, q, r⟩ := h
    exact ⟨w, ws, e, RF.sub s x w q, RFL.sub s xs ws r⟩
end
mutual
/-- what is one's own reads in the heap -/
theorem RO.rf (s : Sub F H) : ∀ (d : D) (n : Nat) (v : V) (f : AS), RO K F H d n v f → RF K H d v
  | .non, _, _, _, h => by simp only [RO] at h; simp only [RF]; exact h.1
  | .bl _, _, _, _, h => by simp only [RO] at h; simp only [RF]; exact h.1
  | .int _, _, _, _, h => by simp only [RO] at h; simp only [RF]; exact h.1
  | .str _, _, _, _, h => by simp only [RO] at h; simp only [RF]; exact h.1
  | .lst xs, n, v, f, h => by
    unfold RO at h
    split at h
    · exact RF.sub s _ _ h.1
    · obtain ⟨a, vs, g, e, q, _, _, r, _⟩ := h
      simp only [RF]
      exact ⟨a, vs, e, .inl q, ROL.rf s xs _ vs g r⟩
  | .tup xs, n, v, f, h => by
    unfold RO at h
    split at h
    · exact RF.sub s _ _ h.1
    · obtain ⟨a, vs, g, e, q, _, _, r, _⟩ := h
      simp only [RF]
      exact ⟨a, vs, e, .inl (.inl q), ROL.rf s xs _ vs g r⟩
  | .set _, _, _, _, h => by simp only [RO] at h
  | .itr _, _, _, _, h => by simp only [RO] at h
  | .dct _ _, _, _, _, h => by simp only [RO] at h
  | .ob _, _, _, _, h => by simp only [RO] at h
  | .exc _ _, _, _, _, h => by simp only [RO] at h
theorem ROL.rf (s : Sub F H) : ∀ (xs : List D) (n : Nat) (vs : List V) (f : AS), ROL K F H xs n vs f → RFL K H xs vs
  | [], _, _, _, h => by simp only [ROL] at h; simp only [RFL]; exact h.1
  | x :: xs, n, vs, f, h => by
    simp only [ROL] at h
    obtain ⟨w, ws, g1, g2, e, q, r, _, _⟩ := h
    simp only [RFL]
    exact ⟨w, ws, e, RO.rf s x n w g1 q, ROL.rf s xs n ws g2 r⟩
end
/-- the cells are kept, and stay out of what is shared -/
structure Kept (f : AS) (F H F' H' : Hp) : Prop where
  sub : Sub F F'
  at_ : ∀ a, f a → H' a = H a
  out : ∀ a, f a → F a = none → F' a = none
theorem Kept.mono {f g : AS} (k : Kept f F H F' H') (s : ∀ a, g a → f a) : Kept g F H F' H' :=
  ⟨k.sub, fun a h => k.at_ a (s a h), fun a h => k.out a (s a h)⟩
mutual
theorem RO.kept : ∀ (d : D) (n : Nat) (v : V) (f : AS), Kept f F H F' H' → RO K F H d n v f → RO K F' H' d n v f
  | .non, _, _, _, _, h => h
  | .bl _, _, _, _, _, h => h
  | .int _, _, _, _, _, h => h
  | .str _, _, _, _, _, h => h
  | .lst xs, n, v, f, k, h => by
    unfold RO at h ⊢
    split at h <;> rename_i hn
    · rw [if_pos hn]
      exact ⟨RF.sub k.sub _ _ h.1, h.2⟩
    · rw [if_neg hn]
      obtain ⟨a, vs, g, e, q, z, na, r, rfl⟩ := h
      refine ⟨a, vs, g, e, ?_, k.out a (.inl rfl) z, na, ROL.kept xs _ vs g (k.mono fun b hb => .inr hb) r, rfl⟩
      rw [k.at_ a (.inl rfl), q]
  | .tup xs, n, v, f, k, h => by
    unfold RO at h ⊢
    split at h <;> rename_i hn
    · rw [if_pos hn]
      exact ⟨RF.sub k.sub _ _ h.1, h.2⟩
    · rw [if_neg hn]
      obtain ⟨a, vs, g, e, q, z, na, r, rfl⟩ := h
      refine ⟨a, vs, g, e, ?_, k.out a (.inl rfl) z, na, ROL.kept xs _ vs g (k.mono fun b hb => .inr hb) r, rfl⟩
      rw [k.at_ a (.inl rfl), q]
  | .set _, _, _, _, _, h => h
  | .itr _, _, _, _, _, h => h
  | .dct _ _, _, _, _, _, h => h
  | .ob _, _, _, _, _, h => h
  | .exc _ _, _, _, _, _, h => h
theorem ROL.kept : ∀ (xs : List D) (n : Nat) (vs : List V) (f : AS), Kept f F H F' H' → ROL K F H xs n vs f → ROL K F' H' xs n vs f
  | [], _, _, _, _, h => h
  | x :: xs, n, vs, f, k, h => by
    simp only [ROL] at h ⊢
    obtain ⟨w, ws, g1, g2, e, q, r, d, rfl⟩ := h
    exact ⟨w, ws, g1, g2, e, RO.kept x n w g1 (k.mono fun b hb => .inl hb) q, ROL.kept xs n ws g2 (k.mono fun b hb => .inr hb) r, d, rfl⟩
end
mutual
/-- own cells stand in the heap, outside of what is shared -/
theorem RO.cells : ∀ (d : D) (n : Nat) (v : V) (f : AS), RO K F H d n v f → ∀ a, f a → F a = none ∧ H a ≠ none
  | .non, _, _, _, h => by simp only [RO] at h; rw [h.2]; exact fun _ z => z.elim
  | .bl _, _, _, _, h => by simp only [RO] at h; rw [h.2]; exact fun _ z => z.elim
  | .int _, _, _, _, h => by simp only [RO] at h; rw [h.2]; exact fun _ z => z.elim
  | .str _, _, _, _, h => by simp only [RO] at h; rw [h.2]; exact fun _ z => z.elim
  | .lst xs, n, v, f, h => by
    unfold RO at h
    split at h
    · rw [h.2]; exact fun _ z => z.elim
    · obtain ⟨a, vs, g, e, q, z, na, r, rfl⟩ := h
      rintro b (rfl | hb)
      · exact ⟨z, by rw [q]; simp⟩
      · exact ROL.cells xs _ vs g r b hb
  | .tup xs, n, v, f, h => by
    unfold RO at h
    split at h
    · rw [h.2]; exact fun _ z => z.elim
    · obtain ⟨a, vs, g, e, q, z, na, r, rfl⟩ := h
      rintro b (rfl | hb)
      · exact ⟨z, by rw [q]; simp⟩
      · exact ROL.cells xs _ vs g r b hb
  | .set _, _, _, _, h => by simp only [RO] at h
  | .itr _, _, _, _, h => by simp only [RO] at h
  | .dct _ _, _, _, _, h => by simp only [RO] at h
  | .ob _, _, _, _, h => by simp only [RO] at h
  | .exc _ _, _, _, _, h => by simp only [RO] at h
theorem ROL.cells : ∀ (xs : List D) (n : Nat) (vs : List V) (f : AS), ROL K F H xs n vs f → ∀ a, f a → F a = none ∧ H a ≠ none
  | [], _, _, _, h => by simp only [ROL] at h; rw [h.2]; exact fun _ z => z.elim
  | x :: xs, n, vs, f, h => by
    simp only [ROL] at h
    obtain ⟨w, ws, g1, g2, e, q, r, d, rfl⟩ := h
    rintro b (hb | hb)
    · exact RO.cells x n w g1 q b hb
    · exact ROL.cells xs n ws g2 r b hb
end
/-- F with the cells g of H -/
noncomputable def frz (F H : Hp) (g : AS) : Hp := fun a => open Classical in if g a then H a else F a
theorem frz_in {g : AS} {a : Addr} (h : g a) : frz F H g a = H a := by unfold frz; rw [if_pos h]
theorem frz_out {g : AS} {a : Addr} (h : ¬ g a) : frz F H g a = F a := by unfold frz; rw [if_neg h]
theorem frz_sub {g : AS} (h : ∀ a, g a → F a = none) : Sub F (frz F H g) := fun a o e => by
  by_cases hg : g a
  · rw [h a hg] at e; cases e
  · rw [frz_out hg]; exact e
theorem frz_le {g : AS} (s : Sub F H) : Sub (frz F H g) H := fun a o e => by
  by_cases hg : g a
  · rw [frz_in hg] at e; exact e
  · rw [frz_out hg] at e; exact s _ _ e
theorem frz_emp : frz F H emp = F := by
  funext a
  exact frz_out fun z => z
theorem frz_frz {g g' : AS} : frz (frz F H g) H g' = frz F H (fun a => g a ∨ g' a) := by
  funext a
  by_cases h' : g' a
  · rw [frz_in h', frz_in (.inr h')]
  · rw [frz_out h']
    by_cases h : g a
    · rw [frz_in h, frz_in (.inl h)]
    · rw [frz_out h, frz_out (by simp [h, h'])]
theorem frz_kept {g f : AS} (h : ∀ a, g a → F a = none) (d : Dis f g) : Kept f F H (frz F H g) H :=
  ⟨frz_sub h, fun _ _ => rfl, fun a hf e => by rw [frz_out fun z => d a hf z]; exact e⟩
theorem dn_le_one {n : Nat} (h : n ≤ 1) : dn n = n := by unfold dn; rw [if_pos h]
theorem dn_mono {m n : Nat} (h : m ≤ n) : dn m ≤ dn n := by unfold dn; split <;> split <;> (try split) <;> (try split) <;> omega
theorem dn_pos {n : Nat} (h : 1 ≤ n) : 1 ≤ dn n := by unfold dn; split <;> (try split) <;> omega
theorem one_flat_lst {xs : List D} {n : Nat} {v : V} (hn : n ≤ 1) (h : RF K F (.lst xs) v) : RO K F H (.lst xs) n v emp := by
  unfold RO; rw [if_pos hn]; exact ⟨h, rfl⟩
theorem one_flat_tup {xs : List D} {n : Nat} {v : V} (hn : n ≤ 1) (h : RF K F (.tup xs) v) : RO K F H (.tup xs) n v emp := by
  unfold RO; rw [if_pos hn]; exact ⟨h, rfl⟩
/-- what is shared, at level 1 -/
theorem RO.of1 : ∀ {d : D} {v : V} {n : Nat}, n ≤ 1 → RF K F d v → RO K F H d n v emp
  | .non, _, _, _, h => by simp only [RF] at h; simp only [RO]; exact ⟨h, trivial⟩
  | .bl _, _, _, _, h => by simp only [RF] at h; simp only [RO]; exact ⟨h, trivial⟩
  | .int _, _, _, _, h => by simp only [RF] at h; simp only [RO]; exact ⟨h, trivial⟩
  | .str _, _, _, _, h => by simp only [RF] at h; simp only [RO]; exact ⟨h, trivial⟩
  | .lst _, _, _, hn, h => one_flat_lst hn h
  | .tup _, _, _, hn, h => one_flat_tup hn h
  | .set _, _, _, _, h => by simp only [RF] at h
  | .itr _, _, _, _, h => by simp only [RF] at h
  | .dct _ _, _, _, _, h => by simp only [RF] at h
  | .ob _, _, _, _, h => by simp only [RF] at h
  | .exc _ _, _, _, _, h => by simp only [RF] at h
theorem RO.to1 : ∀ {d : D} {v : V} {n : Nat} {f : AS}, n ≤ 1 → RO K F H d n v f → RF K F d v ∧ f = emp
  | .non, _, _, _, _, h => by simp only [RO] at h; simp only [RF]; exact h
  | .bl _, _, _, _, _, h => by simp only [RO] at h; simp only [RF]; exact h
  | .int _, _, _, _, _, h => by simp only [RO] at h; simp only [RF]; exact h
  | .str _, _, _, _, _, h => by simp only [RO] at h; simp only [RF]; exact h
  | .lst _, _, _, _, hn, h => by unfold RO at h; rw [if_pos hn] at h; exact h
  | .tup _, _, _, _, hn, h => by unfold RO at h; rw [if_pos hn] at h; exact h
  | .set _, _, _, _, _, h => by simp only [RO] at h
  | .itr _, _, _, _, _, h => by simp only [RO] at h
  | .dct _ _, _, _, _, _, h => by simp only [RO] at h
  | .ob _, _, _, _, _, h => by simp only [RO] at h
  | .exc _ _, _, _, _, _, h => by simp only [RO] at h
theorem RO.flat : ∀ {d : D} {v : V} {n m : Nat} {f : AS}, flat d = true → RO K F H d n v f → RO K F' H' d m v f
  | .non, _, _, _, _, _, h => by simp only [RO] at h ⊢; exact h
  | .bl _, _, _, _, _, _, h => by simp only [RO] at h ⊢; exact h
  | .int _, _, _, _, _, _, h => by simp only [RO] at h ⊢; exact h
  | .str _, _, _, _, _, _, h => by simp only [RO] at h ⊢; exact h
theorem RF.flat : ∀ {d : D} {v : V} {m : Nat}, Z.flat d = true → RF K F d v → RO K F' H' d m v emp
  | .non, _, _, _, h => by simp only [RF] at h; simp only [RO]; exact ⟨h, trivial⟩
  | .bl _, _, _, _, h => by simp only [RF] at h; simp only [RO]; exact ⟨h, trivial⟩
  | .int _, _, _, _, h => by simp only [RF] at h; simp only [RO]; exact ⟨h, trivial⟩
  | .str _, _, _, _, h => by simp only [RF] at h; simp only [RO]; exact ⟨h, trivial⟩
theorem ROL.to1 {G : Hp} : ∀ (xs : List D) (m : Nat) (vs : List V) (f : AS), m ≤ 1 → Sub F G → ROL K F H xs m vs f → RFL K G xs vs
  | [], _, _, _, _, _, h => by simp only [ROL] at h; simp only [RFL]; exact h.1
  | x :: xs, m, vs, f, hm, sg, h => by
    simp only [ROL] at h
    obtain ⟨w, ws, g1, g2, e, q, r, d, rfl⟩ := h
    simp only [RFL]
    exact ⟨w, ws, e, RF.sub sg _ _ (RO.to1 hm q).1, ROL.to1 xs m ws g2 hm sg r⟩
mutual
/-- a part g of the own cells is given up: level m -/
theorem RO.weak (s : Sub F H) : ∀ (d : D) (n m : Nat) (v : V) (f : AS), 1 ≤ m → m ≤ n → RO K F H d n v f →
    ∃ g f', (∀ a, f a ↔ g a ∨ f' a) ∧ Dis g f' ∧ RO K (frz F H g) H d m v f'
  | .non, _, _, _, f, _, _, h => ⟨emp, f, fun a => by simp [emp], fun a z => z.elim, h⟩
  | .bl _, _, _, _, f, _, _, h => ⟨emp, f, fun a => by simp [emp], fun a z => z.elim, h⟩
  | .int _, _, _, _, f, _, _, h => ⟨emp, f, fun a => by simp [emp], fun a z => z.elim, h⟩
  | .str _, _, _, _, f, _, _, h => ⟨emp, f, fun a => by simp [emp], fun a z => z.elim, h⟩
  | .lst xs, n, m, v, f, h1, hm, h => by
    by_cases hn : n ≤ 1
    · obtain ⟨h2, rfl⟩ := RO.to1 hn h
      refine ⟨emp, emp, fun a => by simp [emp], fun a z => z.elim, ?_⟩
      rw [frz_emp]
      exact RO.of1 (by omega) h2
    · unfold RO at h
      rw [if_neg hn] at h
      obtain ⟨a, vs, g, e, q, z, na, r, rfl⟩ := h
      obtain ⟨g1, f1, hs, hd, r1⟩ := ROL.weak s xs (dn n) (dn m) vs g (dn_pos h1) (dn_mono hm) r
      have hc := ROL.cells xs _ vs g r
      by_cases hm1 : m ≤ 1
      · have em : dn m = m := dn_le_one hm1
        rw [em] at r1
        refine ⟨fun b => b = a ∨ g b, emp, fun b => by simp [emp], fun _ _ z => z, ?_⟩
        refine RO.of1 hm1 ?_
        simp only [RF]
        have hsub : Sub (frz F H g1) (frz F H fun b => b = a ∨ g b) := fun b o eb => by
          by_cases hb : g1 b
          · rw [frz_in hb] at eb
            rw [frz_in (.inr ((hs b).mpr (.inl hb)))]
            exact eb
          · rw [frz_out hb] at eb
            by_cases hb' : b = a ∨ g b
            · rw [frz_in hb']; exact s _ _ eb
            · rw [frz_out hb']; exact eb
        refine ⟨a, vs, e, .inl (by rw [frz_in (.inl rfl)]; exact q), ?_⟩
        exact ROL.to1 xs m vs f1 hm1 hsub r1
      · refine ⟨g1, fun b => b = a ∨ f1 b, fun b => ?_, ?_, ?_⟩
        · have := hs b
          grind
        · rintro b hb (rfl | hb2)
          · exact na ((hs b).mpr (.inl hb))
          · exact hd b hb hb2
        · unfold RO
          rw [if_neg hm1]
          refine ⟨a, vs, f1, e, q, ?_, fun hb => na ((hs a).mpr (.inr hb)), r1, rfl⟩
          rw [frz_out fun hb => na ((hs a).mpr (.inl hb))]
          exact z
  | .tup xs, n, m, v, f, h1, hm, h => by
    by_cases hn : n ≤ 1
    · obtain ⟨h2, rfl⟩ := RO.to1 hn h
      refine ⟨emp, emp, fun a => by simp [emp], fun a z => z.elim, ?_⟩
      rw [frz_emp]
      exact RO.of1 (by omega) h2
    · unfold RO at h
      rw [if_neg hn] at h
      obtain ⟨a, vs, g, e, q, z, na, r, rfl⟩ := h
      obtain ⟨g1, f1, hs, hd, r1⟩ := ROL.weak s xs (dn n) (dn m) vs g (dn_pos h1) (dn_mono hm) r
      by_cases hm1 : m ≤ 1
      · have em : dn m = m := dn_le_one hm1
        rw [em] at r1
        refine ⟨fun b => b = a ∨ g b, emp, fun b => by simp [emp], fun _ _ z => z, ?_⟩
        refine RO.of1 hm1 ?_
        simp only [RF]
        have hsub : Sub (frz F H g1) (frz F H fun b => b = a ∨ g b) := fun b o eb => by
          by_cases hb : g1 b
          · rw [frz_in hb] at eb
            rw [frz_in (.inr ((hs b).mpr (.inl hb)))]
            exact eb
          · rw [frz_out hb] at eb
            by_cases hb' : b = a ∨ g b
            · rw [frz_in hb']; exact s _ _ eb
            · rw [frz_out hb']; exact eb
        refine ⟨a, vs, e, .inl (.inl (by rw [frz_in (.inl rfl)]; exact q)), ?_⟩
        exact ROL.to1 xs m vs f1 hm1 hsub r1
      · refine ⟨g1, fun b => b = a ∨ f1 b, fun b => ?_, ?_, ?_⟩
        · have := hs b
          grind
        · rintro b hb (rfl | hb2)
          · exact na ((hs b).mpr (.inl hb))
          · exact hd b hb hb2
        · unfold RO
          rw [if_neg hm1]
          refine ⟨a, vs, f1, e, q, ?_, fun hb => na ((hs a).mpr (.inr hb)), r1, rfl⟩
          rw [frz_out fun hb => na ((hs a).mpr (.inl hb))]
          exact z
  | .set _, _, _, _, _, _, _, h => by simp only [RO] at h
  | .itr _, _, _, _, _, _, _, h => by simp only [RO] at h
  | .dct _ _, _, _, _, _, _, _, h => by simp only [RO] at h
  | .ob _, _, _, _, _, _, _, h => by simp only [RO] at h
  | .exc _ _, _, _, _, _, _, _, h => by simp only [RO] at h
theorem ROL.weak (s : Sub F H) : ∀ (xs : List D) (n m : Nat) (vs : List V) (f : AS), 1 ≤ m → m ≤ n → ROL K F H xs n vs f →
    ∃ g f', (∀ a, f a ↔ g a ∨ f' a) ∧ Dis g f' ∧ ROL K (frz F H g) H xs m vs f'
  | [], _, _, _, f, _, _, h => ⟨emp, f, fun a => by simp [emp], fun a z => z.elim, by simp only [ROL] at h ⊢; exact h⟩
  | x :: xs, n, m, vs, f, h1, hm, h => by
    simp only [ROL] at h
    obtain ⟨w, ws, g1, g2, e, q, r, d, rfl⟩ := h
    obtain ⟨a1, b1, hs1, hd1, q1⟩ := RO.weak s x n m w g1 h1 hm q
    obtain ⟨a2, b2, hs2, hd2, r2⟩ := ROL.weak s xs n m ws g2 h1 hm r
    have c1 := RO.cells x n w g1 q
    have c2 := ROL.cells xs n ws g2 r
    refine ⟨fun b => a1 b ∨ a2 b, fun b => b1 b ∨ b2 b, fun b => ?_, fun b => ?_, ?_⟩
    · have := hs1 b; have := hs2 b; grind
    · have := hs1 b; have := hs2 b; have := d b; have := hd1 b; have := hd2 b; grind
    · simp only [ROL]
      refine ⟨w, ws, b1, b2, e, ?_, ?_, fun b hb1 hb2 => d b ((hs1 b).mpr (.inr hb1)) ((hs2 b).mpr (.inr hb2)), rfl⟩
      · have k : Kept b1 (frz F H a1) H (frz (frz F H a1) H a2) H := frz_kept (fun b hb => by
          by_cases hb1 : a1 b
          · exact (d b ((hs1 b).mpr (.inl hb1)) ((hs2 b).mpr (.inl hb))).elim
          · rw [frz_out hb1]; exact (c2 b ((hs2 b).mpr (.inl hb))).1) fun b hb1 hb2 => d b ((hs1 b).mpr (.inr hb1)) ((hs2 b).mpr (.inl hb2))
        have := RO.kept x m w b1 k q1
        rw [frz_frz] at this
        exact this
      · have k : Kept b2 (frz F H a2) H (frz (frz F H a2) H a1) H := frz_kept (fun b hb => by
          by_cases hb1 : a2 b
          · exact (d b ((hs1 b).mpr (.inl hb)) ((hs2 b).mpr (.inl hb1))).elim
          · rw [frz_out hb1]; exact (c1 b ((hs1 b).mpr (.inl hb))).1) fun b hb1 hb2 => d b ((hs1 b).mpr (.inl hb2)) ((hs2 b).mpr (.inr hb1))
        have := ROL.kept xs m ws b2 k r2
        rw [frz_frz] at this
        have e3 : (fun a => a2 a ∨ a1 a) = fun b => a1 b ∨ a2 b := by funext b; exact propext or_comm
        rw [e3] at this
        exact this
end
end
end Z

/-! Z3: the judgement SE: what the evaluator says of an expression, the machine does. -/
namespace Z
open PySem L2
abbrev Gm := List Nat
def lvOf (Γ : Gm) (i : Nat) : Nat := Γ.getD i 0
def own (n : Nat) : Bool := decide (1 ≤ n) && decide (n ≤ 100)
theorem own_pos {n : Nat} (h : own n = true) : 1 ≤ n := by simp [own] at h; exact h.1
theorem own_ne {n : Nat} (h : own n = true) : n ≠ 0 := by have := own_pos h; omega
def Own (fp : Nat → AS) : AS := fun a => ∃ i, fp i a
/-- the locals, by their levels -/
structure St (K : PySem.W.Frag) (Γ : Gm) (e : List D) (σ : L2.St) (F H : Hp) (fp : Nat → AS) : Prop where
  sub : Sub F H
  lG : Γ.length = σ.length
  le : e.length = σ.length
  at_ : ∀ i, 1 ≤ lvOf Γ i → ∃ d v, e[i]? = some d ∧ σ[i]? = some (some v) ∧ RO K F H d (lvOf Γ i) v (fp i)
  dis : ∀ i j, i ≠ j → Dis (fp i) (fp j)
  dead : ∀ i, lvOf Γ i = 0 → fp i = emp
structure Ch (o w : AS) (F H F' H' : Hp) : Prop where
  sub : Sub F F'
  keep : ∀ a x, H a = some x → ¬ w a → H' a = some x
  new : ∀ a, F a = none → F' a ≠ none → o a ∨ H a = none
def Wr (q : Bool) (fp : Nat → AS) : AS := fun a => q = false ∧ Own fp a
/-- the cells grow out of one's own or are new -/
def Grow (f g : AS) (H : Hp) : Prop := ∀ a, f a → g a ∨ H a = none
/-- 0: it reads now; else by its level -/
def Val (K : PySem.W.Frag) (m : Nat) (F H : Hp) (d : D) (v : V) (f : AS) : Prop := if m = 0 then RF K H d v ∧ f = emp else RO K F H d m v f
def ValL (K : PySem.W.Frag) (F H : Hp) : List Nat → List D → List V → AS → Prop
  | [], [], vs, f => vs = [] ∧ f = emp
  | m :: ms, x :: xs, vs, f => ∃ w ws g1 g2, vs = w :: ws ∧ Val K m F H x w g1 ∧ ValL K F H ms xs ws g2 ∧ Dis g1 g2 ∧ f = fun b => g1 b ∨ g2 b
  | _, _, _, _ => False
structure Go (K : PySem.W.Frag) (q : Bool) (Γ' : Gm) (σ : L2.St) (F H : Hp) (fp : Nat → AS) (e0 e' : List D) (F' H' : Hp) (fp' : Nat → AS) (f : AS) : Prop where
  same : q = true → e' = e0
  st : St K Γ' e' σ F' H' fp'
  dis : Dis f (Own fp')
  ch : Ch (Own fp) (Wr q fp) F H F' H'
  grow : Grow (fun a => Own fp' a ∨ f a) (Own fp) H
/-- the tables of a law -/
structure Tb where
  K : PySem.W.Frag
  P : Prog
  ca : Nat → Addr
  cf : Nat → List Str
/-- an exception that was raised -/
def Exc (T : Tb) (F H : Hp) : D → Value → Option Addr → Prop
  | .exc c xs, cls, dx => cls = .ref (T.ca c) ∧ ∃ a vs, dx = some a ∧ H a = some (.xd ((T.cf c).zip vs)) ∧ vs.length = (T.cf c).length ∧ RFL T.K F xs vs
  | _, _, _ => False
/-- what is wanted of an exception -/
def XW (T : Tb) (W : WX) (kp : List Nat) (σ : L2.St) (F H : Hp) (fp : Nat → AS) (x : D) (e' : List D) : Prop :=
  ∀ F' H' cls dx, Sub F' H' → e'.length = σ.length → Ch (Own fp) (Own fp) F H F' H' → (∀ i ∈ kp, ∃ d v, e'[i]? = some d ∧ σ[i]? = some (some v) ∧ RF T.K F' d v) → Exc T F' H' x cls dx → W cls dx σ H'
section
variable (T : Tb) (W : WX) (kp : List Nat) (k : Oracle)
def rdE (q : Bool) (r : Env → R D) (Γ : Gm) (m : Nat) (Γ' : Gm) : TE := fun σ H Q => ∃ e F fp, St T.K Γ e.s σ F H fp ∧ match r e with
  | .ok d e' => ∀ F' H' fp' v f, Go T.K q Γ' σ F H fp e.s e'.s F' H' fp' f → Val T.K m F' H' d v f → Q v H'
  | .exc x e' => XW T W kp σ F H fp x e'.s
  | .bad => False
def rdL (q : Bool) (r : Env → R (List D)) (Γ : Gm) (ms : List Nat) (Γ' : Gm) : TA := fun σ H Q => ∃ e F fp, St T.K Γ e.s σ F H fp ∧ match r e with
  | .ok xs e' => ∀ F' H' fp' vs f, Go T.K q Γ' σ F H fp e.s e'.s F' H' fp' f → ValL T.K F' H' ms xs vs f → Q vs H'
  | .exc x e' => XW T W kp σ F H fp x e'.s
  | .bad => False
end
/-- THE JUDGEMENT of an expression; of a list of expressions -/
def SE (X : Cx) (T : Tb) (W : WX) (kp : List Nat) (q : Bool) (r : Env → R D) (x : Expr) (Γ : Gm) (m : Nat) (Γ' : Gm) : Prop := PE X x (rdE T W kp q r Γ m Γ')
def SL (X : Cx) (T : Tb) (W : WX) (kp : List Nat) (q : Bool) (r : Env → R (List D)) (xs : List Expr) (Γ : Gm) (ms : List Nat) (Γ' : Gm) : Prop := PA X xs (rdL T W kp q r Γ ms Γ')

theorem PE.mono {X : Cx} {x : Expr} {t t' : TE} (h : PE X x t) (m : ∀ σ H Q, t' σ H Q → t σ H Q) : PE X x t' := ⟨fun pins s σ H Q I z => h.run pins s σ H Q I (m σ H Q z)⟩
theorem PA.mono {X : Cx} {x : List Expr} {t t' : TA} (h : PA X x t) (m : ∀ σ H Q, t' σ H Q → t σ H Q) : PA X x t' := ⟨fun pos pins s σ H Q I z => h.run pos pins s σ H Q I (m σ H Q z)⟩
theorem PT.mono {X : Cx} {x : Expr} {t t' : TT} (h : PT X x t) (m : ∀ σ H Q, t' σ H Q → t σ H Q) : PT X x t' := ⟨fun pins s σ H Q I z => h.run pins s σ H Q I (m σ H Q z)⟩

section
variable {K : PySem.W.Frag} {F H F' H' F2 H2 : Hp} {fp fp' fp2 : Nat → AS} {o w : AS}
theorem Wr_own {q : Bool} {a : Addr} (h : Wr q fp a) : Own fp a := h.2
theorem Ch.refl : Ch o w F H F H := ⟨Sub.refl F, fun _ _ h _ => h, fun a h h' => (h' h).elim⟩
theorem Ch.mono {o' w' : AS} (c : Ch o w F H F' H') (ho : ∀ a, o a → o' a) (hw : ∀ a, w a → w' a) : Ch o' w' F H F' H' :=
  ⟨c.sub, fun a x h n => c.keep a x h fun z => n (hw a z), fun a h h' => (c.new a h h').imp (ho a) id⟩
theorem Grow.none {f g : AS} (c : Ch o w F H F' H') (hw : ∀ a, w a → o a) {a : Addr} (h : H' a = none) : o a ∨ H a = none := by
  cases e : H a with
  | none => exact .inr rfl
  | some x =>
    refine .inl (Classical.byContradiction fun n => ?_)
    have := c.keep a x e fun z => n (hw a z)
    rw [h] at this; cases this
/-- one behind the other -/
theorem Ch.trans {o1 w1 : AS} (c : Ch o w F H F' H') (hw : ∀ a, w a → o a) (g : Grow o1 o H) (c1 : Ch o1 w1 F' H' F2 H2) (hw1 : ∀ a, w1 a → o1 a) (hz : ∀ a, w1 a → o a → w a) : Ch o w F H F2 H2 := by
  refine ⟨c.sub.trans c1.sub, fun a x h n => ?_, fun a h h' => ?_⟩
  · refine c1.keep a x (c.keep a x h n) fun z => ?_
    rcases g a (hw1 a z) with z1 | z1
    · exact n (hz a z z1)
    · rw [h] at z1; cases z1
  · cases e : F' a with
    | some y => exact c.new a h (by rw [e]; simp)
    | none =>
      rcases c1.new a e h' with z | z
      · exact g a z
      · exact Grow.none (f := o) (g := o) c hw z
theorem Ch.kept {f : AS} (c : Ch o w F H F' H') (hw : ∀ a, w a → o a) (d : Dis f o) (hc : ∀ a, f a → F a = none ∧ H a ≠ none) : Kept f F H F' H' :=
  ⟨c.sub, fun a hf => by
    cases e : H a with
    | none => exact absurd e (hc a hf).2
    | some x => rw [c.keep a x e fun z => d a hf (hw a z)], fun a hf _ => by
    cases e : F' a with
    | none => rfl
    | some y => exact ((c.new a (hc a hf).1 (by rw [e]; simp)).elim (d a hf) (hc a hf).2).elim⟩
theorem Ch.subH {q : Bool} (c : Ch (Own fp) (Wr q fp) F H F' H') (hq : q = true) : Sub H H' := fun a x h => c.keep a x h fun z => by rw [hq] at z; exact absurd z.1 (by decide)
theorem Val.cells {m : Nat} {d : D} {v : V} {f : AS} (h : Val K m F H d v f) : ∀ a, f a → F a = none ∧ H a ≠ none := by
  unfold Val at h
  split at h
  · rw [h.2]; exact fun _ z => z.elim
  · exact RO.cells d m v f h
theorem Val.rf {m : Nat} {d : D} {v : V} {f : AS} (s : Sub F H) (h : Val K m F H d v f) : RF K H d v := by
  unfold Val at h
  split at h
  · exact h.1
  · exact RO.rf s d m v f h
theorem Val.ro {m : Nat} {d : D} {v : V} {f : AS} (hm : own m = true) (h : Val K m F H d v f) : RO K F H d m v f := by
  unfold Val at h; rw [if_neg (own_ne hm)] at h; exact h
theorem Val.of {m : Nat} {d : D} {v : V} {f : AS} (hm : m ≠ 0) (h : RO K F H d m v f) : Val K m F H d v f := by
  unfold Val; rw [if_neg hm]; exact h
theorem Val.flat {m : Nat} {d : D} {v : V} (hd : flat d = true) (h : RF K H d v) : Val K m F H d v emp := by
  unfold Val
  split
  · exact ⟨h, rfl⟩
  · exact RF.flat hd h
theorem ValL.cells : ∀ {ms : List Nat} {xs : List D} {vs : List V} {f : AS}, ValL K F H ms xs vs f → ∀ a, f a → F a = none ∧ H a ≠ none
  | [], [], _, _, h => by simp only [ValL] at h; rw [h.2]; exact fun _ z => z.elim
  | m :: ms, x :: xs, _, _, h => by
    simp only [ValL] at h
    obtain ⟨w, ws, g1, g2, _, h1, h2, _, rfl⟩ := h
    rintro a (z | z)
    · exact h1.cells a z
    · exact ValL.cells h2 a z
  | [], _ :: _, _, _, h => by simp only [ValL] at h
  | _ :: _, [], _, _, h => by simp only [ValL] at h
theorem ValL.rf (s : Sub F H) : ∀ {ms : List Nat} {xs : List D} {vs : List V} {f : AS}, ValL K F H ms xs vs f → RFL K H xs vs
  | [], [], _, _, h => by simp only [ValL] at h; simp only [RFL]; exact h.1
  | m :: ms, x :: xs, _, _, h => by
    simp only [ValL] at h
    obtain ⟨w, ws, g1, g2, e, h1, h2, _, rfl⟩ := h
    simp only [RFL]
    exact ⟨w, ws, e, h1.rf s, ValL.rf s h2⟩
  | [], _ :: _, _, _, h => by simp only [ValL] at h
  | _ :: _, [], _, _, h => by simp only [ValL] at h
/-- a value while the rest runs -/
theorem Val.stay {m : Nat} {d : D} {v : V} {f : AS} {q : Bool} (h : Val K m F H d v f) (c : Ch (Own fp) (Wr q fp) F H F' H') (hd : Dis f (Own fp)) (hs : own m = true ∨ q = true) (hm : m ≠ 0 ∨ q = true) : Val K m F' H' d v f := by
  have hc := h.cells
  unfold Val at h ⊢
  split at h <;> rename_i h0
  · rw [if_pos h0]
    refine ⟨RF.sub (c.subH ?_) _ _ h.1, h.2⟩
    rcases hm with z | z
    · exact absurd h0 z
    · exact z
  · rw [if_neg h0]
    exact RO.kept d m v f (c.kept (fun _ z => z.2) hd hc) h
theorem ValL.stay {q : Bool} (c : Ch (Own fp) (Wr q fp) F H F' H') : ∀ {ms : List Nat} {xs : List D} {vs : List V} {f : AS}, ValL K F H ms xs vs f → Dis f (Own fp) → (ms.all own = true ∨ q = true) → ValL K F' H' ms xs vs f
  | [], [], _, _, h, _, _ => h
  | m :: ms, x :: xs, _, _, h, hd, hs => by
    simp only [ValL] at h ⊢
    obtain ⟨w, ws, g1, g2, e, h1, h2, d, rfl⟩ := h
    have hs1 : own m = true ∨ q = true := hs.imp (fun z => by simp only [List.all_cons, Bool.and_eq_true] at z; exact z.1) id
    have hs2 : ms.all own = true ∨ q = true := hs.imp (fun z => by simp only [List.all_cons, Bool.and_eq_true] at z; exact z.2) id
    exact ⟨w, ws, g1, g2, e, h1.stay c (fun a z => hd a (.inl z)) hs1 (hs1.imp own_ne id), ValL.stay c h2 (fun a z => hd a (.inr z)) hs2, d, rfl⟩
  | [], _ :: _, _, _, h, _, _ => by simp only [ValL] at h
  | _ :: _, [], _, _, h, _, _ => by simp only [ValL] at h
theorem Go.refl {Γ : Gm} {σ : L2.St} {e : List D} {q : Bool} (s : St K Γ e σ F H fp) : Go K q Γ σ F H fp e e F H fp emp :=
  ⟨fun _ => rfl, s, fun _ z => z.elim, .refl, fun a z => z.elim .inl fun z => z.elim⟩
theorem and_tt {a b : Bool} (h : (a && b) = true) : a = true ∧ b = true := by simpa using h
/-- two runs, one behind the other -/
theorem Go.trans {q1 q2 : Bool} {Γ1 Γ2 : Gm} {σ : L2.St} {e0 e1 e2 : List D} {f1 f2 : AS} (a : Go K q1 Γ1 σ F H fp e0 e1 F' H' fp' f1) (b : Go K q2 Γ2 σ F' H' fp' e1 e2 F2 H2 fp2 f2) (hc : ∀ x, f1 x → F' x = none ∧ H' x ≠ none) :
    Go K (q1 && q2) Γ2 σ F H fp e0 e2 F2 H2 fp2 (fun x => f1 x ∨ f2 x) := by
  have gr : Grow (Own fp') (Own fp) H := fun x z => a.grow x (.inl z)
  refine ⟨fun z => (b.same (and_tt z).2).trans (a.same (and_tt z).1), b.st, ?_, ?_, ?_⟩
  · rintro x (z | z) y
    · rcases b.grow x (.inl y) with u | u
      · exact a.dis x z u
      · exact (hc x z).2 u
    · exact b.dis x z y
  · refine Ch.trans (a.ch.mono (fun _ z => z) fun x z => ?_) (fun _ z => z.2) gr b.ch (fun _ z => z.2) fun x z y => ?_
    · exact ⟨by rw [z.1]; rfl, z.2⟩
    · exact ⟨by rw [z.1]; cases q1 <;> rfl, y⟩
  · rintro x (z | z | z)
    · rcases b.grow x (.inl z) with u | u
      · exact gr x u
      · exact Grow.none (f := emp) (g := emp) a.ch (fun _ z => z.2) u
    · exact a.grow x (.inr z)
    · rcases b.grow x (.inr z) with u | u
      · exact gr x u
      · exact Grow.none (f := emp) (g := emp) a.ch (fun _ z => z.2) u
theorem XW.back {T : Tb} {W : WX} {kp : List Nat} {σ : L2.St} {q : Bool} {Γ1 : Gm} {e0 e1 e2 : List D} {f : AS} {x : D} (h : XW T W kp σ F H fp x e2) (a : Go K q Γ1 σ F H fp e0 e1 F' H' fp' f) : XW T W kp σ F' H' fp' x e2 :=
  fun F2 H2 cls dx s l c kr ex => h F2 H2 cls dx s l (Ch.trans (a.ch.mono (fun _ z => z) fun _ z => z.2) (fun _ z => z) (fun x z => a.grow x (.inl z)) c (fun _ z => z) fun _ _ z => z) kr ex
end

section
variable {X : Cx} {T : Tb} {W : WX} {kp : List Nat}
theorem go_app {K : PySem.W.Frag} {q : Bool} {Γ' : Gm} {σ : L2.St} {F H : Hp} {fp : Nat → AS} {e0 e' : List D} {F' H' : Hp} {fp' : Nat → AS} {f g : AS} (h : Go K q Γ' σ F H fp e0 e' F' H' fp' f) (e : ∀ a, g a → f a) : Go K q Γ' σ F H fp e0 e' F' H' fp' g :=
  ⟨h.same, h.st, fun a z => h.dis a (e a z), h.ch, fun a z => h.grow a (z.imp id (e a))⟩
/-- the empty list of expressions -/
theorem sl_nil {Γ : Gm} {q : Bool} : SL X T W kp q (fun e => .ok [] e) [] Γ [] Γ := by
  refine PA.mono pa_nil fun σ H Q h => ?_
  obtain ⟨e, F, fp, s, h⟩ := h
  exact h F H fp [] emp (Go.refl s) ⟨rfl, rfl⟩
theorem sl_cons {q1 q2 : Bool} {r : Env → R D} {rs : Env → R (List D)} {x : Expr} {xs : List Expr} {Γ Γ1 Γ2 : Gm} {m : Nat} {ms : List Nat} (ha : SE X T W kp q1 r x Γ m Γ1) (hs : SL X T W kp q2 rs xs Γ1 ms Γ2) (hm : own m = true ∨ q2 = true)
    (hst : starEach (x :: xs) X.env = (false, eval x X.env) :: starEach xs X.env) : SL X T W kp (q1 && q2) (fun e => (r e).bind fun d e1 => (rs e1).bind fun ds e2 => .ok (d :: ds) e2) (x :: xs) Γ (m :: ms) Γ2 := by
  refine PA.mono (pa_cons ha hs hst) fun σ H Q h => ?_
  obtain ⟨e, F, fp, s, h⟩ := h
  refine ⟨e, F, fp, s, ?_⟩
  dsimp only at h
  cases e1 : r e with
  | bad => rw [e1] at h; exact h
  | exc y e' => rw [e1] at h; exact h
  | ok d e' =>
    rw [e1] at h
    simp only [R.bind_ok] at h
    intro F1 H1 fp1 v f g val
    refine ⟨e', F1, fp1, g.st, ?_⟩
    cases e2 : rs e' with
    | bad => rw [e2] at h; exact h
    | exc y e2' => rw [e2] at h; exact XW.back h g
    | ok ds e2' =>
      rw [e2] at h
      simp only [R.bind_ok] at h
      intro F2 H2 fp2 vs f2 g2 val2
      refine h F2 H2 fp2 (v :: vs) _ (Go.trans g g2 val.cells) ?_
      have val' := val.stay g2.ch g.dis hm (hm.imp own_ne id)
      refine ⟨v, vs, f, f2, rfl, val', val2, fun a z1 z2 => ?_, rfl⟩
      rcases g2.grow a (.inr z2) with u | u
      · exact g.dis a z1 u
      · exact (val.cells a z1).2 u
end
/-! ### side conditions on syntax -/
def ns : Expr → Bool
  | .Starred _ _ => false
  | _ => true
theorem star_cons {e : Expr} {es : List Expr} {env : PySem.Env} (h : ns e = true) : starEach (e :: es) env = (false, eval e env) :: starEach es env := by
  cases e <;> first
    | rfl
    | (simp [ns] at h)
theorem star_any {pos : Pos} {env : PySem.Env} : ∀ {es : List Expr}, es.all ns = true → (backTo pos (starEach es env)).any (·.1) = false
  | [], _ => rfl
  | e :: es, h => by
    simp only [List.all_cons, Bool.and_eq_true] at h
    rw [star_cons h.1]
    have := star_any (pos := pos) (env := env) h.2
    simp only [backTo, List.map_cons, List.any_cons, Bool.false_or] at this ⊢
    exact this
theorem star_all {pos : Pos} {env : PySem.Env} : ∀ {es : List Expr}, es.all ns = true → (backTo pos (starEach es env)).all (fun x => !x.1) = true
  | [], _ => rfl
  | e :: es, h => by
    simp only [List.all_cons, Bool.and_eq_true] at h
    rw [star_cons h.1]
    have := star_all (pos := pos) (env := env) h.2
    simp only [backTo, List.map_cons, List.all_cons, Bool.not_false, Bool.true_and] at this ⊢
    exact this
/-- no super() -/
def nsup : Expr → Bool
  | .Call (.Name id _) [] [] _ => id != "super"
  | _ => true
theorem base_ok {o : Expr} {a : Str} {env : PySem.Env} {w : Sem Value} (h : nsup o = true) : attributeBase o a env w = w := by
  unfold attributeBase
  split
  · rename_i id _ _
    have : (id != "super") = true := h
    simp only [this, Bool.true_or, if_true]
  · rfl
theorem bm_few {cpos : Pos} {e : Expr} {es : List Expr} {env : PySem.Env} (h : (e :: es).all ns = true) (hl : es.length < 20) : ((backTo cpos (starEach (e :: es) env)).all (fun x => !x.1) && (backToKw cpos (keywordEach [] env)).all (fun x => x.1.isSome)
      && decide ((e :: es).length + ([] : List Keyword).length + (if ([] : List Keyword).isEmpty then 0 else 1) < 30)) = true := by
  rw [star_all h]
  have e1 : (backToKw cpos (keywordEach [] env)).all (fun x => x.1.isSome) = true := by simp [backToKw, keywordEach]
  rw [e1]
  simp
  try omega
/-- no comprehension on its own -/
def nlc : Expr → Bool
  | .ListComp .. => false
  | .SetComp .. => false
  | .DictComp .. => false
  | _ => true
theorem swaps_ok {e : Expr} {t : Option Expr} {l : Nat} {env : PySem.Env} (h : nlc e = true) : swapsWith e t l env = pure false := by
  cases e <;> first
    | rfl
    | (simp [nlc] at h)
end Z

/-! Z4: the operators' rules: what the evaluator says of values, the machine says. -/
namespace Z
open PySem L2
theorem txt_len (s : Txt) : (txt s).length = s.length := by simp [txt, Str.length]
theorem txt_app (a b : Txt) : txt a ++ txt b = txt (a ++ b) := by
  show Str.append (txt a) (txt b) = txt (a ++ b)
  simp [txt, Str.append]
theorem txt_list (s : Txt) : (txt s).cps.toList = s := by simp [txt]
theorem txt_inj {a b : Txt} (h : txt a = txt b) : a = b := by
  have := congrArg (fun z : Str => z.cps.toList) h
  simpa [txt] using this
theorem txt_dec (a b : Txt) : decide (V.str (txt a) = V.str (txt b)) = (a == b) := by
  by_cases h : a = b
  · subst h; simp
  · have : ¬ (V.str (txt a) = V.str (txt b)) := fun e => h (txt_inj (V.str.inj e))
    simp [this, h]
theorem lim_line {n : Nat} (h : n ≤ LIM) : n ≤ sizeLine := Nat.le_trans h (by decide)
/-- a rule with a flat answer -/
def Flat2 (K : PySem.W.Frag) (rr : R2) (g : D → D → Option D) : Prop :=
  ∀ (H : Hp) (x y : D) (v u : V) (d : D) (Q : VK), RF K H x v → RF K H y u → g x y = some d → flat d = true ∧ ((∀ w, RF K H d w → Q w H) → rr v u H Q)
theorem _root_.L2.OpR.imp {X : Cx} {f : Value → Value → Sem Value} {r r' : R2} (h : OpR X f r) (m : ∀ x y H Q, r' x y H Q → r x y H Q) : OpR X f r' :=
  fun pins s σ H x y v u Q I rx ry z => h pins s σ H x y v u Q I rx ry (m x y H Q z)
/-- the rule that the evaluator asks -/
def rG (K : PySem.W.Frag) (g : D → D → Option D) : R2 := fun v u H Q => ∃ x y d, RF K H x v ∧ RF K H y u ∧ g x y = some d ∧ ∀ w, RF K H d w → Q w H
theorem rG_of {X : Cx} {f : Value → Value → Sem Value} {rr : R2} {g : D → D → Option D} (h : OpR X f rr) (m : Flat2 X.K rr g) : OpR X f (rG X.K g) :=
  h.imp fun v u H Q ⟨x, y, d, h1, h2, h3, h4⟩ => (m H x y v u d Q h1 h2 h3).2 h4
section
variable {K : PySem.W.Frag} {H : Hp}
theorem rf_int {i : Int} {v : V} (h : RF K H (.int i) v) : v = .int i := by simp only [RF] at h; exact h
theorem rf_bl {i : Bool} {v : V} (h : RF K H (.bl i) v) : v = .bl i := by simp only [RF] at h; exact h
theorem rf_str {i : Txt} {v : V} (h : RF K H (.str i) v) : v = .str (txt i) := by simp only [RF] at h; exact h
theorem rf_non {v : V} (h : RF K H .non v) : v = .non := by simp only [RF] at h; exact h
theorem mk_int {i : Int} : RF K H (.int i) (.int i) := by simp only [RF]
theorem mk_bl {i : Bool} : RF K H (.bl i) (.bl i) := by simp only [RF]
theorem mk_str {i : Txt} : RF K H (.str i) (.str (txt i)) := by simp only [RF]
theorem mk_non : RF K H .non .non := by simp only [RF]
end
section
variable {X : Cx}
theorem g_add : OpR X (binaryOp .Add) (rG X.K opAdd) := by
  have h := OpR.or (OpR.or (op_add (X := X)) op_add_str) op_add_ib
  refine h.imp fun v u H Q ⟨x, y, d, h1, h2, h3, h4⟩ => ?_
  cases x <;> cases y <;> simp only [opAdd, reduceCtorEq, Option.some.injEq] at h3
  · obtain rfl := rf_int h1; obtain rfl := rf_bl h2; subst h3
    exact .inr ⟨_, _, rfl, rfl, h4 _ mk_int⟩
  · obtain rfl := rf_int h1; obtain rfl := rf_int h2; subst h3
    exact .inl (.inl ⟨_, _, rfl, rfl, h4 _ mk_int⟩)
  · obtain rfl := rf_str h1; obtain rfl := rf_str h2
    unfold guardL at h3
    split at h3 <;> simp only [reduceCtorEq, Option.some.injEq] at h3
    rename_i hl
    subst h3
    refine .inl (.inr ⟨_, _, rfl, rfl, ?_, ?_⟩)
    · rw [txt_len, txt_len]; exact lim_line hl
    · rw [txt_app]; exact h4 _ mk_str
theorem g_sub : OpR X (binaryOp .Sub) (rG X.K opSub) := by
  refine op_sub.imp fun v u H Q ⟨x, y, d, h1, h2, h3, h4⟩ => ?_
  cases x <;> cases y <;> simp only [opSub, reduceCtorEq, Option.some.injEq] at h3
  obtain rfl := rf_int h1; obtain rfl := rf_int h2; subst h3
  exact ⟨_, _, rfl, rfl, h4 _ mk_int⟩
theorem fold_app (xs : List Nat) : ∀ (k : Nat) (acc : Array Nat), (List.replicate k xs.toArray).foldl (· ++ ·) acc = acc ++ (List.replicate k xs).flatten.toArray
  | 0, acc => by simp
  | k + 1, acc => by
    rw [List.replicate_succ, List.foldl_cons, fold_app xs k, List.replicate_succ, List.flatten_cons]
    simp [Array.append_assoc]
theorem mul_txt (s : Txt) (n : Int) : PySem.Txt.mul (txt s) n = txt (List.replicate n.toNat s).flatten := by
  unfold PySem.Txt.mul
  by_cases h1 : n < 1
  · rw [if_pos h1, show n.toNat = 0 by omega]; rfl
  · rw [if_neg h1]
    by_cases h2 : (n == 1 || (txt s).length == 0) = true
    · rw [if_pos h2]
      simp only [Bool.or_eq_true, beq_iff_eq, txt_len] at h2
      rcases h2 with h2 | h2
      · subst h2; simp
      · have : s = [] := List.length_eq_zero_iff.mp h2
        subst this; simp
    · rw [if_neg h2]
      show (⟨_⟩ : Str) = ⟨_⟩
      congr 1
      show (List.replicate n.toNat s.toArray).foldl (· ++ ·) #[] = _
      rw [fold_app]; simp
theorem op_str_rep : OpR X (binaryOp .Mult) (fun x y H Q => ∃ (s : Txt) (k : Int), x = .str (txt s) ∧ y = .int k ∧ (k ≤ (LIM : Int) ∧ -(LIM : Int) ≤ k ∧ s.length * k.toNat ≤ LIM) ∧ Q (.str (txt (List.replicate k.toNat s).flatten)) H) := by
  intro pins st σ H x y v u Q I rx ry h
  obtain ⟨s, k, rfl, rfl, ⟨h1, h2, h3⟩, q⟩ := h
  obtain ⟨t, rfl⟩ := rx
  obtain ⟨t', rfl⟩ := ry
  have hL : LIM = 4000000 := rfl
  refine SB.mul ⟨?_, fun g1 _ => ?_, fun g1 _ => ?_⟩ fun t' k' => ?_
  · have e1 : ¬ k < -(2 ^ 63 : Int) := by omega
    have e2 : ¬ k ≥ (2 ^ 63 : Int) := by omega
    rw [decide_eq_false e1, decide_eq_false e2]; rfl
  · rw [txt_len]
    intro hgt
    have hk : (s.length : Int) * k ≤ 4000000 := by
      have e : ((s.length * k.toNat : Nat) : Int) ≤ (LIM : Int) := by omega
      rw [hL] at e
      have e2 : ((s.length * k.toNat : Nat) : Int) = (s.length : Int) * k := by
        rw [Int.natCast_mul, Int.toNat_of_nonneg (by omega)]
      omega
    have hle : (s.length : Int) ≤ (2 ^ 63 - 1) / k := by
      rw [Int.le_ediv_iff_mul_le (by omega)]
      omega
    omega
  · rw [txt_len]
    unfold Builtin.Str.tooLong
    rw [decide_eq_false]
    have : (4000000 : Nat) ≤ sizeLine := by decide
    omega
  · rw [mul_txt]
    exact ⟨.str _, H, I.tok _, ⟨_, rfl⟩, q⟩
theorem natAbs_bounds {i : Int} (h : i.natAbs < 2 ^ 64) : -(2 ^ 64) < i ∧ i < 2 ^ 64 := by omega
theorem g_mul : OpR X (binaryOp .Mult) (rG X.K opMul) := by
  have h := OpR.or (OpR.or (op_mul (X := X)) op_mulW) op_str_rep
  refine h.imp fun v u H Q ⟨x, y, d, h1, h2, h3, h4⟩ => ?_
  cases x <;> cases y <;> simp only [opMul, reduceCtorEq] at h3
  rotate_left
  · obtain rfl := rf_str h1; obtain rfl := rf_int h2
    split at h3 <;> simp only [reduceCtorEq, Option.some.injEq] at h3
    rename_i hm
    subst h3
    exact .inr ⟨_, _, rfl, rfl, hm, h4 _ mk_str⟩
  obtain rfl := rf_int h1; obtain rfl := rf_int h2
  split at h3 <;> simp only [reduceCtorEq, Option.some.injEq] at h3
  rename_i hm
  subst h3
  simp only [mulOk, Bool.or_eq_true, decide_eq_true_eq, bits] at hm
  rcases hm with (hm | hm) | hm
  · exact .inl (.inl ⟨_, _, rfl, rfl, .inl (natAbs_bounds hm), h4 _ mk_int⟩)
  · exact .inl (.inl ⟨_, _, rfl, rfl, .inr (natAbs_bounds hm), h4 _ mk_int⟩)
  · exact .inl (.inr ⟨_, _, rfl, rfl, (by have hm2 := of_decide_eq_true hm; exact hm2), h4 _ mk_int⟩)
theorem g_div : OpR X (binaryOp .FloorDiv) (rG X.K opDiv) := by
  have h := OpR.or (op_fdivN (X := X)) op_fdivW
  refine h.imp fun v u H Q ⟨x, y, d, h1, h2, h3, h4⟩ => ?_
  cases x <;> cases y <;> simp only [opDiv, reduceCtorEq] at h3
  obtain rfl := rf_int h1; obtain rfl := rf_int h2
  split at h3 <;> simp only [reduceCtorEq, Option.some.injEq] at h3
  rename_i hm
  subst h3
  obtain ⟨h0, hm | hm⟩ := hm
  · exact .inl ⟨_, _, rfl, rfl, ⟨h0, hm⟩, h4 _ mk_int⟩
  · refine .inr ⟨_, _, rfl, rfl, hm, ?_⟩
    have := h4 _ mk_int
    rw [Int.fdiv_eq_ediv_of_nonneg _ (by omega)] at this
    exact this
theorem g_mod : OpR X (binaryOp .Mod) (rG X.K opMod) := by
  refine op_modN.imp fun v u H Q ⟨x, y, d, h1, h2, h3, h4⟩ => ?_
  cases x <;> cases y <;> simp only [opMod, reduceCtorEq] at h3
  obtain rfl := rf_int h1; obtain rfl := rf_int h2
  split at h3 <;> simp only [reduceCtorEq, Option.some.injEq] at h3
  rename_i hm
  subst h3
  exact ⟨_, _, rfl, rfl, hm, h4 _ mk_int⟩
theorem g_pow : OpR X (binaryOp .Pow) (rG X.K opPow) := by
  refine op_pow.imp fun v u H Q ⟨x, y, d, h1, h2, h3, h4⟩ => ?_
  cases x <;> cases y <;> simp only [opPow, reduceCtorEq] at h3
  obtain rfl := rf_int h1; obtain rfl := rf_int h2
  split at h3 <;> simp only [reduceCtorEq, Option.some.injEq] at h3
  rename_i hm
  subst h3
  exact ⟨_, _, rfl, rfl, hm, h4 _ mk_int⟩
theorem bitOr_nat (a b : Nat) : Builtin.bitOr (Int.ofNat a) (Int.ofNat b) = Int.ofNat (a ||| b) := by
  have h := Bits.bitOr_pp (x := Int.ofNat a) (y := Int.ofNat b) (Int.natCast_nonneg a) (Int.natCast_nonneg b)
  exact h
theorem g_bor : OpR X (binaryOp .BitOr) (rG X.K opBor) := by
  refine op_or.imp fun v u H Q ⟨x, y, d, h1, h2, h3, h4⟩ => ?_
  cases x <;> cases y <;> try (simp only [opBor, reduceCtorEq] at h3; done)
  rename_i i j
  cases i <;> cases j <;> simp only [opBor, reduceCtorEq, Option.some.injEq] at h3
  obtain rfl := rf_int h1; obtain rfl := rf_int h2
  subst h3
  refine ⟨_, _, rfl, rfl, ?_⟩
  have := h4 _ mk_int
  rw [← bitOr_nat] at this
  exact this
def opOf : O2 → Operator
  | .add => .Add
  | .sub => .Sub
  | .mul => .Mult
  | .fdiv => .FloorDiv
  | .mod => .Mod
  | .pow => .Pow
  | .bor => .BitOr
theorem g_op2 (o : O2) : OpR X (binaryOp (opOf o)) (rG X.K (op2 o)) := by
  cases o with
  | add => exact g_add
  | sub => exact g_sub
  | mul => exact g_mul
  | fdiv => exact g_div
  | mod => exact g_mod
  | pow => exact g_pow
  | bor => exact g_bor
theorem flat_op2 {o : O2} {x y d : D} (h : op2 o x y = some d) : flat d = true := by
  cases o <;> cases x <;> cases y <;> first
    | (simp [op2, opAdd, opSub, opMul, opDiv, opMod, opPow, opBor, guardL] at h; done)
    | (simp only [op2, opAdd, opSub, opMul, opDiv, opMod, opPow, opBor, guardL, Option.some.injEq] at h; subst h; rfl)
    | (simp only [op2, opAdd, opSub, opMul, opDiv, opMod, opPow, opBor, guardL] at h; split at h <;> simp only [reduceCtorEq, Option.some.injEq] at h; subst h; rfl)
    | (rename_i i j; cases i <;> cases j <;> simp only [op2, opBor, reduceCtorEq, Option.some.injEq] at h <;> (subst h; rfl))
/-! ### comparisons -/
mutual
def toPy : D → PyData
  | .non => .none
  | .bl b => .bool b
  | .int i => .int i
  | .str s => .str (txt s)
  | .tup xs => .tuple (toPyL xs)
  | .lst xs => .list (toPyL xs)
  | _ => .none
def toPyL : List D → List PyData
  | [] => []
  | x :: xs => toPy x :: toPyL xs
end
theorem txt_beq (a b : Txt) : ((txt a) == (txt b)) = (a == b) := by
  by_cases h : a = b
  · subst h; rw [beq_self_eq_true, beq_self_eq_true]
  · have : txt a ≠ txt b := fun e => h (txt_inj e)
    rw [beq_eq_false_iff_ne.mpr this, beq_eq_false_iff_ne.mpr h]
mutual
theorem eqv_toPy : ∀ (x y : D) (n m : Nat), isDataN x n = true → isDataN y m = true → PyData.eqv (toPy x) (toPy y) = eqD x y
  | .tup xs, .tup ys, n, m, hx, hy => by
    simp only [isDataN, Bool.and_eq_true] at hx hy
    simp only [toPy, PyData.eqv, eqD]
    exact eqv_toPyL xs ys _ _ hx.2 hy.2
  | .lst xs, .lst ys, n, m, hx, hy => by
    simp only [isDataN, Bool.and_eq_true] at hx hy
    simp only [toPy, PyData.eqv, eqD]
    exact eqv_toPyL xs ys _ _ hx.2 hy.2
  | .str a, .str b, _, _, _, _ => by simp only [toPy, PyData.eqv, eqD, txt_beq]
  | .non, y, _, _, _, hy => by cases y <;> simp [toPy, PyData.eqv, eqD, isDataN] at hy ⊢
  | .bl _, y, _, _, _, hy => by cases y <;> simp [toPy, PyData.eqv, eqD, isDataN] at hy ⊢
  | .int _, y, _, _, _, hy => by cases y <;> simp [toPy, PyData.eqv, eqD, isDataN] at hy ⊢
  | .str _, .non, _, _, _, _ => by simp [toPy, PyData.eqv, eqD]
  | .str _, .bl _, _, _, _, _ => by simp [toPy, PyData.eqv, eqD]
  | .str _, .int _, _, _, _, _ => by simp [toPy, PyData.eqv, eqD]
  | .str _, .tup _, _, _, _, _ => by simp [toPy, PyData.eqv, eqD]
  | .str _, .lst _, _, _, _, _ => by simp [toPy, PyData.eqv, eqD]
  | .tup _, .non, _, _, _, _ => by simp [toPy, PyData.eqv, eqD]
  | .tup _, .bl _, _, _, _, _ => by simp [toPy, PyData.eqv, eqD]
  | .tup _, .int _, _, _, _, _ => by simp [toPy, PyData.eqv, eqD]
  | .tup _, .str _, _, _, _, _ => by simp [toPy, PyData.eqv, eqD]
  | .tup _, .lst _, _, _, _, _ => by simp [toPy, PyData.eqv, eqD]
  | .lst _, .non, _, _, _, _ => by simp [toPy, PyData.eqv, eqD]
  | .lst _, .bl _, _, _, _, _ => by simp [toPy, PyData.eqv, eqD]
  | .lst _, .int _, _, _, _, _ => by simp [toPy, PyData.eqv, eqD]
  | .lst _, .str _, _, _, _, _ => by simp [toPy, PyData.eqv, eqD]
  | .lst _, .tup _, _, _, _, _ => by simp [toPy, PyData.eqv, eqD]
  | x, .set _, _, _, _, hy => by simp [isDataN] at hy
  | x, .itr _, _, _, _, hy => by simp [isDataN] at hy
  | x, .dct _ _, _, _, _, hy => by simp [isDataN] at hy
  | x, .ob _, _, _, _, hy => by simp [isDataN] at hy
  | x, .exc _ _, _, _, _, hy => by simp [isDataN] at hy
  | .set _, _, _, _, hx, _ => by simp [isDataN] at hx
  | .itr _, _, _, _, hx, _ => by simp [isDataN] at hx
  | .dct _ _, _, _, _, hx, _ => by simp [isDataN] at hx
  | .ob _, _, _, _, hx, _ => by simp [isDataN] at hx
  | .exc _ _, _, _, _, hx, _ => by simp [isDataN] at hx
theorem eqv_toPyL : ∀ (xs ys : List D) (n m : Nat), isDataL xs n = true → isDataL ys m = true → PyData.eqvAll (toPyL xs) (toPyL ys) = eqDL xs ys
  | [], [], _, _, _, _ => by simp [toPyL, PyData.eqvAll, eqDL]
  | [], _ :: _, _, _, _, _ => by simp [toPyL, PyData.eqvAll, eqDL]
  | _ :: _, [], _, _, _, _ => by simp [toPyL, PyData.eqvAll, eqDL]
  | x :: xs, y :: ys, n, m, hx, hy => by
    simp only [isDataL, Bool.and_eq_true] at hx hy
    simp only [toPyL, PyData.eqvAll, eqDL]
    rw [eqv_toPy x y n m hx.1 hy.1, eqv_toPyL xs ys n m hx.2 hy.2]
end
mutual
theorem canLay_of : ∀ (x : D) (n : Nat), isDataN x n = true → (toPy x).canLay0 = true ∧ (toPy x).depth ≤ n
  | .non, _, _ => by simp [toPy, PyData.canLay0, PyData.depth]
  | .bl _, _, _ => by simp [toPy, PyData.canLay0, PyData.depth]
  | .int _, _, _ => by simp [toPy, PyData.canLay0, PyData.depth]
  | .str s, _, h => by
    simp only [isDataN] at h
    simp only [toPy, PyData.canLay0, PyData.depth]
    refine ⟨?_, Nat.zero_le _⟩
    unfold PyData.strOk txt
    simpa using h
  | .tup xs, n, h => by
    simp only [isDataN, Bool.and_eq_true, decide_eq_true_eq] at h
    have := canLay_ofL xs (n - 1) h.2
    simp only [toPy, PyData.canLay0, PyData.depth]
    exact ⟨this.1, by omega⟩
  | .lst xs, n, h => by
    simp only [isDataN, Bool.and_eq_true, decide_eq_true_eq] at h
    have := canLay_ofL xs (n - 1) h.2
    simp only [toPy, PyData.canLay0, PyData.depth]
    exact ⟨this.1, by omega⟩
  | .set _, _, h => by simp [isDataN] at h
  | .itr _, _, h => by simp [isDataN] at h
  | .dct _ _, _, h => by simp [isDataN] at h
  | .ob _, _, h => by simp [isDataN] at h
  | .exc _ _, _, h => by simp [isDataN] at h
theorem canLay_ofL : ∀ (xs : List D) (n : Nat), isDataL xs n = true → PyData.canLayAll0 (toPyL xs) = true ∧ PyData.depthAll (toPyL xs) ≤ n
  | [], _, _ => by simp [toPyL, PyData.canLayAll0, PyData.depthAll]
  | x :: xs, n, h => by
    simp only [isDataL, Bool.and_eq_true] at h
    have h1 := canLay_of x n h.1
    have h2 := canLay_ofL xs n h.2
    simp only [toPyL, PyData.canLayAll0, PyData.depthAll, Bool.and_eq_true]
    exact ⟨⟨h1.1, h2.1⟩, by omega⟩
end
theorem shaped_of {x : D} (h : isData x = true) : SeqAt.shaped (toPy x) = true := by
  have := canLay_of x 60 h
  unfold SeqAt.shaped
  simp only [Bool.and_eq_true, decide_eq_true_eq]
  exact ⟨this.1, by omega⟩
mutual
theorem dp_of {K : PySem.W.Frag} {H : Hp} : ∀ (x : D) (n : Nat) (v : V), isDataN x n = true → RF K H x v → Dp K H v (toPy x)
  | .non, _, _, _, h => by obtain rfl := rf_non h; simp only [toPy]; exact .non
  | .bl _, _, _, _, h => by obtain rfl := rf_bl h; simp only [toPy]; exact .bl _
  | .int _, _, _, _, h => by obtain rfl := rf_int h; simp only [toPy]; exact .int _
  | .str _, _, _, _, h => by obtain rfl := rf_str h; simp only [toPy]; exact .str _
  | .tup xs, n, v, hd, h => by
    simp only [RF] at h
    obtain ⟨a, vs, rfl, q, r⟩ := h
    simp only [isDataN, Bool.and_eq_true] at hd
    simp only [toPy]
    exact .tup q (dp_ofL xs _ vs hd.2 r)
  | .lst xs, n, v, hd, h => by
    simp only [RF] at h
    obtain ⟨a, vs, rfl, q, r⟩ := h
    simp only [isDataN, Bool.and_eq_true] at hd
    simp only [toPy]
    exact .lst (.inl q) (dp_ofL xs _ vs hd.2 r)
  | .set _, _, _, h, _ => by simp [isDataN] at h
  | .itr _, _, _, h, _ => by simp [isDataN] at h
  | .dct _ _, _, _, h, _ => by simp [isDataN] at h
  | .ob _, _, _, h, _ => by simp [isDataN] at h
  | .exc _ _, _, _, h, _ => by simp [isDataN] at h
theorem dp_ofL {K : PySem.W.Frag} {H : Hp} : ∀ (xs : List D) (n : Nat) (vs : List V), isDataL xs n = true → RFL K H xs vs → DpAll K H vs (toPyL xs)
  | [], _, _, _, h => by simp only [RFL] at h; subst h; simp only [toPyL]; exact .nil
  | x :: xs, n, vs, hd, h => by
    simp only [RFL] at h
    obtain ⟨w, ws, rfl, q, r⟩ := h
    simp only [isDataL, Bool.and_eq_true] at hd
    simp only [toPyL]
    exact .cons (dp_of x n w hd.1 q) (dp_ofL xs n ws hd.2 r)
end
def blR (g : D → D → Option Bool) : D → D → Option D := fun x y => (g x y).map .bl
theorem scal_eq {K : PySem.W.Frag} {H : Hp} {x y : D} {v u : V} (h : scalD x y = true) (h1 : RF K H x v) (h2 : RF K H y u) : scal v u = true ∧ decide (v = u) = eqD x y := by
  cases x <;> cases y <;> simp [scalD] at h <;> simp only [RF] at h1 h2 <;> subst h1 h2 <;> first
    | (refine ⟨rfl, ?_⟩; simp [eqD]; done)
    | (refine ⟨rfl, ?_⟩; rw [txt_dec]; simp [eqD]; done)
    | (refine ⟨rfl, ?_⟩; simp only [eqD]; rw [Bool.eq_iff_iff]; simp)
theorem g_eq (hu : X.A.units + 64 < cLine) : OpR X (compareOp .Eq) (rG X.K (blR (cp .eq))) := by
  refine (OpR.or op_eq (op_eqD hu)).imp fun v u H Q ⟨x, y, d, h1, h2, h3, h4⟩ => ?_
  simp only [blR, cp] at h3
  split at h3 <;> simp only [Option.map_some, Option.map_none, reduceCtorEq, Option.some.injEq] at h3
  rename_i hc
  subst h3
  by_cases hs : scalD x y = true
  · obtain ⟨e1, e2⟩ := scal_eq hs h1 h2
    exact .inl ⟨e1, by rw [e2]; exact h4 _ mk_bl⟩
  · simp only [hs, Bool.false_or, Bool.and_eq_true, Bool.or_eq_true, false_or] at hc
    refine .inr ⟨toPy x, toPy y, dp_of x 60 v hc.1 h1, dp_of y 60 u hc.2 h2, shaped_of hc.1, shaped_of hc.2, ?_⟩
    rw [eqv_toPy x y 60 60 hc.1 hc.2]
    exact h4 _ mk_bl
theorem g_ne (hu : X.A.units + 64 < cLine) : OpR X (compareOp .NotEq) (rG X.K (blR (cp .ne))) := by
  refine (OpR.or op_ne (op_neD hu)).imp fun v u H Q ⟨x, y, d, h1, h2, h3, h4⟩ => ?_
  simp only [blR, cp] at h3
  split at h3 <;> simp only [Option.map_some, Option.map_none, reduceCtorEq, Option.some.injEq] at h3
  rename_i hc
  subst h3
  by_cases hs : scalD x y = true
  · obtain ⟨e1, e2⟩ := scal_eq hs h1 h2
    exact .inl ⟨e1, by rw [e2]; exact h4 _ mk_bl⟩
  · simp only [hs, Bool.false_or, Bool.and_eq_true, Bool.or_eq_true, false_or] at hc
    refine .inr ⟨toPy x, toPy y, dp_of x 60 v hc.1 h1, dp_of y 60 u hc.2 h2, shaped_of hc.1, shaped_of hc.2, ?_⟩
    rw [eqv_toPy x y 60 60 hc.1 hc.2]
    exact h4 _ mk_bl
theorem g_cmpI {op : CmpOp} {p : Int → Int → Bool} (h : OpR X (compareOp op) (rI0 fun i j => .bl (p i j))) : OpR X (compareOp op) (rG X.K (blR (cmpI p))) := by
  refine h.imp fun v u H Q ⟨x, y, d, h1, h2, h3, h4⟩ => ?_
  cases x <;> cases y <;> simp only [blR, cmpI, Option.map_some, Option.map_none, reduceCtorEq, Option.some.injEq] at h3
  obtain rfl := rf_int h1; obtain rfl := rf_int h2; subst h3
  exact ⟨_, _, rfl, rfl, h4 _ mk_bl⟩
/-- is with None, with a bool -/
theorem op_isB2 : OpR X (compareOp .Is) (fun x y H Q => ∃ b : Bool, y = .bl b ∧ (∃ a, x = .ref a) ∧ Q (.bl false) H) := by
  intro pins s σ H x y v u Q I rx ry h
  obtain ⟨b, rfl, ⟨a, rfl⟩, q⟩ := h
  cases (show u = Value.bool b from ry)
  cases (show v = Value.ref a from rx)
  exact wpAny_is_other rfl (fun z => nomatch z) ⟨.bl false, H, I, rfl, q⟩
theorem op_isB3 : OpR X (compareOp .Is) (fun x y H Q => ∃ b : Bool, y = .bl b ∧ (x = .non ∨ (∃ i, x = .int i) ∨ ∃ z, x = .str z) ∧ Q (.bl false) H) := by
  intro pins s σ H x y v u Q I rx ry h
  obtain ⟨b, rfl, hx, q⟩ := h
  cases (show u = Value.bool b from ry)
  rcases hx with rfl | ⟨i, rfl⟩ | ⟨z, rfl⟩
  · cases (show v = Value.none from rx)
    exact wpAny_is_other rfl (fun z => nomatch z) ⟨.bl false, H, I, rfl, q⟩
  · obtain ⟨t, rfl⟩ := (show ∃ t, v = Value.int i t from rx)
    exact wpAny_is_other rfl (fun z => nomatch z) ⟨.bl false, H, I, rfl, q⟩
  · obtain ⟨t, rfl⟩ := (show ∃ t, v = Value.str z t from rx)
    exact wpAny_is_other rfl (fun z => nomatch z) ⟨.bl false, H, I, rfl, q⟩
theorem op_isnB2 : OpR X (compareOp .IsNot) (fun x y H Q => ∃ b : Bool, y = .bl b ∧ (∃ a, x = .ref a) ∧ Q (.bl true) H) := by
  intro pins s σ H x y v u Q I rx ry h
  obtain ⟨b, rfl, ⟨a, rfl⟩, q⟩ := h
  cases (show u = Value.bool b from ry)
  cases (show v = Value.ref a from rx)
  exact wpAny_isNot_other rfl (fun z => nomatch z) ⟨.bl true, H, I, rfl, q⟩
theorem op_isnB3 : OpR X (compareOp .IsNot) (fun x y H Q => ∃ b : Bool, y = .bl b ∧ (x = .non ∨ (∃ i, x = .int i) ∨ ∃ z, x = .str z) ∧ Q (.bl true) H) := by
  intro pins s σ H x y v u Q I rx ry h
  obtain ⟨b, rfl, hx, q⟩ := h
  cases (show u = Value.bool b from ry)
  rcases hx with rfl | ⟨i, rfl⟩ | ⟨z, rfl⟩
  · cases (show v = Value.none from rx)
    exact wpAny_isNot_other rfl (fun z => nomatch z) ⟨.bl true, H, I, rfl, q⟩
  · obtain ⟨t, rfl⟩ := (show ∃ t, v = Value.int i t from rx)
    exact wpAny_isNot_other rfl (fun z => nomatch z) ⟨.bl true, H, I, rfl, q⟩
  · obtain ⟨t, rfl⟩ := (show ∃ t, v = Value.str z t from rx)
    exact wpAny_isNot_other rfl (fun z => nomatch z) ⟨.bl true, H, I, rfl, q⟩
theorem non_iff {K : PySem.W.Frag} {H : Hp} {x : D} {v : V} (h : RF K H x v) : decide (v = .non) = (match x with | .non => true | _ => false) := by
  cases x <;> simp only [RF] at h
  · subst h; rfl
  · subst h; rfl
  · subst h; rfl
  · subst h; rfl
  · obtain ⟨a, vs, rfl, _⟩ := h; rfl
  · obtain ⟨a, vs, rfl, _⟩ := h; rfl
theorem g_is : OpR X (compareOp .Is) (rG X.K (blR (cp .is))) := by
  refine (OpR.or (OpR.or op_isN op_isBl) (OpR.or op_isB2 op_isB3)).imp fun v u H Q ⟨x, y, d, h1, h2, h3, h4⟩ => ?_
  simp only [blR, cp] at h3
  have hn := non_iff h1
  cases y <;> (try (cases x <;> simp [isD] at h3; done))
  · obtain rfl := rf_non h2
    refine .inl (.inl ⟨rfl, ?_⟩)
    rw [hn]
    cases x <;> simp only [isD, Option.map_some, Option.some.injEq] at h3 <;> subst h3 <;> exact h4 _ mk_bl
  · obtain rfl := rf_bl h2
    cases x <;> simp only [isD, flat, Bool.true_or, Bool.or_true, Bool.false_or, if_true, Bool.false_eq_true, if_false, Option.map_some, Option.map_none, reduceCtorEq, Option.some.injEq] at h3
    · subst h3; obtain rfl := rf_non h1
      exact .inr (.inr ⟨_, rfl, .inl rfl, h4 _ mk_bl⟩)
    · subst h3; obtain rfl := rf_bl h1
      refine .inl (.inr ⟨_, _, rfl, rfl, ?_⟩)
      have := h4 _ mk_bl
      rw [Bool.beq_eq_decide_eq] at this
      exact this
    · subst h3; obtain rfl := rf_int h1
      exact .inr (.inr ⟨_, rfl, .inr (.inl ⟨_, rfl⟩), h4 _ mk_bl⟩)
    · subst h3; obtain rfl := rf_str h1
      exact .inr (.inr ⟨_, rfl, .inr (.inr ⟨_, rfl⟩), h4 _ mk_bl⟩)
    · subst h3; simp only [RF] at h1; obtain ⟨a, vs, rfl, _⟩ := h1
      exact .inr (.inl ⟨_, rfl, ⟨_, rfl⟩, h4 _ mk_bl⟩)
    · subst h3; simp only [RF] at h1; obtain ⟨a, vs, rfl, _⟩ := h1
      exact .inr (.inl ⟨_, rfl, ⟨_, rfl⟩, h4 _ mk_bl⟩)
theorem g_isn : OpR X (compareOp .IsNot) (rG X.K (blR (cp .isn))) := by
  refine (OpR.or (OpR.or op_notN op_notBl) (OpR.or op_isnB2 op_isnB3)).imp fun v u H Q ⟨x, y, d, h1, h2, h3, h4⟩ => ?_
  simp only [blR, cp] at h3
  have hn := non_iff h1
  cases y <;> (try (cases x <;> simp [isD] at h3; done))
  · obtain rfl := rf_non h2
    refine .inl (.inl ⟨rfl, ?_⟩)
    rw [hn]
    cases x <;> simp only [isD, Option.map_some, Option.some.injEq] at h3 <;> subst h3 <;> exact h4 _ mk_bl
  · obtain rfl := rf_bl h2
    cases x <;> simp only [isD, flat, Bool.true_or, Bool.or_true, Bool.false_or, if_true, Bool.false_eq_true, if_false, Option.map_some, Option.map_none, reduceCtorEq, Option.some.injEq] at h3
    · subst h3; obtain rfl := rf_non h1
      exact .inr (.inr ⟨_, rfl, .inl rfl, h4 _ mk_bl⟩)
    · subst h3; obtain rfl := rf_bl h1
      refine .inl (.inr ⟨_, _, rfl, rfl, ?_⟩)
      have := h4 _ mk_bl
      rw [Bool.beq_eq_decide_eq] at this
      exact this
    · subst h3; obtain rfl := rf_int h1
      exact .inr (.inr ⟨_, rfl, .inr (.inl ⟨_, rfl⟩), h4 _ mk_bl⟩)
    · subst h3; obtain rfl := rf_str h1
      exact .inr (.inr ⟨_, rfl, .inr (.inr ⟨_, rfl⟩), h4 _ mk_bl⟩)
    · subst h3; simp only [RF] at h1; obtain ⟨a, vs, rfl, _⟩ := h1
      exact .inr (.inl ⟨_, rfl, ⟨_, rfl⟩, h4 _ mk_bl⟩)
    · subst h3; simp only [RF] at h1; obtain ⟨a, vs, rfl, _⟩ := h1
      exact .inr (.inl ⟨_, rfl, ⟨_, rfl⟩, h4 _ mk_bl⟩)
/-! ### in -/
theorem flatV_of {K : PySem.W.Frag} {H : Hp} {x : D} {v : V} (h : RF K H x v) (f : flat x = true) : flatV v = true := by
  cases x <;> simp only [flat, Bool.false_eq_true] at f <;> simp only [RF] at h <;> subst h <;> rfl
theorem eqV_of {K : PySem.W.Frag} {H : Hp} {x y : D} {v u : V} (h : RF K H x v) (f : flat x = true) (h' : RF K H y u) (f' : flat y = true) : eqV v u = eqD x y := by
  cases x <;> simp only [flat, Bool.false_eq_true] at f <;> cases y <;> simp only [flat, Bool.false_eq_true] at f' <;> simp only [RF] at h h' <;> subst h h' <;> first
    | rfl
    | simp only [eqV, eqD, txt_beq]
    | simp [eqV, eqD]
theorem flatL_of {K : PySem.W.Frag} {H : Hp} : ∀ {xs : List D} {vs : List V}, RFL K H xs vs → xs.all flat = true → vs.all flatV = true
  | [], _, h, _ => by simp only [RFL] at h; subst h; rfl
  | x :: xs, vs, h, f => by
    simp only [RFL] at h
    obtain ⟨w, ws, rfl, q, r⟩ := h
    simp only [List.all_cons, Bool.and_eq_true] at f ⊢
    exact ⟨flatV_of q f.1, flatL_of r f.2⟩
theorem inV_of {K : PySem.W.Frag} {H : Hp} {x : D} {v : V} (h : RF K H x v) (f : flat x = true) : ∀ {xs : List D} {vs : List V}, RFL K H xs vs → xs.all flat = true → inV v vs = xs.any fun y => eqD y x
  | [], _, h, _ => by simp only [RFL] at h; subst h; rfl
  | y :: xs, vs, h', f' => by
    simp only [RFL] at h'
    obtain ⟨w, ws, rfl, q, r⟩ := h'
    simp only [List.all_cons, Bool.and_eq_true] at f'
    show (eqV w v || inV v ws) = (eqD y x || xs.any fun y => eqD y x)
    rw [eqV_of q f'.1 h f, inV_of h f r f'.2]
theorem txt_one (c : Nat) : txt [c] = ⟨#[c]⟩ := rfl
theorem mem_txt (c : Nat) (t : Txt) : decide (c ∈ (txt t).cps.toList) = t.contains c := by
  rw [txt_list]
  rw [Bool.eq_iff_iff]; simp
theorem g_in : OpR X (compareOp .In) (rG X.K (blR (cp .isin))) := by
  refine (OpR.or op_in_sign op_in_seq).imp fun v u H Q ⟨x, y, d, h1, h2, h3, h4⟩ => ?_
  simp only [blR, cp] at h3
  cases y <;> simp only [opIn, Option.map_none, reduceCtorEq] at h3
  · obtain rfl := rf_str h2
    cases x <;> try (simp only [Option.map_none, reduceCtorEq] at h3; done)
    rename_i t s
    match s, h3 with
    | [c], h3 =>
      obtain rfl := rf_str h1
      simp only [Option.map_some, Option.some.injEq] at h3
      subst h3
      refine .inl ⟨c, _, by rw [txt_one], rfl, ?_⟩
      rw [mem_txt]
      exact h4 _ mk_bl
    | [], h3 => simp at h3
    | _ :: _ :: _, h3 => simp at h3
  · split at h3 <;> simp only [Option.map_some, Option.map_none, reduceCtorEq, Option.some.injEq] at h3
    rename_i hc
    simp only [Bool.and_eq_true] at hc
    subst h3
    simp only [RF] at h2
    obtain ⟨a, vs, rfl, q, r⟩ := h2
    refine .inr ⟨a, vs, rfl, .inr q, flatV_of h1 hc.1, flatL_of r hc.2, ?_⟩
    simp only [Bool.false_eq_true, if_false]
    rw [inV_of h1 hc.1 r hc.2]
    exact h4 _ mk_bl
  · split at h3 <;> simp only [Option.map_some, Option.map_none, reduceCtorEq, Option.some.injEq] at h3
    rename_i hc
    simp only [Bool.and_eq_true] at hc
    subst h3
    simp only [RF] at h2
    obtain ⟨a, vs, rfl, q, r⟩ := h2
    refine .inr ⟨a, vs, rfl, .inl (.inl q), flatV_of h1 hc.1, flatL_of r hc.2, ?_⟩
    simp only [Bool.false_eq_true, if_false]
    rw [inV_of h1 hc.1 r hc.2]
    exact h4 _ mk_bl
theorem g_nin : OpR X (compareOp .NotIn) (rG X.K (blR (cp .nin))) := by
  refine (OpR.or op_notIn_sign op_notIn_seq).imp fun v u H Q ⟨x, y, d, h1, h2, h3, h4⟩ => ?_
  simp only [blR, cp] at h3
  cases y <;> simp only [opIn, Option.map_none, reduceCtorEq] at h3
  · obtain rfl := rf_str h2
    cases x <;> try (simp only [Option.map_none, reduceCtorEq] at h3; done)
    rename_i t s
    match s, h3 with
    | [c], h3 =>
      obtain rfl := rf_str h1
      simp only [Option.map_some, Option.some.injEq] at h3
      subst h3
      refine .inl ⟨c, _, by rw [txt_one], rfl, ?_⟩
      rw [mem_txt]
      exact h4 _ mk_bl
    | [], h3 => simp at h3
    | _ :: _ :: _, h3 => simp at h3
  · split at h3 <;> simp only [Option.map_some, Option.map_none, reduceCtorEq, Option.some.injEq] at h3
    rename_i hc
    simp only [Bool.and_eq_true] at hc
    subst h3
    simp only [RF] at h2
    obtain ⟨a, vs, rfl, q, r⟩ := h2
    refine .inr ⟨a, vs, rfl, .inr q, flatV_of h1 hc.1, flatL_of r hc.2, ?_⟩
    simp only [if_true]
    rw [inV_of h1 hc.1 r hc.2]
    exact h4 _ mk_bl
  · split at h3 <;> simp only [Option.map_some, Option.map_none, reduceCtorEq, Option.some.injEq] at h3
    rename_i hc
    simp only [Bool.and_eq_true] at hc
    subst h3
    simp only [RF] at h2
    obtain ⟨a, vs, rfl, q, r⟩ := h2
    refine .inr ⟨a, vs, rfl, .inl (.inl q), flatV_of h1 hc.1, flatL_of r hc.2, ?_⟩
    simp only [if_true]
    rw [inV_of h1 hc.1 r hc.2]
    exact h4 _ mk_bl
def cpOf : Cp → CmpOp
  | .eq => .Eq
  | .ne => .NotEq
  | .lt => .Lt
  | .le => .LtE
  | .gt => .Gt
  | .ge => .GtE
  | .is => .Is
  | .isn => .IsNot
  | .isin => .In
  | .nin => .NotIn
theorem g_cp (hu : X.A.units + 64 < cLine) (o : Cp) : OpR X (compareOp (cpOf o)) (rG X.K (blR (cp o))) := by
  cases o with
  | eq => exact g_eq hu
  | ne => exact g_ne hu
  | lt => exact g_cmpI op_lt
  | le => exact g_cmpI op_le
  | gt => exact g_cmpI op_gt
  | ge => exact g_cmpI op_ge
  | is => exact g_is
  | isn => exact g_isn
  | isin => exact g_in
  | nin => exact g_nin
end
end Z

/-! Z5: SE of constants, locals, operators, tests, subscripts, displays. -/
namespace Z
open PySem L2
section
variable {X : Cx} {T : Tb} {W : WX} {kp : List Nat}
/-! ### constants, locals -/
theorem se_const {x : Expr} {d : D} {v : V} {q : Bool} {Γ : Gm} {m : Nat} (h : PE X x (tC v)) (fl : flat d = true) (r : ∀ H, RF T.K H d v) : SE X T W kp q (fun e => .ok d e) x Γ m Γ := by
  refine PE.mono h fun σ H Q h => ?_
  obtain ⟨e, F, fp, s, h⟩ := h
  exact h F H fp v emp (Go.refl s) (Val.flat fl (r H))
theorem lvOf_set {Γ : Gm} {i j n : Nat} (hi : i < Γ.length) : lvOf (Γ.set i n) j = if j = i then n else lvOf Γ j := by
  unfold lvOf
  by_cases h : j = i
  · subst h; rw [if_pos rfl]; simp [List.getD_eq_getElem?_getD, List.getElem?_set, hi]
  · rw [if_neg h]; simp [List.getD_eq_getElem?_getD, List.getElem?_set, Ne.symm h]
theorem lvOf_lt {Γ : Gm} {i : Nat} (h : 1 ≤ lvOf Γ i) : i < Γ.length := by
  unfold lvOf at h
  rw [List.getD_eq_getElem?_getD] at h
  cases e : Γ[i]? with
  | none => rw [e] at h; simp at h
  | some n => exact (List.getElem?_eq_some_iff.mp e).1
/-- a local comes down to level m, its cells g given up -/
def putF (fp : Nat → AS) (i : Nat) (f : AS) : Nat → AS := fun j => if j = i then f else fp j
theorem own_putF {fp : Nat → AS} {i : Nat} {f : AS} {a : Addr} (h : Own (putF fp i f) a) : f a ∨ ∃ j, j ≠ i ∧ fp j a := by
  obtain ⟨j, h⟩ := h
  unfold putF at h
  split at h
  · exact .inl h
  · rename_i hj; exact .inr ⟨j, hj, h⟩
theorem St.cells {K : PySem.W.Frag} {Γ : Gm} {e : List D} {σ : L2.St} {F H : Hp} {fp : Nat → AS} (s : St K Γ e σ F H fp) {a : Addr} (h : Own fp a) : F a = none ∧ H a ≠ none := by
  obtain ⟨i, hi⟩ := h
  by_cases h0 : lvOf Γ i = 0
  · rw [s.dead i h0] at hi; exact hi.elim
  · obtain ⟨d, v, _, _, r⟩ := s.at_ i (by omega)
    exact RO.cells d _ v _ r a hi
/-- .. and the rest stays -/
theorem St.low {K : PySem.W.Frag} {Γ : Gm} {e : List D} {σ : L2.St} {F H : Hp} {fp : Nat → AS} (s : St K Γ e σ F H fp) {i m : Nat} (h1 : 1 ≤ m) (hm : m ≤ lvOf Γ i) :
    ∃ F' fp', St K (Γ.set i m) e σ F' H fp' ∧ Ch (Own fp) emp F H F' H ∧ (∀ a, Own fp' a → Own fp a) ∧ (∀ j, j ≠ i → fp' j = fp j) ∧ ∀ a, fp' i a → fp i a := by
  have hi := lvOf_lt (Nat.le_trans h1 hm)
  obtain ⟨d, v, e1, e2, r⟩ := s.at_ i (Nat.le_trans h1 hm)
  obtain ⟨g, f', hs, hd, r'⟩ := RO.weak s.sub d _ m v _ h1 hm r
  have hg : ∀ a, g a → F a = none := fun a ha => (s.cells ⟨i, (hs a).mpr (.inl ha)⟩).1
  refine ⟨frz F H g, putF fp i f', ⟨frz_le s.sub, by rw [List.length_set]; exact s.lG, s.le, fun j hj => ?_, fun j l hjl a h1 h2 => ?_, fun j hj => ?_⟩, ⟨frz_sub hg, fun _ _ h _ => h, fun a h h' => ?_⟩, fun a h => ?_, fun j hj => by unfold putF; rw [if_neg hj], fun a ha => ?_⟩
  · rw [lvOf_set hi] at hj ⊢
    by_cases hji : j = i
    · subst hji
      rw [if_pos rfl]
      refine ⟨d, v, e1, e2, ?_⟩
      unfold putF; rw [if_pos rfl]; exact r'
    · rw [if_neg hji] at hj ⊢
      obtain ⟨d2, v2, e3, e4, r2⟩ := s.at_ j hj
      refine ⟨d2, v2, e3, e4, ?_⟩
      unfold putF; rw [if_neg hji]
      exact RO.kept d2 _ v2 _ (frz_kept hg fun a z1 z2 => s.dis j i hji a z1 ((hs a).mpr (.inl z2))) r2
  · unfold putF at h1 h2
    split at h1 <;> split at h2
    · rename_i a1 a2; exact hjl (a1.trans a2.symm)
    · rename_i a1 a2; exact s.dis i l (fun z => a2 z.symm) a ((hs a).mpr (.inr h1)) h2
    · rename_i a1 a2; exact s.dis j i a1 a h1 ((hs a).mpr (.inr h2))
    · exact s.dis j l hjl a h1 h2
  · rw [lvOf_set hi] at hj
    by_cases hji : j = i
    · rw [if_pos hji] at hj; omega
    · rw [if_neg hji] at hj
      unfold putF; rw [if_neg hji]; exact s.dead j hj
  · refine .inl ⟨i, ?_⟩
    by_cases hga : g a
    · exact (hs a).mpr (.inl hga)
    · rw [frz_out hga] at h'; exact absurd h h'
  · rcases own_putF h with h | ⟨j, _, h⟩
    · exact ⟨i, (hs a).mpr (.inr h)⟩
    · exact ⟨j, h⟩
  · unfold putF at ha; rw [if_pos rfl] at ha; exact (hs a).mpr (.inr ha)
/-- a local is given away -/
theorem St.kill {K : PySem.W.Frag} {Γ : Gm} {e : List D} {σ : L2.St} {F H : Hp} {fp : Nat → AS} (s : St K Γ e σ F H fp) {i : Nat} (hi : i < Γ.length) : St K (Γ.set i 0) e σ F H (putF fp i emp) := by
  refine ⟨s.sub, by rw [List.length_set]; exact s.lG, s.le, fun j hj => ?_, fun j l hjl a h1 h2 => ?_, fun j hj => ?_⟩
  · rw [lvOf_set hi] at hj ⊢
    by_cases hji : j = i
    · rw [if_pos hji] at hj; omega
    · rw [if_neg hji] at hj ⊢
      unfold putF; rw [if_neg hji]; exact s.at_ j hj
  · unfold putF at h1 h2
    split at h1
    · exact h1
    · split at h2
      · exact h2
      · exact s.dis j l hjl a h1 h2
  · rw [lvOf_set hi] at hj
    unfold putF
    split
    · rfl
    · rename_i hji; rw [if_neg hji] at hj; exact s.dead j hj
theorem rd_v {q : Bool} {Γ : Gm} {i : Nat} (h1 : 1 ≤ lvOf Γ i) : ∀ σ H Q, rdE T W kp q (fun e => R.lift (e.get i) e) Γ 1 (Γ.set i 1) σ H Q → tVar i σ H Q := fun σ H Q h => by
  obtain ⟨e, F, fp, s, h⟩ := h
  obtain ⟨d, v, e1, e2, r⟩ := s.at_ i h1
  refine ⟨v, e2, ?_⟩
  have e1' : e.get i = some d := e1
  simp only [e1', R.lift_some] at h
  obtain ⟨F', fp', s', c, o, _, hf⟩ := s.low (Nat.le_refl 1) h1
  have hi := lvOf_lt h1
  obtain ⟨d2, v2, e3, e4, r2⟩ := s'.at_ i (by rw [lvOf_set hi, if_pos rfl]; exact Nat.le_refl 1)
  rw [e1] at e3; cases e3
  rw [e2] at e4; cases e4
  rw [lvOf_set hi, if_pos rfl] at r2
  obtain ⟨r3, hfe⟩ := RO.to1 (Nat.le_refl 1) r2
  refine h F' H fp' v emp ⟨fun _ => rfl, s', fun _ z => z.elim, c.mono (fun _ z => z) fun _ z => z.elim, fun a z => ?_⟩ (Val.of (by decide) ?_)
  · rcases z with z | z
    · exact .inl (o a z)
    · exact z.elim
  · exact RO.of1 (Nat.le_refl 1) r3
theorem se_v {x : Expr} {q : Bool} {Γ : Gm} {i : Nat} (h : PE X x (tVar i)) (h1 : 1 ≤ lvOf Γ i) : SE X T W kp q (fun e => R.lift (e.get i) e) x Γ 1 (Γ.set i 1) := PE.mono h (rd_v h1)
theorem se_mv {x : Expr} {Γ : Gm} {i : Nat} (h : PE X x (tVar i)) (h1 : 1 ≤ lvOf Γ i) : SE X T W kp false (fun e => R.lift (e.get i) e) x Γ (lvOf Γ i) (Γ.set i 0) := by
  refine PE.mono h fun σ H Q h => ?_
  obtain ⟨e, F, fp, s, h⟩ := h
  obtain ⟨d, v, e1, e2, r⟩ := s.at_ i h1
  refine ⟨v, e2, ?_⟩
  have e1' : e.get i = some d := e1
  simp only [e1', R.lift_some] at h
  have hi := lvOf_lt h1
  refine h F H _ v (fp i) ⟨fun z => absurd z (by decide), s.kill hi, fun a z1 z2 => ?_, .refl, fun a z => ?_⟩ (Val.of (by omega) r)
  · rcases own_putF z2 with z | ⟨j, hj, z⟩
    · exact z
    · exact s.dis i j (Ne.symm hj) a z1 z
  · rcases z with z | z
    · rcases own_putF z with z | ⟨j, hj, z⟩
      · exact z.elim
      · exact .inl ⟨j, z⟩
    · exact .inl ⟨i, z⟩
theorem se_pk {x : Expr} {q : Bool} {Γ : Gm} {i m : Nat} (h : PE X x (tVar i)) (h1 : 1 ≤ lvOf Γ i) (hm : m = if lvOf Γ i = 1 then 1 else 0) : SE X T W kp q (fun e => R.lift (e.get i) e) x Γ m Γ := by
  refine PE.mono h fun σ H Q h => ?_
  obtain ⟨e, F, fp, s, h⟩ := h
  obtain ⟨d, v, e1, e2, r⟩ := s.at_ i h1
  refine ⟨v, e2, ?_⟩
  have e1' : e.get i = some d := e1
  simp only [e1', R.lift_some] at h
  refine h F H fp v emp (Go.refl s) ?_
  by_cases hl : lvOf Γ i = 1
  · rw [if_pos hl] at hm
    subst hm
    rw [hl] at r
    exact Val.of (by decide) (RO.of1 (Nat.le_refl 1) (RO.to1 (Nat.le_refl 1) r).1)
  · rw [if_neg hl] at hm
    subst hm
    unfold Val
    rw [if_pos rfl]
    exact ⟨RO.rf s.sub d _ v _ r, rfl⟩
/-! ### two operands -/
/-- behind two operands: what holds -/
theorem rd_two {q1 q2 : Bool} {ra rb : Env → R D} {Γ Γ1 Γ2 : Gm} {m n : Nat} {g : D → D → Option D} {mo : Nat} {σ : L2.St} {H : Hp} {Q : VK} {rr : R2} (hm : own m = true ∨ q2 = true)
    (h : rdE T W kp (q1 && q2) (fun e => (ra e).bind fun x e1 => (rb e1).bind fun y e2 => R.lift (g x y) e2) Γ mo Γ2 σ H Q)
    (rule : ∀ F H' x y v u f d, Sub F H' → ValL T.K F H' [m, n] [x, y] [v, u] f → g x y = some d →
      (∀ F2 H2 w f2, Sub F2 H2 → Sub F F2 → Sub H' H2 → (∀ a, F a = none → F2 a ≠ none → f a ∨ H' a = none) → (∀ a, f2 a → f a ∨ H' a = none) → Val T.K mo F2 H2 d w f2 → Q w H2) → rr v u H' Q) :
    tOp rr (rdE T W kp q1 ra Γ m Γ1) (rdE T W kp q2 rb Γ1 n Γ2) σ H Q := by
  obtain ⟨e, F, fp, s, h⟩ := h
  refine ⟨e, F, fp, s, ?_⟩
  dsimp only at h
  cases e1 : ra e with
  | bad => rw [e1] at h; exact h
  | exc y e' => rw [e1] at h; exact h
  | ok x e' =>
    rw [e1] at h
    simp only [R.bind_ok] at h
    intro F1 H1 fp1 v f1 g1 val1
    refine ⟨e', F1, fp1, g1.st, ?_⟩
    cases e2 : rb e' with
    | bad => rw [e2] at h; exact h
    | exc y e2' => rw [e2] at h; exact XW.back h g1
    | ok y e2' =>
      rw [e2] at h
      simp only [R.bind_ok] at h
      intro F2 H2 fp2 u f2 g2 val2
      cases hg : g x y with
      | none => rw [hg] at h; exact h.elim
      | some d =>
        rw [hg] at h
        simp only [R.lift_some] at h
        have gg := Go.trans g1 g2 val1.cells
        have dis12 : Dis f1 f2 := fun a z1 z2 => by
          rcases g2.grow a (.inr z2) with z | z
          · exact g1.dis a z1 z
          · exact (val1.cells a z1).2 z
        refine rule F2 H2 x y v u (fun a => f1 a ∨ f2 a) d g2.st.sub ⟨v, [u], f1, f2, rfl, val1.stay g2.ch g1.dis hm (hm.imp own_ne id), ⟨u, [], f2, emp, rfl, val2, ⟨rfl, rfl⟩, fun _ _ z => z, by funext a; simp [emp]⟩, dis12, rfl⟩ hg ?_
        intro F3 H3 w f3 s3 sF sH nw gr vw
        have hcell : ∀ a, (f1 a ∨ f2 a) → F2 a = none ∧ H2 a ≠ none := fun a z => by
          rcases z with z | z
          · have k := g2.ch.kept (fun _ z => z.2) g1.dis val1.cells
            exact ⟨k.out a z (val1.cells a z).1, by rw [k.at_ a z]; exact (val1.cells a z).2⟩
          · exact val2.cells a z
        refine h F3 H3 fp2 w f3 ⟨gg.same, ⟨s3, gg.st.lG, gg.st.le, fun i hi => ?_, gg.st.dis, gg.st.dead⟩, fun a z1 z2 => ?_, ?_, fun a z => ?_⟩ vw
        · obtain ⟨d2, v2, e3, e4, r2⟩ := gg.st.at_ i hi
          refine ⟨d2, v2, e3, e4, RO.kept d2 _ v2 _ ⟨sF, fun a ha => ?_, fun a ha hn => ?_⟩ r2⟩
          · have := (gg.st.cells ⟨i, ha⟩).2
            cases eh : H2 a with
            | none => exact absurd eh this
            | some z => exact sH a z eh
          · cases ef : F3 a with
            | none => rfl
            | some z =>
              rcases nw a hn (by rw [ef]; simp) with y | y
              · exact (gg.dis a y ⟨i, ha⟩).elim
              · exact ((gg.st.cells ⟨i, ha⟩).2 y).elim
        · rcases gr a z1 with z | z
          · exact gg.dis a z z2
          · exact (gg.st.cells z2).2 z
        · refine ⟨gg.ch.sub.trans sF, fun a z hz hw => sH a z (gg.ch.keep a z hz hw), fun a z z' => ?_⟩
          cases ef : F2 a with
          | some y => exact gg.ch.new a z (by rw [ef]; simp)
          | none =>
            rcases nw a ef z' with y | y
            · exact gg.grow a (.inr y)
            · exact Grow.none (f := emp) (g := emp) gg.ch (fun _ z => z.2) y
        · rcases z with z | z
          · exact gg.grow a (.inl z)
          · rcases gr a z with z | z
            · exact gg.grow a (.inr z)
            · exact Grow.none (f := emp) (g := emp) gg.ch (fun _ z => z.2) z
theorem rd_flat2 {q1 q2 : Bool} {ra rb : Env → R D} {Γ Γ1 Γ2 : Gm} {m n mo : Nat} {g : D → D → Option D} {σ : L2.St} {H : Hp} {Q : VK} (hm : own m = true ∨ q2 = true) (fl : ∀ x y d, g x y = some d → flat d = true)
    (h : rdE T W kp (q1 && q2) (fun e => (ra e).bind fun x e1 => (rb e1).bind fun y e2 => R.lift (g x y) e2) Γ mo Γ2 σ H Q) :
    tOp (rG T.K g) (rdE T W kp q1 ra Γ m Γ1) (rdE T W kp q2 rb Γ1 n Γ2) σ H Q := by
  refine rd_two hm h fun F H' x y v u f d s val hg k => ?_
  obtain ⟨w1, ws, g1, g2, e1, v1, v2, _, rfl⟩ := val
  cases e1
  obtain ⟨w2, ws2, g3, g4, e2, v3, _⟩ := v2
  cases e2
  exact ⟨x, y, d, v1.rf s, v3.rf s, hg, fun w rw_ => k F H' w emp s (Sub.refl F) (Sub.refl H') (fun a z z' => (z' z).elim) (fun a z => z.elim) (Val.flat (fl x y d hg) rw_)⟩
theorem se_op {q1 q2 : Bool} {ra rb : Env → R D} {a b : Expr} {pos : Pos} {Γ Γ1 Γ2 : Gm} {m n mo : Nat} {o : O2} (hK : X.K = T.K) (ha : SE X T W kp q1 ra a Γ m Γ1) (hb : SE X T W kp q2 rb b Γ1 n Γ2) (hm : own m = true ∨ q2 = true) :
    SE X T W kp (q1 && q2) (fun e => (ra e).bind fun x e1 => (rb e1).bind fun y e2 => R.lift (op2 o x y) e2) (.BinOp a (opOf o) b pos) Γ mo Γ2 :=
  PE.mono (pe_op (hK ▸ g_op2 o) ha hb) fun _ _ _ h => rd_flat2 hm (fun _ _ _ e => flat_op2 e) h
theorem flat_bl {g : D → D → Option Bool} : ∀ x y d, blR g x y = some d → flat d = true := fun x y d h => by
  unfold blR at h
  cases e : g x y with
  | none => rw [e] at h; cases h
  | some b => rw [e] at h; cases h; rfl
theorem mark_of {o : Cp} {b : Expr} (h : o = .isin ∨ o = .nin → behindInMarks (cpOf o) b = false) : behindInMarks (cpOf o) b = false := by
  cases o with
  | isin => exact h (.inl rfl)
  | nin => exact h (.inr rfl)
  | _ => exact nobehind b (by simp [cpOf]) (by simp [cpOf])
theorem se_cmp {q1 q2 : Bool} {ra rb : Env → R D} {a b : Expr} {pos : Pos} {Γ Γ1 Γ2 : Gm} {m n mo : Nat} {o : Cp} (hu : X.A.units + 64 < cLine) (hK : X.K = T.K) (ha : SE X T W kp q1 ra a Γ m Γ1) (hb : SE X T W kp q2 rb b Γ1 n Γ2) (hm : own m = true ∨ q2 = true)
    (hk : behindInMarks (cpOf o) b = false) :
    SE X T W kp (q1 && q2) (fun e => (ra e).bind fun x e1 => (rb e1).bind fun y e2 => R.lift ((cp o x y).map .bl) e2) (.Compare a [cpOf o] [b] pos) Γ mo Γ2 :=
  PE.mono (pe_cmpR (hK ▸ g_cp hu o) ha hb hk) fun _ _ _ h => rd_flat2 (g := blR (cp o)) hm flat_bl h
/-! ### tests -/
end
section
variable (T : Tb) (W : WX) (kp : List Nat)
def rdT (q : Bool) (r : Env → R D) (Γ : Gm) (Γ' : Gm) : TT := fun σ H Q => ∃ e F fp, St T.K Γ e.s σ F H fp ∧ match r e with
  | .ok d e' => (match truth d with
    | some b => ∀ F' H' fp', Go T.K q Γ' σ F H fp e.s e'.s F' H' fp' emp → Q b H'
    | none => False)
  | .exc x e' => XW T W kp σ F H fp x e'.s
  | .bad => False
end
def ST (X : Cx) (T : Tb) (W : WX) (kp : List Nat) (q : Bool) (r : Env → R D) (x : Expr) (Γ : Gm) (Γ' : Gm) : Prop := PT X x (rdT T W kp q r Γ Γ')
def SW (X : Cx) (T : Tb) (W : WX) (kp : List Nat) (q : Bool) (r : Env → R D) (x : Expr) (Γ : Gm) (Γ' : Gm) : Prop := PW X x (rdT T W kp q r Γ Γ')
theorem PW.mono {X : Cx} {x : Expr} {t t' : TT} (h : PW X x t) (m : ∀ σ H Q, t' σ H Q → t σ H Q) : PW X x t' := ⟨fun wh pins s σ H Q I z => h.run wh pins s σ H Q I (m σ H Q z)⟩
theorem tru_of {K : PySem.W.Frag} {H : Hp} {d : D} {v : V} {b : Bool} (h : RF K H d v) (t : truth d = some b) : TruV K v H b := by
  cases d <;> simp only [truth, reduceCtorEq, Option.some.injEq] at t <;> (try simp only [RF] at h)
  · subst h t; rfl
  · subst h t; rfl
  · subst h t; rfl
  · split at t <;> simp only [reduceCtorEq, Option.some.injEq] at t
    rename_i hl
    subst h t
    refine ⟨?_, ?_⟩
    · rw [txt_len]; exact lim_line hl
    · rw [txt_len]
      rw [Bool.eq_iff_iff]; simp
  · obtain ⟨a, vs, rfl, q, r⟩ := h
    subst t
    refine .inr (.inl ⟨vs, q, ?_⟩)
    rename_i xs
    cases xs with
    | nil => simp only [RFL] at r; subst r; rfl
    | cons x xs => simp only [RFL] at r; obtain ⟨w, ws, rfl, _⟩ := r; rfl
  · obtain ⟨a, vs, rfl, q, r⟩ := h
    subst t
    refine .inl ⟨vs, .inl q, ?_⟩
    rename_i xs
    cases xs with
    | nil => simp only [RFL] at r; subst r; rfl
    | cons x xs => simp only [RFL] at r; obtain ⟨w, ws, rfl, _⟩ := r; rfl

/-! ### levels come down -/
def leG (Γ' Γ : Gm) : Prop := Γ'.length = Γ.length ∧ ∀ i, lvOf Γ' i ≤ lvOf Γ i
theorem leG.refl (Γ : Gm) : leG Γ Γ := ⟨rfl, fun _ => Nat.le_refl _⟩
theorem leG.trans {a b c : Gm} (h : leG a b) (h' : leG b c) : leG a c := ⟨h.1.trans h'.1, fun i => Nat.le_trans (h.2 i) (h'.2 i)⟩
section
variable {K : PySem.W.Frag} {Γ Γ' : Gm} {e : List D} {σ : L2.St} {F H : Hp} {fp : Nat → AS}
theorem St.weak (s : St K Γ e σ F H fp) (h : leG Γ' Γ) : ∃ F' fp', St K Γ' e σ F' H fp' ∧ Ch (Own fp) emp F H F' H ∧ ∀ a, Own fp' a → Own fp a := by
  have step : ∀ k, k ≤ Γ.length → ∃ (Δ : Gm) (F' : Hp) (fp' : Nat → AS), Δ.length = Γ.length ∧ (∀ i, lvOf Δ i = if i < k then lvOf Γ' i else lvOf Γ i) ∧ St K Δ e σ F' H fp' ∧ Ch (Own fp) emp F H F' H ∧ ∀ a, Own fp' a → Own fp a := by
    intro k
    induction k with
    | zero => exact fun _ => ⟨Γ, F, fp, rfl, fun i => by rw [if_neg (Nat.not_lt_zero i)], s, .refl, fun _ z => z⟩
    | succ k ih =>
      intro hk
      obtain ⟨Δ, F1, fp1, hl, hv, s1, c1, o1⟩ := ih (by omega)
      have hkΔ : k < Δ.length := by omega
      have hvk : lvOf Δ k = lvOf Γ k := by rw [hv k, if_neg (Nat.lt_irrefl k)]
      have hset : ∀ i, lvOf (Δ.set k (lvOf Γ' k)) i = if i < k + 1 then lvOf Γ' i else lvOf Γ i := fun i => by
        rw [lvOf_set hkΔ]
        by_cases hi : i = k
        · subst hi; rw [if_pos rfl, if_pos (by omega)]
        · rw [if_neg hi, hv i]
          by_cases h2 : i < k
          · rw [if_pos h2, if_pos (by omega)]
          · rw [if_neg h2, if_neg (by omega)]
      by_cases h0 : lvOf Γ' k = 0
      · refine ⟨Δ.set k (lvOf Γ' k), F1, putF fp1 k emp, by rw [List.length_set]; exact hl, hset, ?_, c1, fun a z => ?_⟩
        · rw [h0]; exact s1.kill hkΔ
        · rcases own_putF z with z | ⟨j, _, z⟩
          · exact z.elim
          · exact o1 a ⟨j, z⟩
      · obtain ⟨F2, fp2, s2, c2, o2, _⟩ := s1.low (i := k) (m := lvOf Γ' k) (by omega) (by rw [hvk]; exact h.2 k)
        refine ⟨Δ.set k (lvOf Γ' k), F2, fp2, by rw [List.length_set]; exact hl, hset, s2, ?_, fun a z => o1 a (o2 a z)⟩
        exact Ch.trans c1 (fun _ z => z.elim) (fun a z => .inl (o1 a z)) c2 (fun _ z => z.elim) fun _ z => z.elim
  obtain ⟨Δ, F', fp', hl, hv, s', c, o⟩ := step Γ.length (Nat.le_refl _)
  have : Δ = Γ' := by
    refine List.ext_getElem (hl.trans h.1.symm) fun i h1 h2 => ?_
    have := hv i
    rw [if_pos (by omega)] at this
    unfold lvOf at this
    rw [List.getD_eq_getElem?_getD, List.getD_eq_getElem?_getD, List.getElem?_eq_getElem h1, List.getElem?_eq_getElem h2] at this
    exact this
  subst this
  exact ⟨F', fp', s', c, o⟩
theorem Go.weak {q : Bool} {e0 e' : List D} {F' H' : Hp} {fp' : Nat → AS} {Γ2 : Gm} {f : AS} (g : Go K q Γ σ F H fp e0 e' F' H' fp' f) (h : leG Γ2 Γ) (hf : ∀ a, f a → F' a = none ∧ H' a ≠ none) : ∃ F2 fp2, Go K q Γ2 σ F H fp e0 e' F2 H' fp2 f ∧ Kept f F' H' F2 H' := by
  obtain ⟨F2, fp2, s2, c, o⟩ := g.st.weak h
  refine ⟨F2, fp2, ⟨g.same, s2, fun a z1 z2 => g.dis a z1 (o a z2), ?_, fun a z => g.grow a (z.imp (o a) id)⟩, c.kept (fun _ z => z.elim) g.dis hf⟩
  exact Ch.trans g.ch (fun _ z => z.2) (fun a z => g.grow a (.inl z)) c (fun _ z => z.elim) fun _ z => z.elim
end
section
variable {X : Cx} {T : Tb} {W : WX} {kp : List Nat}
theorem Go.then_ {K : PySem.W.Frag} {q1 q2 : Bool} {Γ1 Γ2 : Gm} {σ : L2.St} {F H : Hp} {fp : Nat → AS} {e0 e1 e2 : List D} {F' H' F2 H2 : Hp} {fp' fp2 : Nat → AS} {f2 : AS} (a : Go K q1 Γ1 σ F H fp e0 e1 F' H' fp' emp) (b : Go K q2 Γ2 σ F' H' fp' e1 e2 F2 H2 fp2 f2) : Go K (q1 && q2) Γ2 σ F H fp e0 e2 F2 H2 fp2 f2 :=
  go_app (Go.trans a b fun _ z => z.elim) fun _ z => .inr z
theorem Go.left {K : PySem.W.Frag} {q1 q2 : Bool} {Γ1 : Gm} {σ : L2.St} {F H : Hp} {fp : Nat → AS} {e0 e1 : List D} {F' H' : Hp} {fp' : Nat → AS} {f : AS} (a : Go K q1 Γ1 σ F H fp e0 e1 F' H' fp' f) : Go K (q1 && q2) Γ1 σ F H fp e0 e1 F' H' fp' f :=
  ⟨fun z => a.same (and_tt z).1, a.st, a.dis, a.ch.mono (fun _ z => z) fun x z => ⟨by rw [z.1]; rfl, z.2⟩, a.grow⟩
/-- what is wanted behind an expression -/
def Cont (K : PySem.W.Frag) (q : Bool) (Γ' : Gm) (m : Nat) (σ : L2.St) (F H : Hp) (fp : Nat → AS) (e0 e' : List D) (d : D) (Q : VK) : Prop :=
  ∀ F' H' fp' v f, Go K q Γ' σ F H fp e0 e' F' H' fp' f → Val K m F' H' d v f → Q v H'
theorem Cont.weak {K : PySem.W.Frag} {q : Bool} {Γ' Γ2 : Gm} {m m2 : Nat} {σ : L2.St} {F H : Hp} {fp : Nat → AS} {e0 e' : List D} {d : D} {Q : VK} (hG : leG Γ2 Γ') (hm : m2 = 0 ∨ (1 ≤ m2 ∧ m2 ≤ m)) (h : Cont K q Γ2 m2 σ F H fp e0 e' d Q) : Cont K q Γ' m σ F H fp e0 e' d Q := by
  intro F' H' fp' v f g val
  obtain ⟨F2, fp2, g2, k⟩ := g.weak hG val.cells
  rcases hm with hm | ⟨h1, h2⟩
  · subst hm
    refine h F2 H' fp2 v emp (go_app g2 fun a z => z.elim) ?_
    unfold Val; rw [if_pos rfl]
    exact ⟨val.rf g.st.sub, rfl⟩
  · have hm0 : m ≠ 0 := by omega
    unfold Val at val
    rw [if_neg hm0] at val
    have val2 := RO.kept d m v f k val
    obtain ⟨c, f', hs, hd, r'⟩ := RO.weak g2.st.sub d m m2 v f h1 h2 val2
    have hc : ∀ a, f a → F2 a = none ∧ H' a ≠ none := RO.cells d m v f val2
    refine h (frz F2 H' c) H' fp2 v f' ⟨g2.same, ⟨frz_le g2.st.sub, g2.st.lG, g2.st.le, fun i hi => ?_, g2.st.dis, g2.st.dead⟩, fun a z1 z2 => g2.dis a ((hs a).mpr (.inr z1)) z2, ?_, fun a z => g2.grow a (z.imp id fun z => (hs a).mpr (.inr z))⟩ (Val.of (by omega) r')
    · obtain ⟨d2, v2, e3, e4, r2⟩ := g2.st.at_ i hi
      exact ⟨d2, v2, e3, e4, RO.kept d2 _ v2 _ (frz_kept (fun a ha => (hc a ((hs a).mpr (.inl ha))).1) fun a z1 z2 => g2.dis a ((hs a).mpr (.inl z2)) ⟨i, z1⟩) r2⟩
    · refine ⟨g2.ch.sub.trans (frz_sub fun a ha => (hc a ((hs a).mpr (.inl ha))).1), g2.ch.keep, fun a z z' => ?_⟩
      by_cases ha : c a
      · exact g2.grow a (.inr ((hs a).mpr (.inl ha)))
      · rw [frz_out ha] at z'; exact g2.ch.new a z z'
/-- behind a first run -/
theorem Cont.back {K : PySem.W.Frag} {q1 q2 : Bool} {Γ1 Γ' : Gm} {m : Nat} {σ : L2.St} {F H F1 H1 : Hp} {fp fp1 : Nat → AS} {e0 e1 e' : List D} {d : D} {Q : VK} (h : Cont K (q1 && q2) Γ' m σ F H fp e0 e' d Q) (g : Go K q1 Γ1 σ F H fp e0 e1 F1 H1 fp1 emp) : Cont K q2 Γ' m σ F1 H1 fp1 e1 e' d Q :=
  fun F' H' fp' v f g2 val => h F' H' fp' v f (Go.then_ g g2) val
/-- the answer's level, the locals' levels come down -/
theorem rdE_weak {q : Bool} {r : Env → R D} {Γ Γ' Γ2 : Gm} {m m2 : Nat} (hG : leG Γ2 Γ') (hm : m2 = 0 ∨ (1 ≤ m2 ∧ m2 ≤ m)) (σ : L2.St) (H : Hp) (Q : VK) (h : rdE T W kp q r Γ m2 Γ2 σ H Q) : rdE T W kp q r Γ m Γ' σ H Q := by
  obtain ⟨e, F, fp, s, h⟩ := h
  refine ⟨e, F, fp, s, ?_⟩
  cases e1 : r e with
  | bad => rw [e1] at h; exact h
  | exc y e' => rw [e1] at h; exact h
  | ok d e' =>
    rw [e1] at h
    exact Cont.weak hG hm h
theorem se_weak {x : Expr} {q : Bool} {r : Env → R D} {Γ Γ' Γ2 : Gm} {m m2 : Nat} (h : SE X T W kp q r x Γ m Γ') (hG : leG Γ2 Γ') (hm : m2 = 0 ∨ (1 ≤ m2 ∧ m2 ≤ m)) : SE X T W kp q r x Γ m2 Γ2 := PE.mono h (rdE_weak hG hm)
theorem rdT_weak {q : Bool} {r : Env → R D} {Γ Γ' Γ2 : Gm} (hG : leG Γ2 Γ') (σ : L2.St) (H : Hp) (Q : Bool → Hp → Prop) (h : rdT T W kp q r Γ Γ2 σ H Q) : rdT T W kp q r Γ Γ' σ H Q := by
  obtain ⟨e, F, fp, s, h⟩ := h
  refine ⟨e, F, fp, s, ?_⟩
  cases e1 : r e with
  | bad => rw [e1] at h; exact h
  | exc y e' => rw [e1] at h; exact h
  | ok d e' =>
    rw [e1] at h
    dsimp only at h ⊢
    cases e2 : truth d with
    | none => rw [e2] at h; exact h
    | some b =>
      rw [e2] at h
      intro F' H' fp' g
      obtain ⟨F2, fp2, g2, _⟩ := g.weak hG (fun a z => z.elim)
      exact h F2 H' fp2 g2
/-- a test by the value -/
theorem rdT_val {q : Bool} {r : Env → R D} {Γ Γ' : Gm} {m : Nat} (σ : L2.St) (H : Hp) (Q : Bool → Hp → Prop) (h : rdT T W kp q r Γ Γ' σ H Q) : rdE T W kp q r Γ m Γ' σ H (fun x H' => ∃ k, TruV T.K x H' k ∧ Q k H') := by
  obtain ⟨e, F, fp, s, h⟩ := h
  refine ⟨e, F, fp, s, ?_⟩
  cases e1 : r e with
  | bad => rw [e1] at h; exact h
  | exc y e' => rw [e1] at h; exact h
  | ok d e' =>
    rw [e1] at h
    dsimp only at h ⊢
    cases e2 : truth d with
    | none => rw [e2] at h; exact h.elim
    | some b =>
      rw [e2] at h
      intro F' H' fp' v f g val
      exact ⟨b, tru_of (val.rf g.st.sub) e2, h F' H' fp' (go_app g fun a z => z.elim)⟩
theorem st_val {x : Expr} {q : Bool} {r : Env → R D} {Γ Γ' : Gm} {m : Nat} (hK : X.K = T.K) (h : SE X T W kp q r x Γ m Γ') (he : ∀ whole, isTrue x X.env whole = (do let v ← whole; standAt x.pos; holding [v] (truthy v))) : ST X T W kp q r x Γ Γ' := by
  refine PT.mono (pt_truth h he) fun σ H Q z => ?_
  rw [hK]
  exact rdT_val σ H Q z
/-- a test whose answer is a bool -/
theorem rdT_bl {q : Bool} {r : Env → R D} {Γ Γ' : Gm} {m : Nat} (hb : ∀ e d e', r e = .ok d e' → ∃ b, d = .bl b) (σ : L2.St) (H : Hp) (Q : Bool → Hp → Prop) (h : rdT T W kp q r Γ Γ' σ H Q) : rdE T W kp q r Γ m Γ' σ H (fun x H' => ∃ k, x = .bl k ∧ Q k H') := by
  obtain ⟨e, F, fp, s, h⟩ := h
  refine ⟨e, F, fp, s, ?_⟩
  cases e1 : r e with
  | bad => rw [e1] at h; exact h
  | exc y e' => rw [e1] at h; exact h
  | ok d e' =>
    obtain ⟨b, rfl⟩ := hb e d e' e1
    rw [e1] at h
    intro F' H' fp' v f g val
    exact ⟨b, rf_bl (val.rf g.st.sub), h F' H' fp' (go_app g fun a z => z.elim)⟩
theorem bl_cmp {ra rb : Env → R D} {o : Cp} : ∀ (e : Env) (d : D) (e' : Env), ((ra e).bind fun x e1 => (rb e1).bind fun y e2 => R.lift ((cp o x y).map .bl) e2) = .ok d e' → ∃ b, d = .bl b := fun e d e' h => by
  cases e1 : ra e with
  | bad => rw [e1] at h; cases h
  | exc y e' => rw [e1] at h; cases h
  | ok x e1' =>
    rw [e1] at h
    simp only [R.bind_ok] at h
    cases e2 : rb e1' with
    | bad => rw [e2] at h; cases h
    | exc y e' => rw [e2] at h; cases h
    | ok y e2' =>
      rw [e2] at h
      simp only [R.bind_ok] at h
      cases e3 : cp o x y with
      | none => rw [e3] at h; cases h
      | some b => rw [e3] at h; cases h; exact ⟨b, rfl⟩
theorem st_cmp {q1 q2 : Bool} {ra rb : Env → R D} {a b : Expr} {pos : Pos} {Γ Γ1 Γ2 : Gm} {m n : Nat} {o : Cp} (hu : X.A.units + 64 < cLine) (hK : X.K = T.K) (ha : SE X T W kp q1 ra a Γ m Γ1) (hb : SE X T W kp q2 rb b Γ1 n Γ2) (hm : own m = true ∨ q2 = true)
    (hk : behindInMarks (cpOf o) b = false) :
    ST X T W kp (q1 && q2) (fun e => (ra e).bind fun x e1 => (rb e1).bind fun y e2 => R.lift ((cp o x y).map .bl) e2) (.Compare a [cpOf o] [b] pos) Γ Γ2 :=
  PT.mono (pt_cmpR (hK ▸ g_cp hu o) ha hb hk) fun σ H Q h => rd_flat2 (g := blR (cp o)) (mo := 100) hm flat_bl (rdT_bl bl_cmp σ H Q h)
/-! ### and, or, not -/
def andD (ra rb : Env → R D) : Env → R D := fun e => (ra e).bind fun x e1 => match truth x with
  | some true => rb e1
  | some false => .ok x e1
  | none => .bad
def orD (ra rb : Env → R D) : Env → R D := fun e => (ra e).bind fun x e1 => match truth x with
  | some true => .ok x e1
  | some false => rb e1
  | none => .bad
theorem rdT_and {q1 q2 : Bool} {ra rb : Env → R D} {Γ Γ1 Γ2 Γ3 : Gm} (h1 : leG Γ3 Γ1) (h2 : leG Γ3 Γ2) (σ : L2.St) (H : Hp) (Q : Bool → Hp → Prop) (h : rdT T W kp (q1 && q2) (andD ra rb) Γ Γ3 σ H Q) : tAnd (rdT T W kp q1 ra Γ Γ1) (rdT T W kp q2 rb Γ1 Γ2) σ H Q := by
  obtain ⟨e, F, fp, s, h⟩ := h
  refine ⟨e, F, fp, s, ?_⟩
  unfold andD at h
  cases e1 : ra e with
  | bad => rw [e1] at h; exact h
  | exc y e' => rw [e1] at h; exact h
  | ok d e' =>
    rw [e1] at h
    simp only [R.bind_ok] at h ⊢
    cases e2 : truth d with
    | none => rw [e2] at h; exact h.elim
    | some b =>
      rw [e2] at h
      intro F' H' fp' g
      cases b with
      | false =>
        simp only [e2] at h
        rw [if_neg Bool.false_ne_true]
        obtain ⟨F2, fp2, g2, _⟩ := g.weak h1 (fun a z => z.elim)
        exact h F2 H' fp2 g2.left
      | true =>
        rw [if_pos rfl]
        refine ⟨e', F', fp', g.st, ?_⟩
        simp only at h
        cases e3 : rb e' with
        | bad => rw [e3] at h; exact h
        | exc y e'' => rw [e3] at h; exact XW.back h g
        | ok d2 e'' =>
          rw [e3] at h
          dsimp only at h ⊢
          cases e4 : truth d2 with
          | none => rw [e4] at h; exact h
          | some b2 =>
            rw [e4] at h
            intro F2 H2 fp2 g2
            obtain ⟨F3, fp3, g3, _⟩ := (Go.then_ g g2).weak h2 (fun a z => z.elim)
            exact h F3 H2 fp3 g3
theorem rdT_or {q1 q2 : Bool} {ra rb : Env → R D} {Γ Γ1 Γ2 Γ3 : Gm} (h1 : leG Γ3 Γ1) (h2 : leG Γ3 Γ2) (σ : L2.St) (H : Hp) (Q : Bool → Hp → Prop) (h : rdT T W kp (q1 && q2) (orD ra rb) Γ Γ3 σ H Q) : tOr (rdT T W kp q1 ra Γ Γ1) (rdT T W kp q2 rb Γ1 Γ2) σ H Q := by
  obtain ⟨e, F, fp, s, h⟩ := h
  refine ⟨e, F, fp, s, ?_⟩
  unfold orD at h
  cases e1 : ra e with
  | bad => rw [e1] at h; exact h
  | exc y e' => rw [e1] at h; exact h
  | ok d e' =>
    rw [e1] at h
    simp only [R.bind_ok] at h ⊢
    cases e2 : truth d with
    | none => rw [e2] at h; exact h.elim
    | some b =>
      rw [e2] at h
      intro F' H' fp' g
      cases b with
      | true =>
        simp only [e2] at h
        rw [if_pos rfl]
        obtain ⟨F2, fp2, g2, _⟩ := g.weak h1 (fun a z => z.elim)
        exact h F2 H' fp2 g2.left
      | false =>
        rw [if_neg Bool.false_ne_true]
        refine ⟨e', F', fp', g.st, ?_⟩
        simp only at h
        cases e3 : rb e' with
        | bad => rw [e3] at h; exact h
        | exc y e'' => rw [e3] at h; exact XW.back h g
        | ok d2 e'' =>
          rw [e3] at h
          dsimp only at h ⊢
          cases e4 : truth d2 with
          | none => rw [e4] at h; exact h
          | some b2 =>
            rw [e4] at h
            intro F2 H2 fp2 g2
            obtain ⟨F3, fp3, g3, _⟩ := (Go.then_ g g2).weak h2 (fun a z => z.elim)
            exact h F3 H2 fp3 g3
/-- not, as a test and as a value -/
def notD (ra : Env → R D) : Env → R D := fun e => (ra e).bind fun x e1 => R.lift ((truth x).map fun b => .bl (!b)) e1
theorem st_not {x : Expr} {pos : Pos} {q : Bool} {ra : Env → R D} {Γ Γ' : Gm} (h : ST X T W kp q ra x Γ Γ') : ST X T W kp q (notD ra) (.UnaryOp .Not x pos) Γ Γ' := by
  refine PT.mono (pt_not h) fun σ H Q z => ?_
  obtain ⟨e, F, fp, s, z⟩ := z
  refine ⟨e, F, fp, s, ?_⟩
  unfold notD at z
  cases e1 : ra e with
  | bad => rw [e1] at z; exact z
  | exc y e' => rw [e1] at z; exact z
  | ok d e' =>
    rw [e1] at z
    simp only [R.bind_ok] at z ⊢
    cases e2 : truth d with
    | none => rw [e2] at z; exact z
    | some b => rw [e2] at z; exact z
theorem rd_not {q : Bool} {ra : Env → R D} {Γ Γ' : Gm} {m mo : Nat} (σ : L2.St) (H : Hp) (Q : VK) (z : rdE T W kp q (notD ra) Γ mo Γ' σ H Q) : tNotT T.K (rdE T W kp q ra Γ m Γ') σ H Q := by
  obtain ⟨e, F, fp, s, z⟩ := z
  refine ⟨e, F, fp, s, ?_⟩
  unfold notD at z
  cases e1 : ra e with
  | bad => rw [e1] at z; exact z
  | exc y e' => rw [e1] at z; exact z
  | ok d e' =>
    rw [e1] at z
    simp only [R.bind_ok] at z ⊢
    cases e2 : truth d with
    | none => rw [e2] at z; exact z.elim
    | some b =>
      rw [e2] at z
      intro F' H' fp' v f g val
      exact ⟨b, tru_of (val.rf g.st.sub) e2, z F' H' fp' _ emp (go_app g fun a z => z.elim) (Val.flat rfl mk_bl)⟩
theorem se_not {x : Expr} {pos : Pos} {q : Bool} {ra : Env → R D} {Γ Γ' : Gm} {m mo : Nat} (hK : X.K = T.K) (h : SE X T W kp q ra x Γ m Γ') : SE X T W kp q (notD ra) (.UnaryOp .Not x pos) Γ mo Γ' :=
  PE.mono (pe_notT h) fun σ H Q z => by rw [hK]; exact rd_not σ H Q z
end
end Z

/-! Z6: more expressions. -/
namespace Z
open PySem L2
section
variable {X : Cx} {T : Tb} {W : WX} {kp : List Nat}
/-! ### and, or, if as values -/
theorem Cont.left {K : PySem.W.Frag} {q1 q2 : Bool} {Γ' : Gm} {m : Nat} {σ : L2.St} {F H : Hp} {fp : Nat → AS} {e0 e' : List D} {d : D} {Q : VK} (h : Cont K (q1 && q2) Γ' m σ F H fp e0 e' d Q) : Cont K q1 Γ' m σ F H fp e0 e' d Q :=
  fun F' H' fp' v f g val => h F' H' fp' v f g.left val
theorem rd_and {q1 q2 : Bool} {ra rb : Env → R D} {Γ Γ1 Γ2 Γ3 : Gm} {m n mo : Nat} (h1 : leG Γ3 Γ1) (h2 : leG Γ3 Γ2) (hm : mo = 0 ∨ (1 ≤ mo ∧ mo ≤ m)) (hn : mo = 0 ∨ (1 ≤ mo ∧ mo ≤ n)) (σ : L2.St) (H : Hp) (Q : VK)
    (h : rdE T W kp (q1 && q2) (andD ra rb) Γ mo Γ3 σ H Q) : tAndT T.K (rdE T W kp q1 ra Γ m Γ1) (rdE T W kp q2 rb Γ1 n Γ2) σ H Q := by
  obtain ⟨e, F, fp, s, h⟩ := h
  refine ⟨e, F, fp, s, ?_⟩
  unfold andD at h
  cases e1 : ra e with
  | bad => rw [e1] at h; exact h
  | exc y e' => rw [e1] at h; exact h
  | ok d e' =>
    rw [e1] at h
    simp only [R.bind_ok] at h ⊢
    cases e2 : truth d with
    | none => rw [e2] at h; exact h.elim
    | some b =>
      rw [e2] at h
      intro F' H' fp' v f g val
      refine ⟨b, tru_of (val.rf g.st.sub) e2, ?_⟩
      cases b with
      | false =>
        rw [if_neg Bool.false_ne_true]
        exact Cont.weak (q := q1) h1 hm (Cont.left (q2 := q2) h) F' H' fp' v f g val
      | true =>
        rw [if_pos rfl]
        have g0 : Go T.K q1 Γ1 σ F H fp e.s e'.s F' H' fp' emp := go_app g fun a z => z.elim
        refine ⟨e', F', fp', g.st, ?_⟩
        simp only at h
        cases e3 : rb e' with
        | bad => rw [e3] at h; exact h
        | exc y e'' => rw [e3] at h; exact XW.back h g0
        | ok d2 e'' =>
          rw [e3] at h
          exact Cont.weak h2 hn (Cont.back h g0)
theorem rd_or {q1 q2 : Bool} {ra rb : Env → R D} {Γ Γ1 Γ2 Γ3 : Gm} {m n mo : Nat} (h1 : leG Γ3 Γ1) (h2 : leG Γ3 Γ2) (hm : mo = 0 ∨ (1 ≤ mo ∧ mo ≤ m)) (hn : mo = 0 ∨ (1 ≤ mo ∧ mo ≤ n)) (σ : L2.St) (H : Hp) (Q : VK)
    (h : rdE T W kp (q1 && q2) (orD ra rb) Γ mo Γ3 σ H Q) : tOrT T.K (rdE T W kp q1 ra Γ m Γ1) (rdE T W kp q2 rb Γ1 n Γ2) σ H Q := by
  obtain ⟨e, F, fp, s, h⟩ := h
  refine ⟨e, F, fp, s, ?_⟩
  unfold orD at h
  cases e1 : ra e with
  | bad => rw [e1] at h; exact h
  | exc y e' => rw [e1] at h; exact h
  | ok d e' =>
    rw [e1] at h
    simp only [R.bind_ok] at h ⊢
    cases e2 : truth d with
    | none => rw [e2] at h; exact h.elim
    | some b =>
      rw [e2] at h
      intro F' H' fp' v f g val
      refine ⟨b, tru_of (val.rf g.st.sub) e2, ?_⟩
      cases b with
      | true =>
        rw [if_pos rfl]
        exact Cont.weak (q := q1) h1 hm (Cont.left (q2 := q2) h) F' H' fp' v f g val
      | false =>
        rw [if_neg Bool.false_ne_true]
        have g0 : Go T.K q1 Γ1 σ F H fp e.s e'.s F' H' fp' emp := go_app g fun a z => z.elim
        refine ⟨e', F', fp', g.st, ?_⟩
        simp only at h
        cases e3 : rb e' with
        | bad => rw [e3] at h; exact h
        | exc y e'' => rw [e3] at h; exact XW.back h g0
        | ok d2 e'' =>
          rw [e3] at h
          exact Cont.weak h2 hn (Cont.back h g0)
/-- a if c else b -/
def ifD (rc ra rb : Env → R D) : Env → R D := fun e => (rc e).bind fun x e1 => match truth x with
  | some true => ra e1
  | some false => rb e1
  | none => .bad
theorem se_if {x a b : Expr} {pos : Pos} {q1 q2 q3 : Bool} {rc ra rb : Env → R D} {Γ Γ1 Γ2 Γ3 Γ4 : Gm} {m n mo : Nat} (hc : ST X T W kp q1 rc x Γ Γ1) (ha : SE X T W kp q2 ra a Γ1 m Γ2) (hb : SE X T W kp q3 rb b Γ1 n Γ3)
    (h2 : leG Γ4 Γ2) (h3 : leG Γ4 Γ3) (hm : mo = 0 ∨ (1 ≤ mo ∧ mo ≤ m)) (hn : mo = 0 ∨ (1 ≤ mo ∧ mo ≤ n)) : SE X T W kp (q1 && (q2 && q3)) (ifD rc ra rb) (.IfExp x a b pos) Γ mo Γ4 := by
  refine PE.mono (pe_ifExp hc ha hb) fun σ H Q h => ?_
  obtain ⟨e, F, fp, s, h⟩ := h
  refine ⟨e, F, fp, s, ?_⟩
  unfold ifD at h
  cases e1 : rc e with
  | bad => rw [e1] at h; exact h
  | exc y e' => rw [e1] at h; exact h
  | ok d e' =>
    rw [e1] at h
    simp only [R.bind_ok] at h ⊢
    cases e2 : truth d with
    | none => rw [e2] at h; exact h.elim
    | some c =>
      rw [e2] at h
      intro F' H' fp' g
      cases c with
      | true =>
        simp only [if_true]
        refine ⟨e', F', fp', g.st, ?_⟩
        simp only at h
        cases e3 : ra e' with
        | bad => rw [e3] at h; exact h
        | exc y e'' => rw [e3] at h; exact XW.back h g
        | ok d2 e'' => rw [e3] at h; exact Cont.weak h2 hm (Cont.left (q2 := q3) (Cont.back (q2 := q2 && q3) h g))
      | false =>
        simp only [Bool.false_eq_true, if_false]
        refine ⟨e', F', fp', g.st, ?_⟩
        simp only at h
        cases e3 : rb e' with
        | bad => rw [e3] at h; exact h
        | exc y e'' => rw [e3] at h; exact XW.back h g
        | ok d2 e'' =>
          rw [e3] at h
          have h' := Cont.back (q2 := q2 && q3) h g
          rw [Bool.and_comm q2 q3] at h'
          exact Cont.weak h3 hn (Cont.left (q2 := q2) h')
/-! ### one operand -/
/-- behind one operand -/
theorem rd_one {q : Bool} {ra : Env → R D} {Γ Γ1 : Gm} {m mo : Nat} {g : D → Option D} {σ : L2.St} {H : Hp} {Q : VK} {rr : V → Hp → VK → Prop}
    (h : rdE T W kp q (fun e => (ra e).bind fun x e1 => R.lift (g x) e1) Γ mo Γ1 σ H Q)
    (rule : ∀ F H' x v f d, Sub F H' → Val T.K m F H' x v f → g x = some d →
      (∀ F2 H2 w f2, Sub F2 H2 → Sub F F2 → Sub H' H2 → (∀ a, F a = none → F2 a ≠ none → f a ∨ H' a = none) → (∀ a, f2 a → f a ∨ H' a = none) → Val T.K mo F2 H2 d w f2 → Q w H2) → rr v H' Q) :
    rdE T W kp q ra Γ m Γ1 σ H fun v H1 => rr v H1 Q := by
  obtain ⟨e, F, fp, s, h⟩ := h
  refine ⟨e, F, fp, s, ?_⟩
  dsimp only at h
  cases e1 : ra e with
  | bad => rw [e1] at h; exact h
  | exc y e' => rw [e1] at h; exact h
  | ok x e' =>
    rw [e1] at h
    simp only [R.bind_ok] at h
    intro F2 H2 fp2 v f gg val
    cases hg : g x with
    | none => rw [hg] at h; exact h.elim
    | some d =>
      rw [hg] at h
      simp only [R.lift_some] at h
      refine rule F2 H2 x v f d gg.st.sub val hg ?_
      intro F3 H3 w f3 s3 sF sH nw gr vw
      refine h F3 H3 fp2 w f3 ⟨gg.same, ⟨s3, gg.st.lG, gg.st.le, fun i hi => ?_, gg.st.dis, gg.st.dead⟩, fun a z1 z2 => ?_, ?_, fun a z => ?_⟩ vw
      · obtain ⟨d2, v2, e3, e4, r2⟩ := gg.st.at_ i hi
        refine ⟨d2, v2, e3, e4, RO.kept d2 _ v2 _ ⟨sF, fun a ha => ?_, fun a ha hn => ?_⟩ r2⟩
        · have := (gg.st.cells ⟨i, ha⟩).2
          cases eh : H2 a with
          | none => exact absurd eh this
          | some z => exact sH a z eh
        · cases ef : F3 a with
          | none => rfl
          | some z =>
            rcases nw a hn (by rw [ef]; simp) with y | y
            · exact (gg.dis a y ⟨i, ha⟩).elim
            · exact ((gg.st.cells ⟨i, ha⟩).2 y).elim
      · rcases gr a z1 with z | z
        · exact gg.dis a z z2
        · exact (gg.st.cells z2).2 z
      · refine ⟨gg.ch.sub.trans sF, fun a z hz hw => sH a z (gg.ch.keep a z hz hw), fun a z z' => ?_⟩
        cases ef : F2 a with
        | some y => exact gg.ch.new a z (by rw [ef]; simp)
        | none =>
          rcases nw a ef z' with y | y
          · exact gg.grow a (.inr y)
          · exact Grow.none (f := emp) (g := emp) gg.ch (fun _ z => z.2) y
      · rcases z with z | z
        · exact gg.grow a (.inl z)
        · rcases gr a z with z | z
          · exact gg.grow a (.inr z)
          · exact Grow.none (f := emp) (g := emp) gg.ch (fun _ z => z.2) z
theorem keep_flat {K : PySem.W.Frag} {F H : Hp} {f : AS} {mo : Nat} {d : D} {Q : VK} (s : Sub F H) (fl : flat d = true)
    (k : ∀ F2 H2 w f2, Sub F2 H2 → Sub F F2 → Sub H H2 → (∀ a, F a = none → F2 a ≠ none → f a ∨ H a = none) → (∀ a, f2 a → f a ∨ H a = none) → Val K mo F2 H2 d w f2 → Q w H2) : ∀ w, RF K H d w → Q w H :=
  fun w r => k F H w emp s (Sub.refl F) (Sub.refl H) (fun a z z' => (z' z).elim) (fun a z => z.elim) (Val.flat fl r)
def negD : D → Option D
  | .int i => some (.int (-i))
  | _ => none
theorem se_neg {x : Expr} {pos : Pos} {q : Bool} {ra : Env → R D} {Γ Γ1 : Gm} {m mo : Nat} (h : SE X T W kp q ra x Γ m Γ1) : SE X T W kp q (fun e => (ra e).bind fun x e1 => R.lift (negD x) e1) (.UnaryOp .USub x pos) Γ mo Γ1 := by
  refine PE.mono (pe_un un_neg h) fun σ H Q z => rd_one z fun F H' x v f d s val hg k => ?_
  cases x <;> simp only [negD, reduceCtorEq, Option.some.injEq] at hg
  subst hg
  obtain rfl := rf_int (val.rf s)
  exact ⟨_, rfl, keep_flat s rfl k _ mk_int⟩
theorem se_fl {x : Expr} {q : Bool} {ra : Env → R D} {Γ Γ1 : Gm} {m mo : Nat} (h : SE X T W kp q ra x Γ m Γ1) : SE X T W kp q (fun e => (ra e).bind fun x e1 => R.lift (if flat x = true then some x else none) e1) x Γ mo Γ1 := by
  refine PE.mono h fun σ H Q z => rd_one (rr := fun v H Q => Q v H) z fun F H' x v f d s val hg k => ?_
  split at hg <;> simp only [reduceCtorEq, Option.some.injEq] at hg
  rename_i hf
  subst hg
  exact keep_flat s hf k v (val.rf s)
/-! ### subscripts -/
theorem rfl_get {K : PySem.W.Frag} {F : Hp} : ∀ {xs : List D} {vs : List V} {j : Nat} {d : D}, RFL K F xs vs → xs[j]? = some d → ∃ v, vs[j]? = some v ∧ RF K F d v
  | [], _, _, _, _, e => by simp at e
  | x :: xs, vs, j, d, h, e => by
    simp only [RFL] at h
    obtain ⟨w, ws, rfl, q, r⟩ := h
    cases j with
    | zero => simp at e; subst e; exact ⟨w, rfl, q⟩
    | succ j => exact rfl_get (j := j) r (by simpa using e)
theorem rfl_len {K : PySem.W.Frag} {F : Hp} : ∀ {xs : List D} {vs : List V}, RFL K F xs vs → vs.length = xs.length
  | [], _, h => by simp only [RFL] at h; subst h; rfl
  | x :: xs, vs, h => by
    simp only [RFL] at h
    obtain ⟨w, ws, rfl, q, r⟩ := h
    simp [rfl_len r]
theorem rol_len {K : PySem.W.Frag} {F H : Hp} : ∀ {xs : List D} {n : Nat} {vs : List V} {f : AS}, ROL K F H xs n vs f → vs.length = xs.length
  | [], _, _, _, h => by simp only [ROL] at h; rw [h.1]; rfl
  | x :: xs, n, vs, f, h => by
    simp only [ROL] at h
    obtain ⟨w, ws, g1, g2, rfl, q, r, d, rfl⟩ := h
    simp [rol_len r]
theorem rol_get {K : PySem.W.Frag} {F H : Hp} : ∀ {xs : List D} {n : Nat} {vs : List V} {f : AS} {j : Nat} {d : D}, ROL K F H xs n vs f → xs[j]? = some d → ∃ v g, vs[j]? = some v ∧ RO K F H d n v g ∧ ∀ a, g a → f a
  | [], _, _, _, _, _, _, e => by simp at e
  | x :: xs, n, vs, f, j, d, h, e => by
    simp only [ROL] at h
    obtain ⟨w, ws, g1, g2, rfl, q, r, _, rfl⟩ := h
    cases j with
    | zero => simp at e; subst e; exact ⟨w, g1, rfl, q, fun a z => .inl z⟩
    | succ j =>
      obtain ⟨v, g, e1, r1, s1⟩ := rol_get (j := j) r (by simpa using e)
      exact ⟨v, g, by simpa using e1, r1, fun a z => .inr (s1 a z)⟩
theorem ixn_eq (n : Nat) (i : Int) : L2.ixN n i = ixn n i := rfl
/-- an item of a list or tuple that is read -/
theorem at_of {K : PySem.W.Frag} {H : Hp} {xs : List D} {vs : List V} {i : Int} {d : D} (r : RFL K H xs vs) (e : getI xs i = some d) : ∃ v, atI vs i = some v ∧ RF K H d v := by
  unfold getI at e
  unfold atI
  rw [rfl_len r, ixn_eq]
  cases h : ixn xs.length i with
  | none => rw [h] at e; cases e
  | some j =>
    rw [h] at e
    exact rfl_get r e
theorem at_own {K : PySem.W.Frag} {F H : Hp} {xs : List D} {n : Nat} {vs : List V} {f : AS} {i : Int} {d : D} (r : ROL K F H xs n vs f) (e : getI xs i = some d) : ∃ v g, atI vs i = some v ∧ RO K F H d n v g ∧ ∀ a, g a → f a := by
  unfold getI at e
  unfold atI
  rw [rol_len r, ixn_eq]
  cases h : ixn xs.length i with
  | none => rw [h] at e; cases e
  | some j =>
    rw [h] at e
    exact rol_get r e
def child (m : Nat) : Nat := if m = 0 then 0 else dn m
theorem str_at {z : Txt} {i : Int} {c : Nat} (e : getI z i = some c) : atI (txt z).cps.toList i = some c := by rw [txt_list]; exact e
/-- an item, by its holder's level -/
theorem val_item {K : PySem.W.Frag} {F H : Hp} {x d : D} {y : Int} {v : V} {m : Nat} {f : AS} (s : Sub F H) (val : Val K m F H x v f) (hg : opIx x (.int y) = some d) (Q : VK)
    (k : ∀ w g, (∀ a, g a → f a) → Val K (child m) F H d w g → Q w H) : rIx K v (.int y) H Q := by
  cases x <;> simp only [opIx, reduceCtorEq] at hg
  · split at hg <;> simp only [reduceCtorEq, Option.map_eq_some_iff] at hg
    rename_i hl
    obtain ⟨c, e, rfl⟩ := hg
    obtain rfl := rf_str (val.rf s)
    exact .inr (.inr ⟨_, y, c, rfl, rfl, by rw [txt_len]; exact lim_line hl, str_at e, k _ emp (fun _ z => z.elim) (Val.flat rfl (by rw [← txt_one]; exact mk_str))⟩)
  · by_cases h0 : m = 0
    · have hr := val.rf s
      simp only [RF] at hr
      obtain ⟨a, vs, rfl, q, r⟩ := hr
      obtain ⟨w, e1, r1⟩ := at_of r hg
      exact .inr (.inl ⟨a, vs, y, w, rfl, rfl, q, e1, k w emp (fun _ z => z.elim) (by unfold child Val; rw [if_pos h0, if_pos rfl]; exact ⟨r1, rfl⟩)⟩)
    · unfold Val at val
      rw [if_neg h0] at val
      by_cases h1 : m ≤ 1
      · obtain ⟨hr, rfl⟩ := RO.to1 h1 val
        simp only [RF] at hr
        obtain ⟨a, vs, rfl, q, r⟩ := hr
        obtain ⟨w, e1, r1⟩ := at_of r hg
        refine .inr (.inl ⟨a, vs, y, w, rfl, rfl, SqT.sub s q, e1, k w emp (fun _ z => z.elim) ?_⟩)
        unfold child; rw [if_neg h0, dn_le_one h1]
        exact Val.of h0 (RO.of1 h1 r1)
      · unfold RO at val
        rw [if_neg h1] at val
        obtain ⟨a, vs, g, rfl, q, z, na, r, rfl⟩ := val
        obtain ⟨w, g1, e1, r1, s1⟩ := at_own r hg
        refine .inr (.inl ⟨a, vs, y, w, rfl, rfl, .inl (.inl q), e1, k w g1 (fun a z => .inr (s1 a z)) ?_⟩)
        unfold child; rw [if_neg h0]
        exact Val.of (by have := dn_pos (n := m) (by omega); omega) r1
  · by_cases h0 : m = 0
    · have hr := val.rf s
      simp only [RF] at hr
      obtain ⟨a, vs, rfl, q, r⟩ := hr
      obtain ⟨w, e1, r1⟩ := at_of r hg
      exact .inl ⟨a, vs, y, w, rfl, rfl, .inl q, e1, k w emp (fun _ z => z.elim) (by unfold child Val; rw [if_pos h0, if_pos rfl]; exact ⟨r1, rfl⟩)⟩
    · unfold Val at val
      rw [if_neg h0] at val
      by_cases h1 : m ≤ 1
      · obtain ⟨hr, rfl⟩ := RO.to1 h1 val
        simp only [RF] at hr
        obtain ⟨a, vs, rfl, q, r⟩ := hr
        obtain ⟨w, e1, r1⟩ := at_of r hg
        refine .inl ⟨a, vs, y, w, rfl, rfl, .inl (Rd.sub s q), e1, k w emp (fun _ z => z.elim) ?_⟩
        unfold child; rw [if_neg h0, dn_le_one h1]
        exact Val.of h0 (RO.of1 h1 r1)
      · unfold RO at val
        rw [if_neg h1] at val
        obtain ⟨a, vs, g, rfl, q, z, na, r, rfl⟩ := val
        obtain ⟨w, g1, e1, r1, s1⟩ := at_own r hg
        refine .inl ⟨a, vs, y, w, rfl, rfl, .inl (.inl q), e1, k w g1 (fun a z => .inr (s1 a z)) ?_⟩
        unfold child; rw [if_neg h0]
        exact Val.of (by have := dn_pos (n := m) (by omega); omega) r1
theorem ix_int {x y d : D} (h : opIx x y = some d) : ∃ i, y = .int i := by
  cases x <;> cases y <;> simp only [opIx, reduceCtorEq] at h <;> exact ⟨_, rfl⟩
theorem se_ix {q1 q2 : Bool} {ra rb : Env → R D} {a b : Expr} {pos : Pos} {Γ Γ1 Γ2 : Gm} {m n : Nat} (hK : X.K = T.K) (ha : SE X T W kp q1 ra a Γ m Γ1) (hb : SE X T W kp q2 rb b Γ1 n Γ2) (hm : own m = true ∨ q2 = true) (hp : PlainIx b) :
    SE X T W kp (q1 && q2) (fun e => (ra e).bind fun x e1 => (rb e1).bind fun y e2 => R.lift (opIx x y) e2) (.Subscript a b pos) Γ (child m) Γ2 := by
  refine PE.mono (pe_ix ix_seq ha hb hp) fun σ H Q h => ?_
  rw [hK]
  refine rd_two hm h fun F H' x y v u f d s val hg k => ?_
  obtain ⟨w1, ws, g1, g2, e1, v1, v2, _, rfl⟩ := val
  cases e1
  obtain ⟨w2, ws2, g3, g4, e2, v3, _⟩ := v2
  cases e2
  obtain ⟨i, rfl⟩ := ix_int hg
  obtain rfl := rf_int (v3.rf s)
  exact val_item s v1 hg Q fun w g sub vw => k F H' w g s (Sub.refl F) (Sub.refl H') (fun a z z' => (z' z).elim) (fun a z => .inl (.inl (sub a z))) vw
/-! ### displays -/
theorem vall_len {K : PySem.W.Frag} {F H : Hp} : ∀ {ms : List Nat} {xs : List D} {vs : List V} {f : AS}, ValL K F H ms xs vs f → vs.length = xs.length
  | [], [], _, _, h => by simp only [ValL] at h; rw [h.1]; rfl
  | m :: ms, x :: xs, _, _, h => by
    simp only [ValL] at h
    obtain ⟨w, ws, g1, g2, rfl, h1, h2, _, rfl⟩ := h
    simp [vall_len h2]
  | [], _ :: _, _, _, h => by simp only [ValL] at h
  | _ :: _, [], _, _, h => by simp only [ValL] at h
/-- values of one's own, all at level n -/
theorem vall_rol {K : PySem.W.Frag} {F H : Hp} {n : Nat} (hn : 1 ≤ n) : ∀ {ms : List Nat} {xs : List D} {vs : List V} {f : AS}, Sub F H → ValL K F H ms xs vs f → (∀ m ∈ ms, n ≤ m) →
    ∃ g f', (∀ a, f a ↔ g a ∨ f' a) ∧ Dis g f' ∧ ROL K (frz F H g) H xs n vs f'
  | [], [], vs, f, s, h, _ => by
    simp only [ValL] at h
    refine ⟨emp, f, fun a => by simp [emp], fun a z => z.elim, ?_⟩
    simp only [ROL]; exact h
  | m :: ms, x :: xs, vs, f, s, h, hm => by
    simp only [ValL] at h
    obtain ⟨w, ws, g1, g2, e, h1, h2, d, rfl⟩ := h
    have hm1 : n ≤ m := hm m List.mem_cons_self
    have q : RO K F H x m w g1 := by unfold Val at h1; rw [if_neg (by omega)] at h1; exact h1
    obtain ⟨a1, b1, hs1, hd1, q1⟩ := RO.weak s x m n w g1 hn hm1 q
    obtain ⟨a2, b2, hs2, hd2, r2⟩ := vall_rol hn s h2 fun m' z => hm m' (List.mem_cons_of_mem _ z)
    have c1 := RO.cells x m w g1 q
    have c2 := h2.cells
    refine ⟨fun b => a1 b ∨ a2 b, fun b => b1 b ∨ b2 b, fun b => ?_, fun b => ?_, ?_⟩
    · have := hs1 b; have := hs2 b; grind
    · have := hs1 b; have := hs2 b; have := d b; have := hd1 b; have := hd2 b; grind
    · simp only [ROL]
      refine ⟨w, ws, b1, b2, e, ?_, ?_, fun b hb1 hb2 => d b ((hs1 b).mpr (.inr hb1)) ((hs2 b).mpr (.inr hb2)), rfl⟩
      · have k : Kept b1 (frz F H a1) H (frz (frz F H a1) H a2) H := frz_kept (fun b hb => by
          by_cases hb1 : a1 b
          · exact (d b ((hs1 b).mpr (.inl hb1)) ((hs2 b).mpr (.inl hb))).elim
          · rw [frz_out hb1]; exact (c2 b ((hs2 b).mpr (.inl hb))).1) fun b hb1 hb2 => d b ((hs1 b).mpr (.inr hb1)) ((hs2 b).mpr (.inl hb2))
        have := RO.kept x n w b1 k q1
        rw [frz_frz] at this
        exact this
      · have k : Kept b2 (frz F H a2) H (frz (frz F H a2) H a1) H := frz_kept (fun b hb => by
          by_cases hb1 : a2 b
          · exact (d b ((hs1 b).mpr (.inl hb)) ((hs2 b).mpr (.inl hb1))).elim
          · rw [frz_out hb1]; exact (c1 b ((hs1 b).mpr (.inl hb))).1) fun b hb1 hb2 => d b ((hs1 b).mpr (.inl hb2)) ((hs2 b).mpr (.inr hb1))
        have := ROL.kept xs n ws b2 k r2
        rw [frz_frz] at this
        have e3 : (fun a => a2 a ∨ a1 a) = fun b => a1 b ∨ a2 b := by funext b; exact propext or_comm
        rw [e3] at this
        exact this
  | [], _ :: _, _, _, _, h, _ => by simp only [ValL] at h
  | _ :: _, [], _, _, _, h, _ => by simp only [ValL] at h
theorem dn_up {n : Nat} (h : 1 ≤ n) (h2 : n ≤ 100) : dn (up n) = n ∨ (n = 99 ∧ dn (up n) = 100) := by
  unfold up dn
  split
  · rename_i h3
    rw [if_neg (by omega), if_pos (by omega)]; omega
  · rw [if_neg (by omega), if_neg (by omega)]; omega
theorem upd_sub {H : Hp} {p : Addr} {o : HO} (h : H p = none) : Sub H (upd H p o) := fun b x e => by
  rw [upd_ne (ne_of_none e h)]
  exact e
/-- the level of a display -/
def lvD (ns : List Nat) : Nat := let n := ns.foldl min 100; if n = 99 then 99 else up n
theorem foldl_min_le : ∀ (ns : List Nat) (k : Nat), ns.foldl min k ≤ k ∧ ∀ n ∈ ns, ns.foldl min k ≤ n
  | [], k => ⟨Nat.le_refl _, fun _ h => nomatch h⟩
  | a :: ns, k => by
    obtain ⟨h1, h2⟩ := foldl_min_le ns (min k a)
    refine ⟨Nat.le_trans h1 (Nat.min_le_left _ _), fun n hn => ?_⟩
    rcases List.mem_cons.mp hn with rfl | hn
    · exact Nat.le_trans h1 (Nat.min_le_right _ _)
    · exact h2 n hn
theorem foldl_min_pos : ∀ (ns : List Nat) (k : Nat), 1 ≤ k → (∀ n ∈ ns, 1 ≤ n) → 1 ≤ ns.foldl min k
  | [], k, h, _ => h
  | a :: ns, k, h, hn => foldl_min_pos ns _ (by have := hn a List.mem_cons_self; omega) fun n z => hn n (List.mem_cons_of_mem _ z)
theorem lvD_spec {ns : List Nat} (h : ∀ n ∈ ns, 1 ≤ n) : 2 ≤ lvD ns ∧ 1 ≤ dn (lvD ns) ∧ ∀ n ∈ ns, dn (lvD ns) ≤ n := by
  have h1 := foldl_min_pos ns 100 (by decide) h
  have h2 := foldl_min_le ns 100
  unfold lvD
  generalize ns.foldl min 100 = n at h1 h2
  dsimp only
  by_cases h9 : n = 99
  · rw [if_pos h9]
    subst h9
    exact ⟨by decide, by decide, fun a z => Nat.le_trans (by decide) (h2.2 a z)⟩
  · rw [if_neg h9]
    have e : dn (up n) = n := (dn_up h1 h2.1).resolve_right fun z => h9 z.1
    rw [e]
    refine ⟨by unfold up; split <;> omega, h1, h2.2⟩
/-- behind a list of operands -/
theorem rd_many {q : Bool} {rs : Env → R (List D)} {Γ Γ1 : Gm} {ms : List Nat} {mo : Nat} {g : List D → Option D} {σ : L2.St} {H : Hp} {Q : VK} {rr : List V → Hp → VK → Prop}
    (h : rdE T W kp q (fun e => (rs e).bind fun xs e1 => R.lift (g xs) e1) Γ mo Γ1 σ H Q)
    (rule : ∀ F H' xs vs f d, Sub F H' → (∃ e e', rs e = .ok xs e') → ValL T.K F H' ms xs vs f → g xs = some d →
      (∀ F2 H2 w f2, Sub F2 H2 → Sub F F2 → Sub H' H2 → (∀ a, F a = none → F2 a ≠ none → f a ∨ H' a = none) → (∀ a, f2 a → f a ∨ H' a = none) → Val T.K mo F2 H2 d w f2 → Q w H2) → rr vs H' Q) :
    rdL T W kp q rs Γ ms Γ1 σ H fun vs H1 => rr vs H1 Q := by
  obtain ⟨e, F, fp, s, h⟩ := h
  refine ⟨e, F, fp, s, ?_⟩
  dsimp only at h
  cases e1 : rs e with
  | bad => rw [e1] at h; exact h
  | exc y e' => rw [e1] at h; exact h
  | ok xs e' =>
    rw [e1] at h
    simp only [R.bind_ok] at h
    intro F2 H2 fp2 vs f gg val
    cases hg : g xs with
    | none => rw [hg] at h; exact h.elim
    | some d =>
      rw [hg] at h
      simp only [R.lift_some] at h
      refine rule F2 H2 xs vs f d gg.st.sub ⟨e, e', e1⟩ val hg ?_
      intro F3 H3 w f3 s3 sF sH nw gr vw
      refine h F3 H3 fp2 w f3 ⟨gg.same, ⟨s3, gg.st.lG, gg.st.le, fun i hi => ?_, gg.st.dis, gg.st.dead⟩, fun a z1 z2 => ?_, ?_, fun a z => ?_⟩ vw
      · obtain ⟨d2, v2, e3, e4, r2⟩ := gg.st.at_ i hi
        refine ⟨d2, v2, e3, e4, RO.kept d2 _ v2 _ ⟨sF, fun a ha => ?_, fun a ha hn => ?_⟩ r2⟩
        · have := (gg.st.cells ⟨i, ha⟩).2
          cases eh : H2 a with
          | none => exact absurd eh this
          | some z => exact sH a z eh
        · cases ef : F3 a with
          | none => rfl
          | some z =>
            rcases nw a hn (by rw [ef]; simp) with y | y
            · exact (gg.dis a y ⟨i, ha⟩).elim
            · exact ((gg.st.cells ⟨i, ha⟩).2 y).elim
      · rcases gr a z1 with z | z
        · exact gg.dis a z z2
        · exact (gg.st.cells z2).2 z
      · refine ⟨gg.ch.sub.trans sF, fun a z hz hw => sH a z (gg.ch.keep a z hz hw), fun a z z' => ?_⟩
        cases ef : F2 a with
        | some y => exact gg.ch.new a z (by rw [ef]; simp)
        | none =>
          rcases nw a ef z' with y | y
          · exact gg.grow a (.inr y)
          · exact Grow.none (f := emp) (g := emp) gg.ch (fun _ z => z.2) y
      · rcases z with z | z
        · exact gg.grow a (.inl z)
        · rcases gr a z with z | z
          · exact gg.grow a (.inr z)
          · exact Grow.none (f := emp) (g := emp) gg.ch (fun _ z => z.2) z
/-- a new object of values of one's own -/
theorem new_seq {K : PySem.W.Frag} {F H : Hp} {ms : List Nat} {xs : List D} {vs : List V} {f : AS} {tup : Bool} {p : Addr} (s : Sub F H) (val : ValL K F H ms xs vs f) (hm : ∀ m ∈ ms, 1 ≤ m) (np : H p = none) {Q : VK}
    (k : ∀ F2 H2 w f2, Sub F2 H2 → Sub F F2 → Sub H H2 → (∀ a, F a = none → F2 a ≠ none → f a ∨ H a = none) → (∀ a, f2 a → f a ∨ H a = none) → Val K (lvD ms) F2 H2 (if tup then .tup xs else .lst xs) w f2 → Q w H2) : Q (.ref p) (upd H p (if tup then .tup vs else .lst vs)) := by
  obtain ⟨h2, h1, hle⟩ := lvD_spec hm
  obtain ⟨g, f', hs, hd, r⟩ := vall_rol h1 s val hle
  have hc := val.cells
  have sH : Sub H (upd H p (if tup then .tup vs else .lst vs)) := upd_sub np
  have pf : ∀ a, f a → a ≠ p := fun a z e => by subst e; exact (hc a z).2 np
  have Fp : F p = none := by
    cases e : F p with
    | none => rfl
    | some o => have := s _ _ e; rw [np] at this; cases this
  refine k (frz F H g) _ (.ref p) (fun b => b = p ∨ f' b) ((frz_le s).trans sH) (frz_sub fun a z => (hc a ((hs a).mpr (.inl z))).1) sH (fun a z z' => ?_) (fun a z => ?_) (Val.of (by omega) ?_)
  · by_cases ha : g a
    · exact .inl ((hs a).mpr (.inl ha))
    · rw [frz_out ha] at z'; exact absurd z z'
  · rcases z with rfl | z
    · exact .inr np
    · exact .inl ((hs a).mpr (.inr z))
  · have r' : ROL K (frz F H g) (upd H p (if tup then .tup vs else .lst vs)) xs (dn (lvD ms)) vs f' := by
      refine ROL.kept xs _ vs f' ⟨Sub.refl _, fun a z => upd_ne (pf a ((hs a).mpr (.inr z))), fun a z e => e⟩ r
    have np' : frz F H g p = none := by
      by_cases ha : g p
      · rw [frz_in ha]; exact np
      · rw [frz_out ha]; exact Fp
    have nf : ¬ f' p := fun z => pf p ((hs p).mpr (.inr z)) rfl
    cases tup with
    | true =>
      simp only [if_true] at r' ⊢
      unfold RO
      rw [if_neg (by omega)]
      exact ⟨p, vs, f', rfl, upd_same, np', nf, r', rfl⟩
    | false =>
      simp only [Bool.false_eq_true, if_false] at r' ⊢
      unfold RO
      rw [if_neg (by omega)]
      exact ⟨p, vs, f', rfl, upd_same, np', nf, r', rfl⟩
theorem se_lst {q : Bool} {rs : Env → R (List D)} {es : List Expr} {pos : Pos} {Γ Γ1 : Gm} {ms : List Nat} (h : SL X T W kp q rs es Γ ms Γ1) (hm : ∀ m ∈ ms, 1 ≤ m) (hl : ∀ e xs e', rs e = .ok xs e' → xs.length ≤ LIM) :
    SE X T W kp q (fun e => (rs e).bind fun xs e1 => .ok (.lst xs) e1) (.List es pos) Γ (lvD ms) Γ1 := by
  refine PE.mono (pe_lst h) fun σ H Q z => rd_many (g := fun xs => some (.lst xs)) (rr := fun vs H1 Q => vs.length ≤ sizeLine ∧ ∀ p, H1 p = none → Q (.ref p) (upd H1 p (.lst vs))) z fun F H' xs vs f d s hr val hg k => ?_
  obtain ⟨e, e', hr⟩ := hr
  cases hg
  exact ⟨by rw [vall_len val]; exact lim_line (hl e xs e' hr), fun p np => new_seq (tup := false) s val hm np k⟩
theorem se_tup {q : Bool} {rs : Env → R (List D)} {es : List Expr} {x1 : Nat} {pos : Pos} {Γ Γ1 : Gm} {ms : List Nat} (h : SL X T W kp q rs es Γ ms Γ1) (hm : ∀ m ∈ ms, 1 ≤ m) (hl : ∀ e xs e', rs e = .ok xs e' → xs.length ≤ LIM) :
    SE X T W kp q (fun e => (rs e).bind fun xs e1 => .ok (.tup xs) e1) (.Tuple es x1 pos) Γ (lvD ms) Γ1 := by
  refine PE.mono (pe_tup h) fun σ H Q z => rd_many (g := fun xs => some (.tup xs)) (rr := fun vs H1 Q => vs.length ≤ sizeLine ∧ ∀ p, H1 p = none → Q (.ref p) (upd H1 p (.tup vs))) z fun F H' xs vs f d s hr val hg k => ?_
  obtain ⟨e, e', hr⟩ := hr
  cases hg
  exact ⟨by rw [vall_len val]; exact lim_line (hl e xs e' hr), fun p np => new_seq (tup := true) s val hm np k⟩
end
end Z

/-! Z7: statements. -/
namespace Z
open PySem L2
structure Out where
  nx : Option Gm
  bk : Option Gm
  ct : Option Gm
/-- what a return owes: the levels of the locals that are handed back, the answer's level; the locals that are not stored -/
structure RT where
  Γr : Gm
  rl : Nat
  ro : List Nat
structure GoS (K : PySem.W.Frag) (ro : List Nat) (Γ' : Gm) (σ : L2.St) (F H : Hp) (fp : Nat → AS) (e' : List D) (σ' : L2.St) (F' H' : Hp) (fp' : Nat → AS) (f : AS) : Prop where
  st : St K Γ' e' σ' F' H' fp'
  dis : Dis f (Own fp')
  ch : Ch (Own fp) (Own fp) F H F' H'
  grow : Grow (fun a => Own fp' a ∨ f a) (Own fp) H
  ro : ∀ i ∈ ro, σ'[i]? = σ[i]?
  len : σ'.length = σ.length
section
variable {K : PySem.W.Frag} {ro : List Nat} {σ σ1 σ2 : L2.St} {F F1 F2 H H1 H2 : Hp} {fp fp1 fp2 : Nat → AS}
theorem Go.s {q : Bool} {Γ' : Gm} {e0 e' : List D} {f : AS} (g : Go K q Γ' σ F H fp e0 e' F1 H1 fp1 f) : GoS K ro Γ' σ F H fp e' σ F1 H1 fp1 f :=
  ⟨g.st, g.dis, g.ch.mono (fun _ z => z) fun _ z => z.2, g.grow, fun _ _ => rfl, rfl⟩
theorem GoS.refl {Γ : Gm} {e : List D} (s : St K Γ e σ F H fp) : GoS K ro Γ σ F H fp e σ F H fp emp :=
  ⟨s, fun _ z => z.elim, .refl, fun a z => z.elim .inl fun z => z.elim, fun _ _ => rfl, rfl⟩
/-- one behind the other; the second's answer -/
theorem GoS.trans {Γ1 Γ2 : Gm} {e1 e2 : List D} {f1 f2 : AS} (a : GoS K ro Γ1 σ F H fp e1 σ1 F1 H1 fp1 f1) (b : GoS K ro Γ2 σ1 F1 H1 fp1 e2 σ2 F2 H2 fp2 f2) : GoS K ro Γ2 σ F H fp e2 σ2 F2 H2 fp2 f2 := by
  have gr : Grow (Own fp1) (Own fp) H := fun x z => a.grow x (.inl z)
  refine ⟨b.st, b.dis, Ch.trans a.ch (fun _ z => z) gr b.ch (fun _ z => z) fun _ _ z => z, fun x z => ?_, fun i hi => (b.ro i hi).trans (a.ro i hi), b.len.trans a.len⟩
  rcases b.grow x z with u | u
  · exact gr x u
  · exact Grow.none (f := emp) (g := emp) a.ch (fun _ z => z) u
theorem GoS.weak {Γ1 Γ2 : Gm} {e1 : List D} {f : AS} (g : GoS K ro Γ1 σ F H fp e1 σ1 F1 H1 fp1 f) (h : leG Γ2 Γ1) (hf : ∀ a, f a → F1 a = none ∧ H1 a ≠ none) : ∃ F2 fp2, GoS K ro Γ2 σ F H fp e1 σ1 F2 H1 fp2 f ∧ Kept f F1 H1 F2 H1 ∧ Sub F1 F2 := by
  obtain ⟨F2, fp2, s2, c, o⟩ := g.st.weak h
  refine ⟨F2, fp2, ⟨s2, fun a z1 z2 => g.dis a z1 (o a z2), ?_, fun a z => g.grow a (z.imp (o a) id), g.ro, g.len⟩, c.kept (fun _ z => z.elim) g.dis hf, c.sub⟩
  exact Ch.trans g.ch (fun _ z => z) (fun a z => g.grow a (.inl z)) c (fun _ z => z.elim) fun _ z => z.elim
theorem goS_app {Γ' : Gm} {e' : List D} {f g : AS} (h : GoS K ro Γ' σ F H fp e' σ1 F1 H1 fp1 f) (e : ∀ a, g a → f a) : GoS K ro Γ' σ F H fp e' σ1 F1 H1 fp1 g :=
  ⟨h.st, fun a z => h.dis a (e a z), h.ch, fun a z => h.grow a (z.imp id (e a)), h.ro, h.len⟩
end
def EndO (K : PySem.W.Frag) (ro : List Nat) (o : Option Gm) (σ : L2.St) (F H : Hp) (fp : Nat → AS) (e' : List D) (P : L2.St → Hp → Prop) : Prop := match o with
  | none => True
  | some Γ' => ∀ σ' F' H' fp', GoS K ro Γ' σ F H fp e' σ' F' H' fp' emp → P σ' H'
def XWs (T : Tb) (W : WX) (kp ro : List Nat) (σ : L2.St) (F H : Hp) (fp : Nat → AS) (x : D) (e' : List D) : Prop :=
  ∀ σ' F' H' cls dx, σ'.length = σ.length → (∀ i ∈ ro, σ'[i]? = σ[i]?) → Sub F' H' → e'.length = σ'.length → Ch (Own fp) (Own fp) F H F' H' →
    (∀ i ∈ kp, ∃ d v, e'[i]? = some d ∧ σ'[i]? = some (some v) ∧ RF T.K F' d v) → Exc T F' H' x cls dx → W cls dx σ' H'
theorem XWs.at_ {T : Tb} {W : WX} {kp ro : List Nat} {σ : L2.St} {F H : Hp} {fp : Nat → AS} {x : D} {e' : List D} (h : XWs T W kp ro σ F H fp x e') : XW T W kp σ F H fp x e' :=
  fun F' H' cls dx s l c kr ex => h σ F' H' cls dx rfl (fun _ _ => rfl) s l c kr ex
theorem XWs.back {T : Tb} {W : WX} {kp ro : List Nat} {σ σ1 : L2.St} {F H F1 H1 : Hp} {fp fp1 : Nat → AS} {x : D} {e1 e' : List D} {Γ1 : Gm} {f : AS} (h : XWs T W kp ro σ F H fp x e') (g : GoS T.K ro Γ1 σ F H fp e1 σ1 F1 H1 fp1 f) : XWs T W kp ro σ1 F1 H1 fp1 x e' :=
  fun σ' F' H' cls dx hl hr s l c kr ex => h σ' F' H' cls dx (hl.trans g.len) (fun i hi => (hr i hi).trans (g.ro i hi)) s l (Ch.trans g.ch (fun _ z => z) (fun a z => g.grow a (.inl z)) c (fun _ z => z) fun _ _ z => z) kr ex
section
variable (T : Tb) (W : WX) (kp : List Nat) (Rt : RT)
def OutS (O : Out) (σ : L2.St) (F H : Hp) (fp : Nat → AS) (D : Ends) (r : RS) : Prop := match r with
  | .nx e' => EndO T.K Rt.ro O.nx σ F H fp e'.s D.nx
  | .bk e' => EndO T.K Rt.ro O.bk σ F H fp e'.s D.bk
  | .ct e' => EndO T.K Rt.ro O.ct σ F H fp e'.s D.ct
  | .rt d e' => ∀ σ' F' H' fp' v f, GoS T.K Rt.ro Rt.Γr σ F H fp e'.s σ' F' H' fp' f → RO T.K F' H' d Rt.rl v f → D.rt v H'
  | .exc x e' => XWs T W kp Rt.ro σ F H fp x e'.s
  | .bad => False
def rdS (r : Env → RS) (Γ : Gm) (O : Out) : TS := fun D σ H => ∃ e F fp, St T.K Γ e.s σ F H fp ∧ OutS T W kp Rt O σ F H fp D (r e)
end
/-- THE JUDGEMENT of a statement; of a block -/
def SS (X : Cx) (T : Tb) (W : WX) (kp : List Nat) (Rt : RT) (r : Env → RS) (x : Stmt) (Γ : Gm) (O : Out) : Prop := PS X x (rdS T W kp Rt r Γ O)
def SSs (X : Cx) (T : Tb) (W : WX) (kp : List Nat) (Rt : RT) (r : Env → RS) (xs : List Stmt) (Γ : Gm) (O : Out) : Prop := PSs X xs (rdS T W kp Rt r Γ O)
theorem PS.mono {X : Cx} {x : Stmt} {t t' : TS} (h : PS X x t) (m : ∀ D σ H, t' D σ H → t D σ H) : PS X x t' := ⟨fun pins s σ H D I z => h.run pins s σ H D I (m D σ H z)⟩
theorem PSs.mono {X : Cx} {x : List Stmt} {t t' : TS} (h : PSs X x t) (m : ∀ D σ H, t' D σ H → t D σ H) : PSs X x t' := ⟨fun pins s σ H D I z => h.run pins s σ H D I (m D σ H z)⟩
/-- o is reached from o': where o is some, o' is some and below -/
def leO (o' o : Option Gm) : Prop := ∀ Γ, o = some Γ → ∃ Γ', o' = some Γ' ∧ leG Γ' Γ
theorem leO.refl (o : Option Gm) : leO o o := fun Γ h => ⟨Γ, h, leG.refl Γ⟩
theorem leO.none (o : Option Gm) : leO o none := fun _ h => nomatch h
structure Out.le (O' O : Out) : Prop where
  nx : leO O'.nx O.nx
  bk : leO O'.bk O.bk
  ct : leO O'.ct O.ct
section
variable {X : Cx} {T : Tb} {W : WX} {kp : List Nat} {Rt : RT}
section
variable {σ σ1 : L2.St} {F H F1 H1 : Hp} {fp fp1 : Nat → AS} {D D' : Ends} {O O' : Out}
theorem EndO.weak {K : PySem.W.Frag} {ro : List Nat} {o' o : Option Gm} {e' : List Z.D} {P : L2.St → Hp → Prop} (l : leO o' o) (h : EndO K ro o' σ F H fp e' P) : EndO K ro o σ F H fp e' P := by
  cases o with
  | none => exact True.intro
  | some Γ =>
    obtain ⟨Γ', rfl, hl⟩ := l Γ rfl
    intro σ' F' H' fp' g
    obtain ⟨F2, fp2, g2, _⟩ := g.weak hl (fun _ z => z.elim)
    exact h σ' F2 H' fp2 g2
theorem EndO.back {K : PySem.W.Frag} {ro : List Nat} {o : Option Gm} {e1 e' : List Z.D} {P : L2.St → Hp → Prop} {Γ1 : Gm} {f : AS} (h : EndO K ro o σ F H fp e' P) (g : GoS K ro Γ1 σ F H fp e1 σ1 F1 H1 fp1 f) : EndO K ro o σ1 F1 H1 fp1 e' P := by
  cases o with
  | none => exact True.intro
  | some Γ => exact fun σ' F' H' fp' g2 => h σ' F' H' fp' (g.trans g2)
theorem EndO.imp {K : PySem.W.Frag} {ro : List Nat} {o : Option Gm} {e' : List Z.D} {P P' : L2.St → Hp → Prop} (h : EndO K ro o σ F H fp e' P) (m : ∀ σ' H', P σ' H' → P' σ' H') : EndO K ro o σ F H fp e' P' := by
  cases o with
  | none => exact True.intro
  | some Γ => exact fun σ' F' H' fp' g2 => m _ _ (h σ' F' H' fp' g2)
theorem OutS.weak {r : RS} (l : O'.le O) (h : OutS T W kp Rt O' σ F H fp D r) : OutS T W kp Rt O σ F H fp D r := by
  cases r with
  | nx e => exact EndO.weak l.nx h
  | bk e => exact EndO.weak l.bk h
  | ct e => exact EndO.weak l.ct h
  | rt d e => exact h
  | exc x e => exact h
  | bad => exact h
theorem OutS.back {r : RS} {Γ1 : Gm} {e1 : List Z.D} {f : AS} (h : OutS T W kp Rt O σ F H fp D r) (g : GoS T.K Rt.ro Γ1 σ F H fp e1 σ1 F1 H1 fp1 f) : OutS T W kp Rt O σ1 F1 H1 fp1 D r := by
  cases r with
  | nx e => exact EndO.back h g
  | bk e => exact EndO.back h g
  | ct e => exact EndO.back h g
  | rt d e => exact fun σ' F' H' fp' v f2 g2 r2 => h σ' F' H' fp' v f2 (g.trans g2) r2
  | exc x e => exact XWs.back h g
  | bad => exact h
end
theorem ss_weak {r : Env → RS} {x : Stmt} {Γ : Gm} {O O' : Out} (h : SS X T W kp Rt r x Γ O) (l : O'.le O) : SS X T W kp Rt r x Γ O' :=
  PS.mono h fun D σ H ⟨e, F, fp, s, z⟩ => ⟨e, F, fp, s, z.weak l⟩
/-! ### small statements -/
theorem ss_pass {pos : Pos} {Γ : Gm} : SS X T W kp Rt .nx (.Pass pos) Γ ⟨some Γ, none, none⟩ :=
  PS.mono ps_pass fun D σ H ⟨e, F, fp, s, z⟩ => z σ F H fp (.refl s)
theorem ss_doc {x : Str} {j : Nat} {pos pos' : Pos} {Γ : Gm} : SS X T W kp Rt .nx (.Expr (.Constant (.str x) j pos) pos') Γ ⟨some Γ, none, none⟩ :=
  PS.mono ps_doc fun D σ H ⟨e, F, fp, s, z⟩ => z σ F H fp (.refl s)
theorem ss_brk {pos : Pos} {Γ : Gm} : SS X T W kp Rt .bk (.Break pos) Γ ⟨none, some Γ, none⟩ :=
  PS.mono ps_break fun D σ H ⟨e, F, fp, s, z⟩ => z σ F H fp (.refl s)
theorem ss_ct {pos : Pos} {Γ : Gm} : SS X T W kp Rt .ct (.Continue pos) Γ ⟨none, none, some Γ⟩ :=
  PS.mono ps_continue fun D σ H ⟨e, F, fp, s, z⟩ => z σ F H fp (.refl s)
theorem sss_nil {Γ : Gm} : SSs X T W kp Rt .nx [] Γ ⟨some Γ, none, none⟩ :=
  PSs.mono pss_nil fun D σ H ⟨e, F, fp, s, z⟩ => z σ F H fp (.refl s)
theorem sss_cons {r1 r2 : Env → RS} {x : Stmt} {xs : List Stmt} {Γ Γ1 : Gm} {O1 O2 O : Out} (h1 : SS X T W kp Rt r1 x Γ O1) (h2 : SSs X T W kp Rt r2 xs Γ1 O2) (hn : O1.nx = some Γ1) (l1 : O.le { O1 with nx := none }) (l2 : O.le O2) :
    SSs X T W kp Rt (fun e => (r1 e).seq r2) (x :: xs) Γ O := by
  refine PSs.mono (pss_cons h1 h2) fun D σ H ⟨e, F, fp, s, z⟩ => ⟨e, F, fp, s, ?_⟩
  cases e1 : r1 e with
  | nx e' =>
    simp only [e1, RS.seq_nx] at z
    show EndO _ _ O1.nx _ _ _ _ _ _
    rw [hn]
    exact fun σ' F' H' fp' g => ⟨e', F', fp', g.st, (z.weak l2).back g⟩
  | bk e' => simp only [e1, RS.seq_bk] at z; exact EndO.weak l1.bk z
  | ct e' => simp only [e1, RS.seq_ct] at z; exact EndO.weak l1.ct z
  | rt d e' => simp only [e1, RS.seq_rt] at z; exact z
  | exc y e' => simp only [e1, RS.seq_exc] at z; exact z
  | bad => simp only [e1, RS.seq_bad] at z; exact z
/-- a block that ends here -/
theorem sss_end {r1 r2 : Env → RS} {x : Stmt} {xs : List Stmt} {Γ : Gm} {O1 O : Out} (h1 : SS X T W kp Rt r1 x Γ O1) (hn : O1.nx = none) (l1 : O.le O1) : SSs X T W kp Rt (fun e => (r1 e).seq r2) (x :: xs) Γ O := by
  refine PSs.mono (pss_cons h1 (pss_never (X := X))) fun D σ H ⟨e, F, fp, s, z⟩ => ⟨e, F, fp, s, ?_⟩
  cases e1 : r1 e with
  | nx e' =>
    show EndO _ _ O1.nx _ _ _ _ _ _
    rw [hn]; exact True.intro
  | bk e' => simp only [e1, RS.seq_bk] at z; exact EndO.weak l1.bk z
  | ct e' => simp only [e1, RS.seq_ct] at z; exact EndO.weak l1.ct z
  | rt d e' => simp only [e1, RS.seq_rt] at z; exact z
  | exc y e' => simp only [e1, RS.seq_exc] at z; exact z
  | bad => simp only [e1, RS.seq_bad] at z; exact z
theorem ss_if {rc : Env → R D} {ra rb : Env → RS} {c : Expr} {a b : List Stmt} {pos : Pos} {q : Bool} {Γ Γ1 : Gm} {Oa Ob O : Out} (hc : ST X T W kp q rc c Γ Γ1) (ha : SSs X T W kp Rt ra a Γ1 Oa) (hb : SSs X T W kp Rt rb b Γ1 Ob) (la : O.le Oa) (lb : O.le Ob) :
    SS X T W kp Rt (fun e => (rc e).st fun x e1 => match truth x with | some true => ra e1 | some false => rb e1 | none => .bad) (.If c a b pos) Γ O := by
  refine PS.mono (ps_if hc ha hb) fun D σ H ⟨e, F, fp, s, z⟩ => ⟨e, F, fp, s, ?_⟩
  cases e1 : rc e with
  | bad => simp only [e1, R.st_bad] at z; exact z
  | exc y e' => simp only [e1, R.st_exc] at z; exact XWs.at_ z
  | ok d e' =>
    simp only [e1, R.st_ok] at z ⊢
    cases e2 : truth d with
    | none => rw [e2] at z; exact z.elim
    | some t =>
      rw [e2] at z
      intro F' H' fp' g
      cases t with
      | true =>
        rw [if_pos rfl]
        exact ⟨e', F', fp', g.st, (z.weak la).back g.s⟩
      | false =>
        rw [if_neg Bool.false_ne_true]
        exact ⟨e', F', fp', g.st, (z.weak lb).back g.s⟩
/-- an expression alone -/
theorem ss_ex {ra : Env → R D} {a : Expr} {pos : Pos} {q : Bool} {Γ Γ1 : Gm} {m : Nat} (ha : SE X T W kp q ra a Γ m Γ1) (hs : swapsWith a none pos.line X.env = pure false) : SS X T W kp Rt (fun e => (ra e).st fun _ e1 => .nx e1) (.Expr a pos) Γ ⟨some Γ1, none, none⟩ := by
  refine PS.mono (ps_expr ha hs) fun D σ H ⟨e, F, fp, s, z⟩ => ⟨e, F, fp, s, ?_⟩
  cases e1 : ra e with
  | bad => simp only [e1, R.st_bad] at z; exact z
  | exc y e' => simp only [e1, R.st_exc] at z; exact XWs.at_ z
  | ok d e' =>
    simp only [e1, R.st_ok] at z ⊢
    exact fun F' H' fp' v f g val => z σ F' H' fp' (go_app g fun _ z => z.elim).s
/-- return -/
theorem ss_ret {ra : Env → R D} {a : Expr} {pos : Pos} {q : Bool} {Γ Γ1 : Gm} {m : Nat} (ha : SE X T W kp q ra a Γ m Γ1) (h1 : leG Rt.Γr Γ1) (h2 : 1 ≤ Rt.rl ∧ Rt.rl ≤ m) : SS X T W kp Rt (fun e => (ra e).st fun x e1 => .rt x e1) (.Return (some a) pos) Γ ⟨none, none, none⟩ := by
  refine PS.mono (ps_ret ha) fun D σ H ⟨e, F, fp, s, z⟩ => ⟨e, F, fp, s, ?_⟩
  cases e1 : ra e with
  | bad => simp only [e1, R.st_bad] at z; exact z
  | exc y e' => simp only [e1, R.st_exc] at z; exact XWs.at_ z
  | ok d e' =>
    simp only [e1, R.st_ok] at z ⊢
    have h : Cont T.K q Rt.Γr Rt.rl σ F H fp e.s e'.s d D.rt := fun F' H' fp' v f g val => z σ F' H' fp' v f g.s (by unfold Val at val; rw [if_neg (by omega)] at val; exact val)
    exact Cont.weak h1 (.inr h2) h
theorem ss_retN {pos : Pos} {Γ : Gm} (h1 : leG Rt.Γr Γ) : SS X T W kp Rt (fun e => .rt .non e) (.Return none pos) Γ ⟨none, none, none⟩ := by
  refine PS.mono ps_retN fun D σ H ⟨e, F, fp, s, z⟩ => ?_
  obtain ⟨F2, fp2, g2, _⟩ := (GoS.refl (ro := Rt.ro) s).weak h1 (fun _ z => z.elim)
  exact z σ F2 H fp2 .non emp g2 (by simp only [RO]; exact ⟨trivial, trivial⟩)
/-! ### storing -/
theorem St.put {K : PySem.W.Frag} {Γ : Gm} {e : List D} {σ : L2.St} {F H : Hp} {fp : Nat → AS} (s : St K Γ e σ F H fp) {i m : Nat} {d : D} {v : V} {f : AS} (hi : i < Γ.length) (hm : 1 ≤ m) (r : RO K F H d m v f) (hd : Dis f (Own fp)) :
    St K (Γ.set i m) (e.set i d) (σ.set i (some v)) F H (putF fp i f) := by
  have hσ : i < σ.length := by rw [← s.lG]; exact hi
  have he : i < e.length := by rw [s.le]; exact hσ
  refine ⟨s.sub, by rw [List.length_set, List.length_set]; exact s.lG, by rw [List.length_set, List.length_set]; exact s.le, fun j hj => ?_, fun j l hjl a h1 h2 => ?_, fun j hj => ?_⟩
  · rw [lvOf_set hi] at hj ⊢
    by_cases hji : j = i
    · subst hji
      rw [if_pos rfl]
      exact ⟨d, v, List.getElem?_set_self he, List.getElem?_set_self hσ, by unfold putF; rw [if_pos rfl]; exact r⟩
    · rw [if_neg hji] at hj ⊢
      obtain ⟨d2, v2, e1, e2, r2⟩ := s.at_ j hj
      exact ⟨d2, v2, by rw [List.getElem?_set_ne (Ne.symm hji)]; exact e1, by rw [List.getElem?_set_ne (Ne.symm hji)]; exact e2, by unfold putF; rw [if_neg hji]; exact r2⟩
  · unfold putF at h1 h2
    split at h1 <;> split at h2
    · rename_i a1 a2; exact hjl (a1.trans a2.symm)
    · exact hd a h1 ⟨l, h2⟩
    · exact hd a h2 ⟨j, h1⟩
    · exact s.dis j l hjl a h1 h2
  · rw [lvOf_set hi] at hj
    unfold putF
    by_cases hji : j = i
    · rw [if_pos hji] at hj; omega
    · rw [if_neg hji] at hj ⊢; exact s.dead j hj
theorem GoS.put {K : PySem.W.Frag} {ro : List Nat} {Γ' : Gm} {σ σ1 : L2.St} {F H F1 H1 : Hp} {fp fp1 : Nat → AS} {e' : List D} {f : AS} {i m : Nat} {d : D} {v : V} (g : GoS K ro Γ' σ F H fp e' σ1 F1 H1 fp1 f) (hi : i < Γ'.length) (hm : 1 ≤ m) (hr : i ∉ ro) (r : RO K F1 H1 d m v f) :
    GoS K ro (Γ'.set i m) σ F H fp (e'.set i d) (σ1.set i (some v)) F1 H1 (putF fp1 i f) emp := by
  refine ⟨g.st.put hi hm r g.dis, fun _ z => z.elim, g.ch, fun a z => ?_, fun j hj => ?_, by rw [List.length_set]; exact g.len⟩
  · rcases z with z | z
    · rcases own_putF z with z | ⟨j, _, z⟩
      · exact g.grow a (.inr z)
      · exact g.grow a (.inl ⟨j, z⟩)
    · exact z.elim
  · rw [List.getElem?_set_ne (by rintro rfl; exact hr hj)]
    exact g.ro j hj
/-- x = e -/
theorem ss_asg {ra : Env → R D} {a tg : Expr} {pos : Pos} {q : Bool} {Γ Γ1 : Gm} {m i : Nat} (h : PS X (.Assign [tg] a pos) (tAsg (rdE T W kp q ra Γ m Γ1) (gName i))) (hm : 1 ≤ m) (hi : i < Γ1.length) (hr : i ∉ Rt.ro) :
    SS X T W kp Rt (fun e => (ra e).st fun x e1 => .nx (e1.set i x)) (.Assign [tg] a pos) Γ ⟨some (Γ1.set i m), none, none⟩ := by
  refine PS.mono h fun D σ H ⟨e, F, fp, s, z⟩ => ⟨e, F, fp, s, ?_⟩
  cases e1 : ra e with
  | bad => simp only [e1, R.st_bad] at z; exact z
  | exc y e' => simp only [e1, R.st_exc] at z; exact XWs.at_ z
  | ok d e' =>
    simp only [e1, R.st_ok] at z ⊢
    intro F' H' fp' v f g val
    unfold Val at val
    rw [if_neg (by omega)] at val
    exact z _ F' H' _ (g.s.put hi hm hr val)
/-- x op= e -/
theorem g_iadd : OpR X (inplaceOp .Add) (rG X.K (op2i .add)) := by
  have h := OpR.or (iop_add (X := X)) iop_add_str
  refine h.imp fun v u H Q ⟨x, y, d, h1, h2, h3, h4⟩ => ?_
  cases x <;> cases y <;> simp only [op2i, reduceCtorEq, Option.some.injEq] at h3
  · obtain rfl := rf_int h1; obtain rfl := rf_int h2; subst h3
    exact .inl ⟨_, _, rfl, rfl, h4 _ mk_int⟩
  · obtain rfl := rf_str h1; obtain rfl := rf_str h2
    unfold guardL at h3
    split at h3 <;> simp only [reduceCtorEq, Option.some.injEq] at h3
    rename_i hl
    subst h3
    refine .inr ⟨_, _, rfl, rfl, ?_, ?_⟩
    · rw [txt_len, txt_len]; exact lim_line hl
    · rw [txt_app]; exact h4 _ mk_str
theorem g_isub : OpR X (inplaceOp .Sub) (rG X.K (op2i .sub)) := by
  refine (iop_sub (X := X)).imp fun v u H Q ⟨x, y, d, h1, h2, h3, h4⟩ => ?_
  cases x <;> cases y <;> simp only [op2i, reduceCtorEq, Option.some.injEq] at h3
  obtain rfl := rf_int h1; obtain rfl := rf_int h2; subst h3
  exact ⟨_, _, rfl, rfl, h4 _ mk_int⟩
theorem g_iop {o : O2} (h : o = .add ∨ o = .sub) : OpR X (inplaceOp (opOf o)) (rG X.K (op2i o)) := by
  rcases h with rfl | rfl
  · exact g_iadd
  · exact g_isub
theorem flat_op2i {o : O2} {x y d : D} (h : op2i o x y = some d) : flat d = true := by
  cases o <;> cases x <;> cases y <;> first
    | (simp [op2i] at h; done)
    | (simp only [op2i, Option.some.injEq] at h; subst h; rfl)
    | (simp only [op2i, guardL] at h; split at h <;> simp only [reduceCtorEq, Option.some.injEq] at h; subst h; rfl)
theorem ss_aug {ra : Env → R D} {a tg : Expr} {pos : Pos} {q : Bool} {Γ Γ1 : Gm} {m i : Nat} {o : O2} (hK : X.K = T.K) (h : PS X (.AugAssign tg (opOf o) a pos) (tAug i (rdE T W kp q ra Γ m Γ1) (rG X.K (op2i o)))) (hq : q = true) (h0 : 1 ≤ lvOf Γ i) (h1 : 1 ≤ lvOf Γ1 i) (hr : i ∉ Rt.ro) :
    SS X T W kp Rt (fun e => match e.get i with | none => .bad | some x => (ra e).st fun y e1 => match op2i o x y with | some z => .nx (e1.set i z) | none => .bad) (.AugAssign tg (opOf o) a pos) Γ ⟨some (Γ1.set i 100), none, none⟩ := by
  refine PS.mono h fun D σ H ⟨e, F, fp, s, z⟩ => ?_
  obtain ⟨d0, v0, e0, e0', r0⟩ := s.at_ i h0
  have e1' : e.get i = some d0 := e0
  dsimp only at z
  rw [e1'] at z
  dsimp only at z
  refine ⟨v0, e0', e, F, fp, s, ?_⟩
  cases e1 : ra e with
  | bad => rw [e1] at z; exact z
  | exc y e' => rw [e1] at z; exact XWs.at_ z
  | ok d e' =>
    rw [e1] at z
    simp only [R.st_ok] at z ⊢
    cases e2 : op2i o d0 d with
    | none => rw [e2] at z; exact z.elim
    | some w =>
      rw [e2] at z
      intro F' H' fp' v f g val
      have hi := lvOf_lt h1
      have rf0 : RF T.K H' d0 v0 := RF.sub (g.ch.subH hq) _ _ (RO.rf s.sub d0 _ v0 _ r0)
      refine ⟨d0, d, w, hK ▸ rf0, hK ▸ val.rf g.st.sub, e2, fun u ru => ?_⟩
      have val2 : Val T.K 100 F' H' w u emp := Val.flat (flat_op2i e2) (hK ▸ ru)
      unfold Val at val2
      rw [if_neg (by decide)] at val2
      have g0 : GoS T.K Rt.ro Γ1 σ F H fp e'.s σ F' H' fp' emp := (go_app g fun a z => z.elim).s
      exact z _ F' H' _ (g0.put hi (by decide) hr val2)
end
end Z

/-! Z8: a list is changed at a place. -/
namespace Z
open PySem L2
def dnk : Nat → Nat → Nat
  | 0, n => n
  | k + 1, n => dnk k (dn n)
/-- from (d, v) the places ps lead to (d', v') -/
def AtP (H : Hp) : List D → D → V → D → V → Prop
  | [], d, v, d', v' => d' = d ∧ v' = v
  | i :: p, d, v, d', v' => ∃ a xs vs j x w k, i = .int k ∧ (d = .lst xs ∧ H a = some (.lst vs) ∨ d = .tup xs ∧ H a = some (.tup vs)) ∧ v = .ref a ∧ ixn xs.length k = some j ∧ vs.length = xs.length ∧ xs[j]? = some x ∧ vs[j]? = some w ∧ AtP H p x w d' v'
theorem AtP.sub {H H' : Hp} (s : Sub H H') : ∀ {ps : List D} {d : D} {v : V} {d' : D} {v' : V}, AtP H ps d v d' v' → AtP H' ps d v d' v'
  | [], _, _, _, _, h => h
  | i :: p, d, v, d', v', h => by
    obtain ⟨a, xs, vs, j, x, w, k, e0, e1, e2, e3, e4, e5, e6, r⟩ := h
    refine ⟨a, xs, vs, j, x, w, k, e0, ?_, e2, e3, e4, e5, e6, AtP.sub s r⟩
    rcases e1 with ⟨h1, h2⟩ | ⟨h1, h2⟩
    · exact .inl ⟨h1, s _ _ h2⟩
    · exact .inr ⟨h1, s _ _ h2⟩
section
variable {K : PySem.W.Frag} {F H : Hp}
/-- one part of a list's parts, changed -/
theorem ROL.upd : ∀ {xs : List D} {n : Nat} {vs : List V} {f : AS} {j : Nat} {x : D} {w : V}, ROL K F H xs n vs f → xs[j]? = some x → vs[j]? = some w →
    ∃ g h, (∀ a, f a ↔ g a ∨ h a) ∧ Dis g h ∧ RO K F H x n w g ∧ ∀ F2 H2 x2 w2 g2, Kept h F H F2 H2 → RO K F2 H2 x2 n w2 g2 → Dis g2 h → ROL K F2 H2 (xs.set j x2) n (vs.set j w2) (fun a => g2 a ∨ h a)
  | [], _, _, _, _, _, _, _, e, _ => by simp at e
  | y :: xs, n, vs, f, j, x, w, r, e, e' => by
    simp only [ROL] at r
    obtain ⟨u, ws, g1, g2, rfl, q, r, d, rfl⟩ := r
    cases j with
    | zero =>
      simp only [List.getElem?_cons_zero, Option.some.injEq] at e e'
      subst e e'
      refine ⟨g1, g2, fun a => Iff.rfl, d, q, fun F2 H2 x2 w2 g3 k r2 d2 => ?_⟩
      simp only [List.set_cons_zero, ROL]
      exact ⟨w2, ws, g3, g2, rfl, r2, ROL.kept xs n ws g2 k r, d2, rfl⟩
    | succ j =>
      simp only [List.getElem?_cons_succ] at e e'
      obtain ⟨g, h, hs, hd, r0, hu⟩ := ROL.upd r e e'
      refine ⟨g, fun a => g1 a ∨ h a, fun a => ?_, fun a z1 z2 => ?_, r0, fun F2 H2 x2 w2 g3 k r2 d2 => ?_⟩
      · have := hs a; grind
      · rcases z2 with z2 | z2
        · exact d a z2 ((hs a).mpr (.inl z1))
        · exact hd a z1 z2
      · simp only [List.set_cons_succ, ROL]
        refine ⟨u, ws.set j w2, g1, fun a => g3 a ∨ h a, rfl, RO.kept y n u g1 (k.mono fun a z => .inl z) q, hu F2 H2 x2 w2 g3 (k.mono fun a z => .inr z) r2 (fun a z1 z2 => d2 a z1 (.inr z2)), fun a z1 z2 => ?_, ?_⟩
        · rcases z2 with z2 | z2
          · exact d2 a z2 (.inl z1)
          · exact d a z1 ((hs a).mpr (.inr z2))
        · funext a
          exact propext ⟨fun z => by rcases z with z | z | z <;> grind, fun z => by rcases z with z | z | z <;> grind⟩
/-- the value at a place, changed -/
theorem RO.upd : ∀ {ps : List D} {d : D} {n : Nat} {v : V} {f : AS} {d1 : D} {v1 : V}, RO K F H d n v f → AtP H ps d v d1 v1 → ps.length + 2 ≤ n ∧ ps.length ≤ 50 →
    ∃ g h, (∀ a, f a ↔ g a ∨ h a) ∧ Dis g h ∧ RO K F H d1 (dnk ps.length n) v1 g ∧
      ∀ F2 H2 d2 g2, Kept h F H F2 H2 → RO K F2 H2 d2 (dnk ps.length n) v1 g2 → Dis g2 h → ∀ fn : D → Option D, fn d1 = some d2 → ∃ dn', updAt fn ps d = some dn' ∧ RO K F2 H2 dn' n v (fun a => g2 a ∨ h a)
  | [], d, n, v, f, d1, v1, r, hp, _ => by
    obtain ⟨rfl, rfl⟩ := hp
    refine ⟨f, emp, fun a => by simp [emp], fun _ _ z => z, r, fun F2 H2 d2 g2 _ r2 _ fn hf => ⟨d2, hf, ?_⟩⟩
    have : (fun a => g2 a ∨ emp a) = g2 := by funext a; simp [emp]
    rw [this]; exact r2
  | i :: p, d, n, v, f, d1, v1, r, hp, hn => by
    obtain ⟨a, xs, vs, j, x, w, k, rfl, e1, rfl, e3, e4, e5, e6, hp⟩ := hp
    have hn1 : ¬ n ≤ 1 := by simp at hn; omega
    have hdn : p.length + 2 ≤ dn n ∧ p.length ≤ 50 := by
      simp only [List.length_cons] at hn
      unfold dn
      rw [if_neg hn1]
      split <;> omega
    rcases e1 with ⟨rfl, eH⟩ | ⟨rfl, eH⟩
    · unfold RO at r
      rw [if_neg hn1] at r
      obtain ⟨a', vs', g0, ea, q, z, na, r, rfl⟩ := r
      cases ea
      rw [eH] at q; cases q
      obtain ⟨g, h, hs, hd, r0, hu⟩ := ROL.upd r e5 e6
      obtain ⟨g', h', hs', hd', r1, hu'⟩ := RO.upd r0 hp hdn
      refine ⟨g', fun b => b = a ∨ h b ∨ h' b, fun b => ?_, fun b z1 z2 => ?_, r1, fun F2 H2 d2 g2 kk r2 d2' fn hf => ?_⟩
      · have := hs b; have := hs' b; grind
      · have := hs b; have := hs' b; have := hd b; have := hd' b
        rcases z2 with rfl | z2 | z2
        · exact na ((hs b).mpr (.inl ((hs' b).mpr (.inl z1))))
        · exact hd b ((hs' b).mpr (.inl z1)) z2
        · exact hd' b z1 z2
      · obtain ⟨x2, ex, rx⟩ := hu' F2 H2 d2 g2 (kk.mono fun b z => .inr (.inr z)) r2 (fun b z1 z2 => d2' b z1 (.inr (.inr z2))) fn hf
        have rl := hu F2 H2 x2 w (fun b => g2 b ∨ h' b) (kk.mono fun b z => .inr (.inl z)) rx (fun b z1 z2 => by
          rcases z1 with z1 | z1
          · exact d2' b z1 (.inr (.inl z2))
          · exact hd b ((hs' b).mpr (.inr z1)) z2)
        have ew : vs.set j w = vs := by
          refine List.ext_getElem? fun m => ?_
          rw [List.getElem?_set]
          split
          · rename_i hm; subst hm; split
            · exact e6.symm
            · rename_i hl; rw [List.getElem?_eq_none (by omega)]
          · rfl
        rw [ew] at rl
        refine ⟨.lst (xs.set j x2), ?_, ?_⟩
        · simp only [updAt, e3, e5, ex, Option.bind_some, Option.map_some]
        · unfold RO
          rw [if_neg hn1]
          refine ⟨a, vs, _, rfl, ?_, kk.out a (.inl rfl) z, ?_, rl, ?_⟩
          · rw [kk.at_ a (.inl rfl), eH]
          · rintro ((z1 | z1) | z1)
            · exact d2' a z1 (.inl rfl)
            · exact na ((hs a).mpr (.inl ((hs' a).mpr (.inr z1))))
            · exact na ((hs a).mpr (.inr z1))
          · funext b; exact propext ⟨fun z => by grind, fun z => by grind⟩
    · unfold RO at r
      rw [if_neg hn1] at r
      obtain ⟨a', vs', g0, ea, q, z, na, r, rfl⟩ := r
      cases ea
      rw [eH] at q; cases q
      obtain ⟨g, h, hs, hd, r0, hu⟩ := ROL.upd r e5 e6
      obtain ⟨g', h', hs', hd', r1, hu'⟩ := RO.upd r0 hp hdn
      refine ⟨g', fun b => b = a ∨ h b ∨ h' b, fun b => ?_, fun b z1 z2 => ?_, r1, fun F2 H2 d2 g2 kk r2 d2' fn hf => ?_⟩
      · have := hs b; have := hs' b; grind
      · have := hs b; have := hs' b; have := hd b; have := hd' b
        rcases z2 with rfl | z2 | z2
        · exact na ((hs b).mpr (.inl ((hs' b).mpr (.inl z1))))
        · exact hd b ((hs' b).mpr (.inl z1)) z2
        · exact hd' b z1 z2
      · obtain ⟨x2, ex, rx⟩ := hu' F2 H2 d2 g2 (kk.mono fun b z => .inr (.inr z)) r2 (fun b z1 z2 => d2' b z1 (.inr (.inr z2))) fn hf
        have rl := hu F2 H2 x2 w (fun b => g2 b ∨ h' b) (kk.mono fun b z => .inr (.inl z)) rx (fun b z1 z2 => by
          rcases z1 with z1 | z1
          · exact d2' b z1 (.inr (.inl z2))
          · exact hd b ((hs' b).mpr (.inr z1)) z2)
        have ew : vs.set j w = vs := by
          refine List.ext_getElem? fun m => ?_
          rw [List.getElem?_set]
          split
          · rename_i hm; subst hm; split
            · exact e6.symm
            · rename_i hl; rw [List.getElem?_eq_none (by omega)]
          · rfl
        rw [ew] at rl
        refine ⟨.tup (xs.set j x2), ?_, ?_⟩
        · simp only [updAt, e3, e5, ex, Option.bind_some, Option.map_some]
        · unfold RO
          rw [if_neg hn1]
          refine ⟨a, vs, _, rfl, ?_, kk.out a (.inl rfl) z, ?_, rl, ?_⟩
          · rw [kk.at_ a (.inl rfl), eH]
          · rintro ((z1 | z1) | z1)
            · exact d2' a z1 (.inl rfl)
            · exact na ((hs a).mpr (.inl ((hs' a).mpr (.inr z1))))
            · exact na ((hs a).mpr (.inr z1))
          · funext b; exact propext ⟨fun z => by grind, fun z => by grind⟩
/-- a place that the evaluator finds -/
theorem AtP.of : ∀ {ps : List D} {d : D} {n : Nat} {v : V} {f : AS} {fn : D → Option D} {dn' : D}, RO K F H d n v f → ps.length + 2 ≤ n ∧ ps.length ≤ 50 → updAt fn ps d = some dn' → ∃ d1 v1 d2, AtP H ps d v d1 v1 ∧ fn d1 = some d2
  | [], d, n, v, f, fn, dn', _, _, h => ⟨d, v, dn', ⟨rfl, rfl⟩, h⟩
  | i :: p, d, n, v, f, fn, dn', r, hn, h => by
    have hn1 : ¬ n ≤ 1 := by simp at hn; omega
    have hdn : p.length + 2 ≤ dn n ∧ p.length ≤ 50 := by
      simp only [List.length_cons] at hn
      unfold dn
      rw [if_neg hn1]
      split <;> omega
    cases i <;> try (simp [updAt] at h; done)
    rename_i k
    cases d <;> try (simp [updAt] at h; done)
    · rename_i xs
      simp only [updAt, Option.bind_eq_some_iff, Option.map_eq_some_iff] at h
      obtain ⟨j, e3, x, e5, y, e7, rfl⟩ := h
      unfold RO at r
      rw [if_neg hn1] at r
      obtain ⟨a, vs, g0, rfl, q, z, na, r, rfl⟩ := r
      have hl := rol_len r
      obtain ⟨w, g1, e6, r1, _⟩ := rol_get r e5
      obtain ⟨d1, v1, d2, hp, hf⟩ := AtP.of r1 hdn e7
      exact ⟨d1, v1, d2, ⟨a, xs, vs, j, x, w, k, rfl, .inr ⟨rfl, q⟩, rfl, e3, hl, e5, e6, hp⟩, hf⟩
    · rename_i xs
      simp only [updAt, Option.bind_eq_some_iff, Option.map_eq_some_iff] at h
      obtain ⟨j, e3, x, e5, y, e7, rfl⟩ := h
      unfold RO at r
      rw [if_neg hn1] at r
      obtain ⟨a, vs, g0, rfl, q, z, na, r, rfl⟩ := r
      have hl := rol_len r
      obtain ⟨w, g1, e6, r1, _⟩ := rol_get r e5
      obtain ⟨d1, v1, d2, hp, hf⟩ := AtP.of r1 hdn e7
      exact ⟨d1, v1, d2, ⟨a, xs, vs, j, x, w, k, rfl, .inl ⟨rfl, q⟩, rfl, e3, hl, e5, e6, hp⟩, hf⟩
theorem AtP.fun_ {H : Hp} : ∀ {ps : List D} {d : D} {v : V} {d1 d2 : D} {v1 v2 : V}, AtP H ps d v d1 v1 → AtP H ps d v d2 v2 → d1 = d2 ∧ v1 = v2
  | [], _, _, _, _, _, _, h, h' => ⟨h.1.trans h'.1.symm, h.2.trans h'.2.symm⟩
  | i :: p, d, v, d1, d2, v1, v2, h, h' => by
    obtain ⟨a, xs, vs, j, x, w, k, rfl, e1, rfl, e3, e4, e5, e6, r⟩ := h
    obtain ⟨a', xs', vs', j', x', w', k', e0', e1', e2', e3', e4', e5', e6', r'⟩ := h'
    cases e2'; cases e0'
    have : xs = xs' ∧ vs = vs' := by
      rcases e1 with ⟨rfl, q⟩ | ⟨rfl, q⟩ <;> rcases e1' with ⟨u, q'⟩ | ⟨u, q'⟩ <;> cases u <;> rw [q] at q' <;> cases q' <;> exact ⟨rfl, rfl⟩
    obtain ⟨rfl, rfl⟩ := this
    rw [e3] at e3'; cases e3'
    rw [e5] at e5'; cases e5'
    rw [e6] at e6'; cases e6'
    exact AtP.fun_ r r'
theorem AtP.app {H : Hp} : ∀ {ps qs : List D} {d : D} {v : V} {d2 : D} {v2 : V}, AtP H (ps ++ qs) d v d2 v2 → ∃ d1 v1, AtP H ps d v d1 v1 ∧ AtP H qs d1 v1 d2 v2
  | [], _, d, v, _, _, h => ⟨d, v, ⟨rfl, rfl⟩, h⟩
  | i :: p, qs, d, v, d2, v2, h => by
    obtain ⟨a, xs, vs, j, x, w, k, e0, e1, e2, e3, e4, e5, e6, r⟩ := h
    obtain ⟨d1, v1, r1, r2⟩ := AtP.app r
    exact ⟨d1, v1, ⟨a, xs, vs, j, x, w, k, e0, e1, e2, e3, e4, e5, e6, r1⟩, r2⟩
theorem AtP.get : ∀ {ps : List D} {d : D} {n : Nat} {v : V} {f : AS} {d1 : D}, RO K F H d n v f → ps.length + 1 ≤ n ∧ ps.length ≤ 50 → getP ps d = some d1 → ∃ v1, AtP H ps d v d1 v1
  | [], d, n, v, f, d1, _, _, h => by
    simp only [getP, Option.some.injEq] at h
    exact ⟨v, h.symm, rfl⟩
  | i :: p, d, n, v, f, d1, r, hn, h => by
    have hn1 : ¬ n ≤ 1 := by simp at hn; omega
    have hdn : p.length + 1 ≤ dn n ∧ p.length ≤ 50 := by
      simp only [List.length_cons] at hn
      unfold dn
      rw [if_neg hn1]
      split <;> omega
    cases i <;> try (simp [getP] at h; done)
    rename_i k
    cases d <;> try (simp [getP] at h; done)
    · rename_i xs
      simp only [getP, Option.bind_eq_some_iff] at h
      obtain ⟨j, e3, x, e5, e7⟩ := h
      unfold RO at r
      rw [if_neg hn1] at r
      obtain ⟨a, vs, g0, rfl, q, z, na, r, rfl⟩ := r
      have hl := rol_len r
      obtain ⟨w, g1, e6, r1, _⟩ := rol_get r e5
      obtain ⟨v1, hp⟩ := AtP.get r1 hdn e7
      exact ⟨v1, a, xs, vs, j, x, w, k, rfl, .inr ⟨rfl, q⟩, rfl, e3, hl, e5, e6, hp⟩
    · rename_i xs
      simp only [getP, Option.bind_eq_some_iff] at h
      obtain ⟨j, e3, x, e5, e7⟩ := h
      unfold RO at r
      rw [if_neg hn1] at r
      obtain ⟨a, vs, g0, rfl, q, z, na, r, rfl⟩ := r
      have hl := rol_len r
      obtain ⟨w, g1, e6, r1, _⟩ := rol_get r e5
      obtain ⟨v1, hp⟩ := AtP.get r1 hdn e7
      exact ⟨v1, a, xs, vs, j, x, w, k, rfl, .inl ⟨rfl, q⟩, rfl, e3, hl, e5, e6, hp⟩
theorem getP_app : ∀ {ps qs : List D} {d d2 : D}, getP (ps ++ qs) d = some d2 → ∃ d1, getP ps d = some d1 ∧ getP qs d1 = some d2
  | [], _, d, _, h => ⟨d, rfl, h⟩
  | i :: p, qs, d, d2, h => by
    cases i <;> try (simp [getP] at h; done)
    cases d <;> try (simp [getP] at h; done)
    · simp only [List.cons_append, getP, Option.bind_eq_some_iff] at h
      obtain ⟨j, e3, x, e5, e7⟩ := h
      obtain ⟨d1, r1, r2⟩ := getP_app e7
      exact ⟨d1, by simp only [getP, e3, e5, Option.bind_some]; exact r1, r2⟩
    · simp only [List.cons_append, getP, Option.bind_eq_some_iff] at h
      obtain ⟨j, e3, x, e5, e7⟩ := h
      obtain ⟨d1, r1, r2⟩ := getP_app e7
      exact ⟨d1, by simp only [getP, e3, e5, Option.bind_some]; exact r1, r2⟩
theorem getP_upd : ∀ {ps : List D} {d dn' : D} {fn : D → Option D}, updAt fn ps d = some dn' → ∃ d1 d2, getP ps d = some d1 ∧ fn d1 = some d2
  | [], d, dn', fn, h => ⟨d, dn', rfl, h⟩
  | i :: p, d, dn', fn, h => by
    cases i <;> try (simp [updAt] at h; done)
    cases d <;> try (simp [updAt] at h; done)
    · simp only [updAt, Option.bind_eq_some_iff, Option.map_eq_some_iff] at h
      obtain ⟨j, e3, x, e5, y, e7, _⟩ := h
      obtain ⟨d1, d2, r1, r2⟩ := getP_upd e7
      exact ⟨d1, d2, by simp only [getP, e3, e5, Option.bind_some]; exact r1, r2⟩
    · simp only [updAt, Option.bind_eq_some_iff, Option.map_eq_some_iff] at h
      obtain ⟨j, e3, x, e5, y, e7, _⟩ := h
      obtain ⟨d1, d2, r1, r2⟩ := getP_upd e7
      exact ⟨d1, d2, by simp only [getP, e3, e5, Option.bind_some]; exact r1, r2⟩
end
section
variable {X : Cx} {T : Tb} {W : WX} {kp : List Nat} {Rt : RT}
def rdP (T : Tb) (W : WX) (kp : List Nat) (r : Env → R (Nat × List D)) (Γ : Gm) : TE := fun σ H Q => ∃ e F fp, St T.K Γ e.s σ F H fp ∧ match r e with
  | .ok ps e' => ∃ d0 d1, e.s[ps.1]? = some d0 ∧ getP ps.2 d0 = some d1 ∧ ps.2.length + 1 ≤ lvOf Γ ps.1 ∧ ps.2.length ≤ 50 ∧
      ∀ F' H' fp' v0 v1, Go T.K true Γ σ F H fp e.s e'.s F' H' fp' emp → σ[ps.1]? = some (some v0) → AtP H' ps.2 d0 v0 d1 v1 → Q v1 H'
  | .exc x e' => XW T W kp σ F H fp x e'.s
  | .bad => False
/-- THE JUDGEMENT of a place -/
def SP (X : Cx) (T : Tb) (W : WX) (kp : List Nat) (r : Env → R (Nat × List D)) (x : Expr) (Γ : Gm) : Prop := PE X x (rdP T W kp r Γ)
theorem sp_var {x : Expr} {Γ : Gm} {i : Nat} (h : PE X x (tVar i)) : SP X T W kp (fun e => .ok (i, []) e) x Γ := by
  refine PE.mono h fun σ H Q z => ?_
  obtain ⟨e, F, fp, s, d0, d1, e0, e1, h1, _, k⟩ := z
  simp only [getP, Option.some.injEq] at e1
  subst e1
  obtain ⟨d, v, ea, eb, r⟩ := s.at_ i (by simpa using h1)
  exact ⟨v, eb, k F H fp v v (Go.refl s) eb ⟨rfl, rfl⟩⟩
theorem sp_ix {rb : Env → R (Nat × List D)} {ri : Env → R D} {b i : Expr} {pos : Pos} {Γ : Gm} {n : Nat} (hK : X.K = T.K) (hb : SP X T W kp rb b Γ) (hi : SE X T W kp true ri i Γ n Γ) (hp : PlainIx i) :
    SP X T W kp (fun e => (rb e).bind fun ps e1 => (ri e1).nox.bind fun j e2 => .ok (ps.1, ps.2 ++ [j]) { e2 with s := e1.s }) (.Subscript b i pos) Γ := by
  refine PE.mono (pe_ix ix_seq hb hi hp) fun σ H Q z => ?_
  obtain ⟨e, F, fp, s, z⟩ := z
  refine ⟨e, F, fp, s, ?_⟩
  dsimp only at z
  cases e1 : rb e with
  | bad => rw [e1] at z; exact z
  | exc y e' => rw [e1] at z; exact z
  | ok ps e' =>
    rw [e1] at z
    simp only [R.bind_ok] at z
    cases e2 : ri e' with
    | bad => rw [e2] at z; exact z.elim
    | exc y e'' => rw [e2] at z; exact z.elim
    | ok j e'' =>
      rw [e2] at z
      simp only [R.nox_ok, R.bind_ok] at z
      obtain ⟨d0, d1, h0, hg, hl, h50, k⟩ := z
      obtain ⟨db, hgb, hgj⟩ := getP_app hg
      simp only [List.length_append, List.length_cons, List.length_nil] at hl h50
      refine ⟨d0, db, h0, hgb, by omega, by omega, fun F1 H1 fp1 v0 vb g1 hv0 hp1 => ?_⟩
      refine ⟨e', F1, fp1, g1.st, ?_⟩
      rw [e2]
      intro F2 H2 fp2 u f2 g2 val
      have g12 := Go.then_ g1 g2
      have es : e''.s = e.s := g12.same rfl
      have hx : 1 ≤ lvOf Γ ps.1 := by omega
      obtain ⟨d0', v0', ea, eb, r0⟩ := g12.st.at_ ps.1 hx
      rw [es, h0] at ea; cases ea
      rw [hv0] at eb; cases eb
      obtain ⟨v1, hp2⟩ := AtP.get r0 (ps := ps.2 ++ [j]) (by simp only [List.length_append, List.length_cons, List.length_nil]; omega) hg
      obtain ⟨db', vb', hpa, hpb⟩ := hp2.app
      have := AtP.fun_ (hp1.sub (g2.ch.subH rfl)) hpa
      obtain ⟨rfl, rfl⟩ := this
      have es2 : e''.s = e'.s := g2.same rfl
      rw [es2] at g12
      have hq := k F2 H2 fp2 v0 v1 (go_app g12 fun _ z => z.elim) hv0 hp2
      obtain ⟨a, xs, vs, jj, x, w, kk, rfl, q1, rfl, q3, q4, q5, q6, rfl, rfl⟩ := hpb
      obtain rfl := rf_int (val.rf g2.st.sub)
      have hat : atI vs kk = some v1 := by unfold atI; rw [q4, ixn_eq, q3]; exact q6
      rcases q1 with ⟨_, q1⟩ | ⟨_, q1⟩
      · exact .inl ⟨a, vs, kk, _, rfl, rfl, .inl (.inl q1), hat, hq⟩
      · exact .inr (.inl ⟨a, vs, kk, _, rfl, rfl, .inl (.inl q1), hat, hq⟩)
end
section
variable {K : PySem.W.Frag} {Γ : Gm} {e : List D} {σ : L2.St} {F H : Hp} {fp : Nat → AS}
/-- a place of the local x is to be changed -/
theorem St.change (s : St K Γ e σ F H fp) {x mN : Nat} {ps : List D} {d0 d1 : D} {v0 v1 : V} (hx : e[x]? = some d0) (hv : σ[x]? = some (some v0)) (hp : AtP H ps d0 v0 d1 v1) (h1 : ps.length + 2 ≤ mN) (h2 : mN ≤ lvOf Γ x) (h3 : ps.length ≤ 50) :
    ∃ F1 fp1 g h, St K (Γ.set x mN) e σ F1 H fp1 ∧ Ch (Own fp) emp F H F1 H ∧ (∀ a, Own fp1 a → Own fp a) ∧ (∀ a, fp1 x a ↔ g a ∨ h a) ∧ Dis g h ∧ RO K F1 H d1 (dnk ps.length mN) v1 g ∧
      ∀ F2 H2 d2 g2 (fn : D → Option D), Sub F1 F2 → Sub F2 H2 → (∀ a, Own fp1 a → ¬ g a → H2 a = H a ∧ F2 a = none ∧ ¬ g2 a) → RO K F2 H2 d2 (dnk ps.length mN) v1 g2 → fn d1 = some d2 →
        ∃ dn', updAt fn ps d0 = some dn' ∧ St K (Γ.set x mN) (e.set x dn') σ F2 H2 (putF fp1 x fun a => g2 a ∨ h a) := by
  obtain ⟨F1, fp1, s1, c1, o1, _, _⟩ := s.low (i := x) (m := mN) (by omega) h2
  have hi := lvOf_lt (Γ := Γ) (i := x) (by omega)
  obtain ⟨d, v, e1, e2, r⟩ := s1.at_ x (by rw [lvOf_set hi, if_pos rfl]; omega)
  rw [hx] at e1; cases e1
  rw [hv] at e2; cases e2
  rw [lvOf_set hi, if_pos rfl] at r
  obtain ⟨g, h, hs, hd, r1, hu⟩ := RO.upd r hp ⟨h1, h3⟩
  refine ⟨F1, fp1, g, h, s1, c1, o1, hs, hd, r1, fun F2 H2 d2 g2 fn sF sH kk r2 hf => ?_⟩
  have gx : ∀ a, h a → Own fp1 a ∧ ¬ g a := fun a z => ⟨⟨x, (hs a).mpr (.inr z)⟩, fun y => hd a y z⟩
  obtain ⟨dn', eu, ru⟩ := hu F2 H2 d2 g2 ⟨sF, fun a z => (kk a (gx a z).1 (gx a z).2).1, fun a z _ => (kk a (gx a z).1 (gx a z).2).2.1⟩ r2 (fun a z1 z2 => (kk a (gx a z2).1 (gx a z2).2).2.2 z1) fn hf
  refine ⟨dn', eu, ?_⟩
  have hil : x < e.length := by rw [s.le, ← s.lG]; exact hi
  refine ⟨sH, s1.lG, by rw [List.length_set]; exact s1.le, fun j hj => ?_, fun j l hjl a z1 z2 => ?_, fun j hj => ?_⟩
  · by_cases hjx : j = x
    · subst hjx
      rw [lvOf_set hi, if_pos rfl]
      exact ⟨dn', v0, List.getElem?_set_self hil, hv, by unfold putF; rw [if_pos rfl]; exact ru⟩
    · obtain ⟨d3, v3, e3, e4, r3⟩ := s1.at_ j hj
      refine ⟨d3, v3, by rw [List.getElem?_set_ne (Ne.symm hjx)]; exact e3, e4, ?_⟩
      unfold putF; rw [if_neg hjx]
      have ng : ∀ a, fp1 j a → Own fp1 a ∧ ¬ g a := fun a z => ⟨⟨j, z⟩, fun y => s1.dis j x hjx a z ((hs a).mpr (.inl y))⟩
      exact RO.kept d3 _ v3 _ ⟨sF, fun a z => (kk a (ng a z).1 (ng a z).2).1, fun a z _ => (kk a (ng a z).1 (ng a z).2).2.1⟩ r3
  · have out : ∀ j, j ≠ x → ∀ a, fp1 j a → ¬ (g2 a ∨ h a) := fun j hj a z y => by
      have nx : ¬ fp1 x a := fun w => s1.dis j x hj a z w
      rcases y with y | y
      · exact (kk a ⟨j, z⟩ fun w => nx ((hs a).mpr (.inl w))).2.2 y
      · exact nx ((hs a).mpr (.inr y))
    unfold putF at z1 z2
    split at z1 <;> split at z2
    · rename_i a1 a2; exact hjl (a1.trans a2.symm)
    · rename_i a1 a2; exact out l a2 a z2 z1
    · rename_i a1 a2; exact out j a1 a z1 z2
    · exact s1.dis j l hjl a z1 z2
  · unfold putF
    by_cases hjx : j = x
    · subst hjx; rw [lvOf_set hi, if_pos rfl] at hj; omega
    · rw [if_neg hjx]; exact s1.dead j hj
end
theorem ROL.app {K : PySem.W.Frag} {F H : Hp} : ∀ {xs ys : List D} {n : Nat} {vs us : List V} {f g : AS}, ROL K F H xs n vs f → ROL K F H ys n us g → Dis f g → ROL K F H (xs ++ ys) n (vs ++ us) (fun a => f a ∨ g a)
  | [], ys, n, vs, us, f, g, h, h', _ => by
    simp only [ROL] at h
    obtain ⟨rfl, rfl⟩ := h
    have : (fun a => emp a ∨ g a) = g := by funext a; simp [emp]
    rw [this]; exact h'
  | x :: xs, ys, n, vs, us, f, g, h, h', d => by
    simp only [ROL] at h
    obtain ⟨w, ws, g1, g2, rfl, q, r, dd, rfl⟩ := h
    simp only [List.cons_append, ROL]
    refine ⟨w, ws ++ us, g1, fun a => g2 a ∨ g a, rfl, q, ROL.app r h' (fun a z1 z2 => d a (.inr z1) z2), fun a z1 z2 => ?_, by funext a; exact propext ⟨fun z => by grind, fun z => by grind⟩⟩
    rcases z2 with z2 | z2
    · exact dd a z1 z2
    · exact d a (.inl z1) z2
/-- the static conditions of a change: n the number of places, m the level of what is put in, mN the local's new level -/
structure Chg (lx n m mN : Nat) : Prop where
  h1 : n + 2 ≤ mN
  h2 : mN ≤ lx
  h3 : n ≤ 50
  h4 : 1 ≤ dn (dnk n mN) ∧ dn (dnk n mN) ≤ m
theorem dnk_two : ∀ {n m : Nat}, n + 2 ≤ m → n ≤ 50 → 2 ≤ dnk n m
  | 0, m, h, _ => by simpa [dnk] using h
  | n + 1, m, h, h50 => by
    unfold dnk
    refine dnk_two ?_ (by omega)
    unfold dn
    split
    · omega
    · split <;> omega
section
variable {X : Cx} {T : Tb} {W : WX} {kp : List Nat} {Rt : RT}
theorem rd_place {rp : Env → R (Nat × List D)} {ra : Env → R D} {Γ Γ1 : Gm} {m x n : Nat} {c : D → D → Option D} {O : Out} {DD : Ends} {σ : L2.St} {H : Hp} {rr : V → V → Hp → Prop} (hst : ∀ e ps e', rp e = .ok ps e' → ps.1 = x ∧ ps.2.length = n ∧ e'.s = e.s) (hn : n + 2 ≤ lvOf Γ x) (h50 : n ≤ 50)
    (z : rdS T W kp Rt (fun e => (rp e).st fun ps e1 => match (e1.get ps.1).bind (getP ps.2) with | some (.lst _) => (ra e1).st fun v e2 => chg ps.1 ps.2 (c v) e2 | _ => .bad) Γ O DD σ H)
    (rule : ∀ (e2 : Env) F F2 H2 fp fp2 d0 d1 v0 v1 ps dv u f dn', Go T.K true Γ1 σ F H fp e2.s e2.s F2 H2 fp2 f → e2.s[x]? = some d0 → σ[x]? = some (some v0) → ps.length = n → AtP H2 ps d0 v0 d1 v1 → Val T.K m F2 H2 dv u f → updAt (c dv) ps d0 = some dn' →
      EndO T.K Rt.ro O.nx σ F H fp (e2.s.set x dn') DD.nx → rr v1 u H2) :
    rdP T W kp rp Γ σ H fun o H1 => tyV T.K "list" o H1 ∧ rdE T W kp true ra Γ m Γ1 σ H1 fun u H2 => rr o u H2 := by
  obtain ⟨e, F, fp, s, z⟩ := z
  refine ⟨e, F, fp, s, ?_⟩
  dsimp only at z
  cases e1 : rp e with
  | bad => rw [e1] at z; exact z
  | exc y e' => rw [e1] at z; exact XWs.at_ z
  | ok ps e' =>
    rw [e1] at z
    obtain ⟨hx, hl, hse⟩ := hst e ps e' e1
    obtain ⟨px, ps⟩ := ps
    dsimp only at hx hl
    subst hx hl
    simp only [R.st_ok] at z
    cases e3 : (e'.get px).bind (getP ps) with
    | none => rw [e3] at z; exact z.elim
    | some d1 =>
      rw [e3] at z
      cases d1 <;> try exact z.elim
      rename_i xs1
      dsimp only at z ⊢
      obtain ⟨d0, e4, e5⟩ := Option.bind_eq_some_iff.mp e3
      have e4' : e'.s[px]? = some d0 := e4
      refine ⟨d0, .lst xs1, by rw [← hse]; exact e4', e5, by omega, h50, fun F1 H1 fp1 v0 v1 g1 hv0 hp1 => ?_⟩
      refine ⟨?_, e', F1, fp1, g1.st, ?_⟩
      · obtain ⟨dd, vv, ea, eb, r0⟩ := g1.st.at_ px (by omega)
        rw [e4'] at ea; cases ea
        rw [hv0] at eb; cases eb
        obtain ⟨_, _, _, _, r1, _⟩ := RO.upd r0 hp1 ⟨hn, h50⟩
        have r2 := RO.rf g1.st.sub _ _ _ _ r1
        simp only [RF] at r2
        obtain ⟨a, vs, rfl, q, _⟩ := r2
        exact .inl ⟨rfl, vs, .inl q⟩
      cases e2 : ra e' with
      | bad => rw [e2] at z; exact z.elim
      | exc y e'' => rw [e2] at z; exact XW.back (XWs.at_ z) g1
      | ok dv e'' =>
        rw [e2] at z
        simp only [R.st_ok, chg] at z
        intro F2 H2 fp2 u f g2 val
        have g12 := Go.then_ g1 g2
        have es : e''.s = e.s := g12.same rfl
        have es' : e''.s = e'.s := es.trans hse.symm
        have e6 : e''.get px = some d0 := by show e''.s[px]? = some d0; rw [es']; exact e4'
        rw [e6] at z
        simp only [Option.bind_some] at z
        cases e7 : updAt (c dv) ps d0 with
        | none => rw [e7] at z; exact z.elim
        | some dn' =>
          rw [e7] at z
          rw [← es] at g12
          exact rule e'' F F2 H2 fp fp2 d0 (.lst xs1) v0 v1 ps dv u f dn' g12 e6 hv0 rfl (hp1.sub (g2.ch.subH rfl)) val e7 z
/-- the leaf, a list -/
theorem leaf_lst {K : PySem.W.Frag} {F H : Hp} {xs : List D} {n : Nat} {v : V} {g : AS} (hn : 2 ≤ n) (r : RO K F H (.lst xs) n v g) : ∃ a vs g0, v = .ref a ∧ H a = some (.lst vs) ∧ F a = none ∧ ¬ g0 a ∧ ROL K F H xs (dn n) vs g0 ∧ g = fun b => b = a ∨ g0 b := by
  unfold RO at r; rw [if_neg (by omega)] at r; exact r
/-- the change itself: a list's items and what comes in -/
theorem chg_go {Γ1 : Gm} {σ : L2.St} {F F2 H H2 : Hp} {fp fp2 : Nat → AS} {e2 : Env} {x n m mN : Nat} {d0 : D} {xs ys : List D} {v0 v1 u : V} {ps : List D} {dv : D} {f : AS} {c : D → D → Option D} {O : Out} {DD : Ends} {dn' : D} (hc : Chg (lvOf Γ1 x) n m mN) (hO : O = ⟨some (Γ1.set x mN), none, none⟩)
    {q : Bool} {e0 : List D} (g : Go T.K q Γ1 σ F H fp e0 e2.s F2 H2 fp2 f) (hr : x ∉ Rt.ro) (hd : e2.s[x]? = some d0) (hv : σ[x]? = some (some v0)) (hl : ps.length = n) (hp : AtP H2 ps d0 v0 (.lst xs) v1) (hu : updAt (c dv) ps d0 = some dn') (hcd : c dv (.lst xs) = some (.lst ys)) (hf : ∀ a, f a → F2 a = none ∧ H2 a ≠ none)
    (z : EndO T.K Rt.ro O.nx σ F H fp (e2.s.set x dn') DD.nx) :
    ∃ a vs, v1 = .ref a ∧ H2 a = some (.lst vs) ∧ vs.length = xs.length ∧ ∀ us, (∀ F3 g0, Sub F2 F3 → Sub F3 H2 → ROL T.K F3 H2 xs (dn (dnk n mN)) vs g0 → ¬ g0 a → Dis g0 f → (∀ b, f b → F3 b = none) → ∃ gf F4 g5, (∀ b, gf b → f b) ∧ F4 = frz F3 H2 gf ∧ (∀ b, g5 b → g0 b ∨ (f b ∧ ¬ gf b)) ∧ ROL T.K F4 H2 ys (dn (dnk n mN)) us g5) → DD.nx σ (upd H2 a (.lst us)) := by
  subst hO hl
  obtain ⟨F3, fp3, gl, h, s3, c3, o3, hs, hdis, r1, hch⟩ := g.st.change hd hv hp hc.h1 hc.h2 hc.h3
  have h2k : 2 ≤ dnk ps.length mN := dnk_two hc.h1 hc.h3
  obtain ⟨a, vs, g0, rfl, eH, eF, na, rl, rfl⟩ := leaf_lst h2k r1
  refine ⟨a, vs, rfl, eH, rol_len rl, fun us hus => ?_⟩
  have fdis : ∀ b, f b → ¬ Own fp3 b := fun b z1 z2 => g.dis b z1 (o3 b z2)
  have gown : ∀ b, (b = a ∨ g0 b) → Own fp3 b := fun b z => ⟨x, (hs b).mpr (.inl z)⟩
  have f3 : ∀ b, f b → F3 b = none := fun b z => (c3.kept (fun _ z => z.elim) g.dis hf).out b z (hf b z).1
  obtain ⟨gf, F4, g5, hgf, rfl, hg5, rl5⟩ := hus F3 g0 c3.sub s3.sub rl na (fun b z1 z2 => fdis b z2 (gown b (.inr z1))) f3
  have haf : ¬ f a := fun z => fdis a z (gown a (.inl rfl))
  have sF : Sub F3 (frz F3 H2 gf) := frz_sub fun b z => f3 b (hgf b z)
  have F4a : frz F3 H2 gf a = none := by rw [frz_out fun z => haf (hgf a z)]; exact eF
  have sH4 : Sub (frz F3 H2 gf) (upd H2 a (.lst us)) := fun b o e => by
    have hb : b ≠ a := by rintro rfl; rw [F4a] at e; cases e
    rw [upd_ne hb]
    exact frz_le s3.sub b o e
  have n5 : ¬ g5 a := fun z => by
    rcases hg5 a z with z | z
    · exact na z
    · exact haf z.1
  obtain ⟨dn2, e1, s4⟩ := hch (frz F3 H2 gf) (upd H2 a (.lst us)) (.lst ys) (fun b => b = a ∨ g5 b) (c dv) sF sH4 (fun b zo zn => by
    have hb : b ≠ a := by rintro rfl; exact zn (.inl rfl)
    refine ⟨upd_ne hb, ?_, ?_⟩
    · rw [frz_out fun z => fdis b (hgf b z) zo]
      exact (s3.cells zo).1
    · rintro (z | z)
      · exact hb z
      · rcases hg5 b z with z | z
        · exact zn (.inr z)
        · exact fdis b z.1 zo) (by
    unfold RO
    rw [if_neg (by omega)]
    refine ⟨a, us, g5, rfl, upd_same, F4a, n5, ?_, rfl⟩
    exact ROL.kept ys _ us g5 ⟨Sub.refl _, fun b z => upd_ne fun e => n5 (e ▸ z), fun _ _ e => e⟩ rl5) hcd
  rw [hu] at e1; cases e1
  have gr3 : ∀ b, Own fp3 b → Own fp b ∨ H b = none := fun b z => g.grow b (.inl (o3 b z))
  have grf : ∀ b, f b → Own fp b ∨ H b = none := fun b z => g.grow b (.inr z)
  refine z σ (frz F3 H2 gf) (upd H2 a (.lst us)) _ ⟨s4, fun _ z => z.elim, ?_, fun b z => ?_, fun _ _ => rfl, rfl⟩
  · refine ⟨(g.ch.sub.trans c3.sub).trans sF, fun b o e hn => ?_, fun b e hn => ?_⟩
    · have hb : b ≠ a := by
        rintro rfl
        rcases gr3 b (gown b (.inl rfl)) with y | y
        · exact hn y
        · rw [e] at y; cases y
      rw [upd_ne hb]
      exact g.ch.keep b o e fun y => hn y.2
    · by_cases hb : gf b
      · exact grf b (hgf b hb)
      · rw [frz_out hb] at hn
        by_cases e2 : F2 b = none
        · rcases c3.new b e2 hn with y | y
          · exact g.grow b (.inl y)
          · exact Grow.none (f := emp) (g := emp) g.ch (fun _ z => z.2) y
        · exact g.ch.new b e e2
  · rcases z with z | z
    · rcases own_putF z with z | ⟨j, _, z⟩
      · rcases z with (rfl | z) | z
        · exact gr3 _ (gown _ (.inl rfl))
        · rcases hg5 b z with z | z
          · exact gr3 b (gown b (.inr z))
          · exact grf b z.1
        · exact gr3 b ⟨x, (hs b).mpr (.inr z)⟩
      · exact gr3 b ⟨j, z⟩
    · exact z.elim
/-- items and one value of one's own behind them -/
theorem rol_snoc {K : PySem.W.Frag} {F2 F3 H : Hp} {xs : List D} {k m : Nat} {vs : List V} {g0 f : AS} {dv : D} {u : V} (sF : Sub F2 F3) (s3 : Sub F3 H) (r : ROL K F3 H xs k vs g0) (dis : Dis g0 f) (h1 : 1 ≤ k) (hm : k ≤ m) (val : Val K m F2 H dv u f) (f3 : ∀ b, f b → F3 b = none) :
    ∃ gf F4 g5, (∀ b, gf b → f b) ∧ F4 = frz F3 H gf ∧ (∀ b, g5 b → g0 b ∨ (f b ∧ ¬ gf b)) ∧ ROL K F4 H (xs ++ [dv]) k (vs ++ [u]) g5 := by
  unfold Val at val
  rw [if_neg (by omega)] at val
  have v3 : RO K F3 H dv m u f := RO.kept dv m u f ⟨sF, fun _ _ => rfl, fun b z _ => f3 b z⟩ val
  obtain ⟨gf, f', hs, hd, rw_⟩ := RO.weak s3 dv m k u f h1 hm v3
  refine ⟨gf, _, fun b => g0 b ∨ f' b, fun b z => (hs b).mpr (.inl z), rfl, fun b z => z.imp id fun y => ⟨(hs b).mpr (.inr y), fun w => hd b w y⟩, ?_⟩
  refine ROL.app (ROL.kept xs k vs g0 (frz_kept (fun b z => f3 b ((hs b).mpr (.inl z))) fun b z1 z2 => dis b z1 ((hs b).mpr (.inl z2))) r) ?_ fun b z1 z2 => dis b z1 ((hs b).mpr (.inr z2))
  simp only [ROL]
  exact ⟨u, [], f', emp, rfl, rw_, ⟨rfl, rfl⟩, fun _ _ z => z, by funext b; simp [emp]⟩
theorem upd_app {dv : D} : ∀ {ps : List D} {d0 dn' d1 : D} {fn : D → Option D}, updAt fn ps d0 = some dn' → getP ps d0 = some d1 → ∃ d2, fn d1 = some d2
  | ps, d0, dn', d1, fn, h, h' => by
    obtain ⟨a, b, e1, e2⟩ := getP_upd h
    rw [h'] at e1; cases e1
    exact ⟨b, e2⟩
theorem AtP.getP_ {H : Hp} : ∀ {ps : List D} {d : D} {v : V} {d1 : D} {v1 : V}, AtP H ps d v d1 v1 → getP ps d = some d1
  | [], d, v, d1, v1, h => by simp only [getP]; rw [h.1]
  | i :: p, d, v, d1, v1, h => by
    obtain ⟨a, xs, vs, j, x, w, k, rfl, e1, rfl, e3, e4, e5, e6, r⟩ := h
    rcases e1 with ⟨rfl, _⟩ | ⟨rfl, _⟩
    · simp only [getP, e3, e5, Option.bind_some]; exact AtP.getP_ r
    · simp only [getP, e3, e5, Option.bind_some]; exact AtP.getP_ r
theorem ss_app {rp : Env → R (Nat × List D)} {ra : Env → R D} {p a : Expr} {apos cpos pos : Pos} {Γ Γ1 : Gm} {m mN x n : Nat} (hK : X.K = T.K) (hp : SP X T W kp rp p Γ) (ha : SE X T W kp true ra a Γ m Γ1) (hst : ∀ e ps e', rp e = .ok ps e' → ps.1 = x ∧ ps.2.length = n ∧ e'.s = e.s) (hn : n + 2 ≤ lvOf Γ x)
    (hc : Chg (lvOf Γ1 x) n m mN) (hr : x ∉ Rt.ro) (h2 : ns a = true) (h3 : nsup p = true) (h4 : (apos.endLine == cpos.line) = true) :
    SS X T W kp Rt (fun e => (rp e).st fun ps e1 => match (e1.get ps.1).bind (getP ps.2) with | some (.lst _) => (ra e1).st fun v e2 => chg ps.1 ps.2 (appD v) e2 | _ => .bad) (.Expr (.Call (.Attribute p "append" apos) [a] [] cpos) pos) Γ ⟨some (Γ1.set x mN), none, none⟩ := by
  refine PS.mono (ps_expr (pe_bm PySem.F.plainAttrs_list PySem.F.slot_list_append PySem.F.type_list_append mt_append hp (pa_cons ha pa_nil (star_cons h2)) (base_ok h3) (bm_few (by simp [h2]) (by decide)) h4 (star_cons h2) rfl) rfl) fun DD σ H z => ?_
  show tBM X.K "list" rAppend (rdP T W kp rp Γ) (tCons (rdE T W kp true ra Γ m Γ1) tNil) σ H fun _ H1 => DD.nx σ H1
  rw [hK]
  refine rd_place (c := appD) (x := x) hst hn hc.h3 z fun e2 F F2 H2 fp fp2 d0 d1 v0 v1 ps dv u f dn' g hd hv hl hat val hu ze => ?_
  obtain ⟨d2, hd2⟩ := upd_app (dv := dv) hu hat.getP_
  cases d1 <;> try (simp [appD] at hd2; done)
  rename_i xs
  simp only [appD] at hd2
  split at hd2 <;> simp only [reduceCtorEq, Option.some.injEq] at hd2
  rename_i hlen
  have hcd : appD dv (.lst xs) = some (.lst (xs ++ [dv])) := by simp only [appD]; rw [if_pos hlen]
  obtain ⟨a', vs, rfl, eH, hvl, hgo⟩ := chg_go (T := T) (Rt := Rt) (DD := DD) (xs := xs) (ys := xs ++ [dv]) (u := u) hc rfl g hr hd hv hl hat hu hcd val.cells ze
  refine ⟨a', vs, u, rfl, rfl, eH, by rw [hvl]; exact Nat.lt_of_lt_of_le hlen (by decide), ?_⟩
  refine hgo (vs ++ [u]) fun F3 g0 sF s3 rl na dis f3 => ?_
  exact rol_snoc sF s3 rl dis hc.h4.1 hc.h4.2 val f3
/-! ### extend -/
theorem rol_of1 {K : PySem.W.Frag} {F H : Hp} : ∀ {xs : List D} {vs : List V}, RFL K F xs vs → ROL K F H xs 1 vs emp
  | [], vs, h => by simp only [RFL] at h; simp only [ROL]; exact ⟨h, trivial⟩
  | x :: xs, vs, h => by
    simp only [RFL] at h
    obtain ⟨w, ws, rfl, q, r⟩ := h
    simp only [ROL]
    exact ⟨w, ws, emp, emp, rfl, RO.of1 (Nat.le_refl 1) q, rol_of1 r, fun _ z => z.elim, by funext b; simp [emp]⟩
/-- the items of a list, by its level -/
theorem val_items {K : PySem.W.Frag} {F H : Hp} {xs : List D} {m : Nat} {v : V} {f : AS} (hm : 1 ≤ m) (s : Sub F H) (val : Val K m F H (.lst xs) v f) : ∃ b us g, v = .ref b ∧ Rd H b (.lst us) ∧ ROL K F H xs (dn m) us g ∧ ∀ a, g a → f a := by
  unfold Val at val
  rw [if_neg (by omega)] at val
  by_cases h1 : m ≤ 1
  · obtain ⟨h, rfl⟩ := RO.to1 h1 val
    simp only [RF] at h
    obtain ⟨b, us, rfl, q, r⟩ := h
    rw [dn_le_one h1, show m = 1 by omega]
    exact ⟨b, us, emp, rfl, Rd.sub s q, rol_of1 r, fun _ z => z⟩
  · unfold RO at val
    rw [if_neg h1] at val
    obtain ⟨b, us, g, rfl, q, _, _, r, rfl⟩ := val
    exact ⟨b, us, g, rfl, .inl q, r, fun a z => .inr z⟩
theorem rol_more {K : PySem.W.Frag} {F2 F3 H : Hp} {xs ys : List D} {k m : Nat} {vs us : List V} {g0 f g : AS} (sF : Sub F2 F3) (s3 : Sub F3 H) (r : ROL K F3 H xs k vs g0) (dis : Dis g0 f) (h1 : 1 ≤ k) (hm : k ≤ m) (ry : ROL K F2 H ys m us g) (hg : ∀ a, g a → f a) (f3 : ∀ b, f b → F3 b = none) :
    ∃ gf F4 g5, (∀ b, gf b → f b) ∧ F4 = frz F3 H gf ∧ (∀ b, g5 b → g0 b ∨ (f b ∧ ¬ gf b)) ∧ ROL K F4 H (xs ++ ys) k (vs ++ us) g5 := by
  have v3 : ROL K F3 H ys m us g := ROL.kept ys m us g ⟨sF, fun _ _ => rfl, fun b z _ => f3 b (hg b z)⟩ ry
  obtain ⟨gf, f', hs, hd, rw_⟩ := ROL.weak s3 ys m k us g h1 hm v3
  refine ⟨gf, _, fun b => g0 b ∨ f' b, fun b z => hg b ((hs b).mpr (.inl z)), rfl, fun b z => z.imp id fun y => ⟨hg b ((hs b).mpr (.inr y)), fun w => hd b w y⟩, ?_⟩
  exact ROL.app (ROL.kept xs k vs g0 (frz_kept (fun b z => f3 b (hg b ((hs b).mpr (.inl z)))) fun b z1 z2 => dis b z1 (hg b ((hs b).mpr (.inl z2)))) r) rw_ fun b z1 z2 => dis b z1 (hg b ((hs b).mpr (.inr z2)))
def rExtR : V → List V → Hp → VK → Prop := fun x vs H Q => ∃ l b xs zs, x = .ref l ∧ vs = [.ref b] ∧ H l = some (.lst xs) ∧ Rd H b (.lst zs) ∧ xs.length + zs.length ≤ sizeLine ∧ Q .non (upd H l (.lst (xs ++ zs)))
theorem mt_extR : MtM X "list.extend" rExtR := by
  intro pins s σ H x vs v us Q I rx rv h
  obtain ⟨l, b, xs, zs, rfl, rfl, hH, hB, hz, q⟩ := h
  cases rx
  obtain ⟨u, rfl, ru⟩ := rv.one
  cases ru
  obtain ⟨z, its, n, r, hl, e⟩ := I.lstM hH
  obtain ⟨z2, its2, n2, r2, e2⟩ := hB.ok I.hok
  have hl2 := r2.length
  have hsz : its.toArray.size + its2.toArray.size ≤ sizeLine := by rw [List.size_toArray, List.size_toArray]; omega
  have hlong : ¬ (!its.toArray.isEmpty && Builtin.List.listTooLong (its.toArray.size + its2.toArray.size)) = true := by
    rw [notLongL hsz, Bool.and_false]
    exact Bool.false_ne_true
  refine call_meets F.slot_list_extend ⟨_, e, rfl⟩ F.entry_list_extend (F.args_list_extend_2 _ _)
    (AutoSeq1.list_extend_list_list_0 l its.toArray n b its2.toArray n2 hlong (by rw [List.size_toArray]; omega) (by omega)) ⟨e, e2, ?_⟩
  refine ⟨.non, _, I.lset (its' := its ++ its2) hH e (by simp) (r.append r2) ?_, rfl, q⟩
  rw [List.length_append]
  omega
theorem ss_ext {rp : Env → R (Nat × List D)} {ra : Env → R D} {p a : Expr} {apos cpos pos : Pos} {Γ Γ1 : Gm} {m mN x n : Nat} (hK : X.K = T.K) (hp : SP X T W kp rp p Γ) (ha : SE X T W kp true ra a Γ m Γ1) (hst : ∀ e ps e', rp e = .ok ps e' → ps.1 = x ∧ ps.2.length = n ∧ e'.s = e.s) (hn : n + 2 ≤ lvOf Γ x)
    (hm : 1 ≤ m) (hc : Chg (lvOf Γ1 x) n (dn m) mN) (hr : x ∉ Rt.ro) (h2 : ns a = true) (h3 : nsup p = true) (h4 : (apos.endLine == cpos.line) = true) :
    SS X T W kp Rt (fun e => (rp e).st fun ps e1 => match (e1.get ps.1).bind (getP ps.2) with | some (.lst _) => (ra e1).st fun v e2 => chg ps.1 ps.2 (extD v) e2 | _ => .bad) (.Expr (.Call (.Attribute p "extend" apos) [a] [] cpos) pos) Γ ⟨some (Γ1.set x mN), none, none⟩ := by
  refine PS.mono (ps_expr (pe_bm PySem.F.plainAttrs_list PySem.F.slot_list_extend PySem.F.type_list_extend mt_extR hp (pa_cons ha pa_nil (star_cons h2)) (base_ok h3) (bm_few (by simp [h2]) (by decide)) h4 (star_cons h2) rfl) rfl) fun DD σ H z => ?_
  show tBM X.K "list" rExtR (rdP T W kp rp Γ) (tCons (rdE T W kp true ra Γ m Γ1) tNil) σ H fun _ H1 => DD.nx σ H1
  rw [hK]
  refine rd_place (c := extD) (x := x) hst hn hc.h3 z fun e2 F F2 H2 fp fp2 d0 d1 v0 v1 ps dv u f dn' g hd hv hl hat val hu ze => ?_
  obtain ⟨d2, hd2⟩ := upd_app (dv := dv) hu hat.getP_
  cases d1 <;> try (simp [extD] at hd2; done)
  rename_i xs
  cases dv <;> try (simp [extD] at hd2; done)
  rename_i ys
  have hd3 := hd2
  simp only [extD, guardL] at hd3
  split at hd3 <;> simp only [reduceCtorEq, Option.some.injEq] at hd3
  rename_i hlen
  have hcd : extD (.lst ys) (.lst xs) = some (.lst (xs ++ ys)) := by simp only [extD]; exact guardL_pos hlen
  obtain ⟨b, us, gy, rfl, qb, ry, hgy⟩ := val_items hm g.st.sub val
  obtain ⟨a', vs, rfl, eH, hvl, hgo⟩ := chg_go (T := T) (Rt := Rt) (DD := DD) (xs := xs) (ys := xs ++ ys) (u := .ref b) hc rfl g hr hd hv hl hat hu hcd val.cells ze
  refine ⟨a', b, vs, us, rfl, rfl, eH, qb, ?_, ?_⟩
  · rw [hvl, rol_len ry]; exact lim_line hlen
  refine hgo (vs ++ us) fun F3 g0 sF s3 rl na dis f3 => ?_
  exact rol_more sF s3 rl dis hc.h4.1 hc.h4.2 ry hgy f3
end
end Z

/-! Z9: stores to items. -/
namespace Z
open PySem L2 PyProof.Rows
section
variable {X : Cx} {T : Tb} {W : WX} {kp : List Nat} {Rt : RT}
/-- one item exchanged for a value of one's own -/
theorem rol_set {K : PySem.W.Frag} {F2 F3 H : Hp} {xs : List D} {k m j : Nat} {vs : List V} {g0 f : AS} {dv x : D} {u w : V} (sF : Sub F2 F3) (s3 : Sub F3 H) (r : ROL K F3 H xs k vs g0) (e1 : xs[j]? = some x) (e2 : vs[j]? = some w) (dis : Dis g0 f) (h1 : 1 ≤ k) (hm : k ≤ m) (val : Val K m F2 H dv u f) (f3 : ∀ b, f b → F3 b = none) :
    ∃ gf F4 g5, (∀ b, gf b → f b) ∧ F4 = frz F3 H gf ∧ (∀ b, g5 b → g0 b ∨ (f b ∧ ¬ gf b)) ∧ ROL K F4 H (xs.set j dv) k (vs.set j u) g5 := by
  unfold Val at val
  rw [if_neg (by omega)] at val
  have v3 : RO K F3 H dv m u f := RO.kept dv m u f ⟨sF, fun _ _ => rfl, fun b z _ => f3 b z⟩ val
  obtain ⟨gf, f', hs, hd, rw_⟩ := RO.weak s3 dv m k u f h1 hm v3
  obtain ⟨g, h, hs2, hd2, _, hu⟩ := ROL.upd r e1 e2
  refine ⟨gf, _, fun b => f' b ∨ h b, fun b z => (hs b).mpr (.inl z), rfl, fun b z => ?_, ?_⟩
  · rcases z with z | z
    · exact .inr ⟨(hs b).mpr (.inr z), fun w => hd b w z⟩
    · exact .inl ((hs2 b).mpr (.inr z))
  · exact hu _ H dv u f' (frz_kept (fun b z => f3 b ((hs b).mpr (.inl z))) fun b z1 z2 => dis b ((hs2 b).mpr (.inr z1)) ((hs b).mpr (.inl z2))) rw_ fun b z1 z2 => dis b ((hs2 b).mpr (.inr z2)) ((hs b).mpr (.inr z1))
theorem setIx_lst {i dv d1 d2 : D} (h : setIx i dv d1 = some d2) : ∃ xs k j, d1 = .lst xs ∧ i = .int k ∧ ixn xs.length k = some j ∧ d2 = .lst (xs.set j dv) := by
  cases d1 <;> try (simp [setIx] at h; done)
  cases i <;> try (simp [setIx] at h; done)
  simp only [setIx, Option.map_eq_some_iff] at h
  obtain ⟨j, h1, rfl⟩ := h
  exact ⟨_, _, j, rfl, rfl, h1, rfl⟩
theorem ixn_lt {n : Nat} {k : Int} {j : Nat} (h : ixn n k = some j) : j < n := by
  unfold ixn at h
  split at h
  · split at h <;> simp only [reduceCtorEq, Option.some.injEq] at h
    omega
  · split at h <;> simp only [reduceCtorEq, Option.some.injEq] at h
    omega
/-- no slice -/
def nsl : Expr → Bool
  | .Slice .. => false
  | _ => true
theorem asg_sub {p i : Expr} {pos : Pos} {env : PySem.Env} (h : nsl i = true) (v : Value) : assign (.Subscript p i pos) env v = (do
      let ov ← holding [v] (eval p env)
      let iv ← holding [v, ov] (eval i env)
      standAt pos
      holding [v, ov, iv] (setItem ov iv v)
      release [v, ov, iv] []) := by
  cases i <;> first
    | rfl
    | (simp [nsl] at h)
theorem aug_sub {i : Expr} (h : nsl i = true) (ov iv new : Value) : augStore i ov iv new = (do holding [new, ov, iv] (setItem ov iv new); release [new, ov, iv] []; pure .next) := by
  cases i <;> first
    | rfl
    | (simp [nsl] at h)
theorem plainIx {i : Expr} (h : nsl i = true) : PlainIx i := by
  intro o j
  cases i <;> first
    | rfl
    | (simp [nsl] at h)
/-- p[i] = e -/
theorem ss_six {ra ri : Env → R D} {rp : Env → R (Nat × List D)} {a p i : Expr} {ppos pos : Pos} {q : Bool} {Γ Γ1 : Gm} {m n2 mN x n : Nat} (hK : X.K = T.K) (ha : SE X T W kp q ra a Γ m Γ1) (hp : SP X T W kp rp p Γ1) (hi : SE X T W kp true ri i Γ1 n2 Γ1)
    (hst : ∀ e ps e', rp e = .ok ps e' → ps.1 = x ∧ ps.2.length = n ∧ e'.s = e.s) (hn : n + 2 ≤ lvOf Γ1 x) (hm : own m = true) (hc : Chg (lvOf Γ1 x) n m mN) (hr : x ∉ Rt.ro)
    (h0 : nsl i = true) (h1 : swapsWithSole [.Subscript p i ppos] a pos.line X.env = pure false) (h2 : swappedStores [.Subscript p i ppos] a X.env = pure none) :
    SS X T W kp Rt (fun e => (ra e).st fun v e1 => (rp e1).st fun ps e2 => match (e2.get ps.1).bind (getP ps.2) with
      | some (.lst _) => (ri e2).st fun i e3 => chg ps.1 ps.2 (setIx i v) e3
      | _ => .bad) (.Assign [.Subscript p i ppos] a pos) Γ ⟨some (Γ1.set x mN), none, none⟩ := by
  refine PS.mono (ps_asg ha (pg_sub hp hi set_list (asg_sub h0)) h1 h2) fun DD σ H z => ?_
  obtain ⟨e, F, fp, s, z⟩ := z
  refine ⟨e, F, fp, s, ?_⟩
  dsimp only at z
  cases e1 : ra e with
  | bad => rw [e1] at z; exact z
  | exc y e' => rw [e1] at z; exact XWs.at_ z
  | ok dv e' =>
    rw [e1] at z
    simp only [R.st_ok] at z
    intro F1 H1 fp1 v f g1 val
    refine ⟨e', F1, fp1, g1.st, ?_⟩
    cases e2 : rp e' with
    | bad => rw [e2] at z; exact z
    | exc y e'' => rw [e2] at z; exact XW.back (XWs.at_ z) g1
    | ok ps e'' =>
      rw [e2] at z
      obtain ⟨hx, hl, hse⟩ := hst e' ps e'' e2
      obtain ⟨px, ps⟩ := ps
      dsimp only at hx hl
      subst hx hl
      simp only [R.st_ok] at z
      cases e3 : (e''.get px).bind (getP ps) with
      | none => rw [e3] at z; exact z.elim
      | some d1 =>
        rw [e3] at z
        cases d1 <;> try exact z.elim
        rename_i xs1
        dsimp only at z ⊢
        obtain ⟨d0, e4, e5⟩ := Option.bind_eq_some_iff.mp e3
        have e4' : e''.s[px]? = some d0 := e4
        refine ⟨d0, .lst xs1, by rw [← hse]; exact e4', e5, by omega, hc.h3, fun F2 H2 fp2 v0 v1 g2 hv0 hp2 => ?_⟩
        refine ⟨e'', F2, fp2, g2.st, ?_⟩
        cases e6 : ri e'' with
        | bad => rw [e6] at z; exact z.elim
        | exc y e3 => rw [e6] at z; exact XW.back (XW.back (XWs.at_ z) g1) g2
        | ok di e''' =>
          rw [e6] at z
          simp only [R.st_ok, chg] at z
          intro F3 H3 fp3 iv fi g3 vali
          have g23 := Go.then_ g2 g3
          have val3 := val.stay g23.ch g1.dis (.inl hm) (.inl (own_ne hm))
          have gg := go_app (Go.trans g1 g23 val.cells) (g := f) fun _ z => .inl z
          have es : e'''.s = e''.s := g3.same rfl
          have e7 : e'''.get px = some d0 := by show e'''.s[px]? = some d0; rw [es]; exact e4'
          rw [e7] at z
          simp only [Option.bind_some] at z
          cases e8 : updAt (setIx di dv) ps d0 with
          | none => rw [e8] at z; exact z.elim
          | some dn' =>
            rw [e8] at z
            have hp3 := hp2.sub (g3.ch.subH rfl)
            obtain ⟨d2, hd2⟩ := upd_app (dv := dv) e8 hp3.getP_
            obtain ⟨xs, k, j, hh, rfl, hj, rfl⟩ := setIx_lst hd2
            cases hh
            obtain rfl := rf_int (vali.rf g3.st.sub)
            obtain ⟨a', vs, rfl, eH, hvl, hgo⟩ := chg_go (T := T) (Rt := Rt) (DD := DD) (c := setIx (.int k)) (xs := xs1) (ys := xs1.set j dv) (u := v) hc rfl gg hr e7 hv0 rfl hp3 e8 hd2 val3.cells z
            have hjl := ixn_lt hj
            refine ⟨a', vs, k, j, rfl, rfl, eH, by rw [hvl, ixn_eq]; exact hj, ?_⟩
            refine hgo (vs.set j v) fun F4 g0 sF s4 rl na dis f4 => ?_
            exact rol_set sF s4 rl (List.getElem?_eq_getElem hjl) (List.getElem?_eq_getElem (by omega)) dis hc.h4.1 hc.h4.2 val3 f4
theorem g_get : PGet X (rIxL X.K) := by
  intro pins s σ H x y v u Q I rx ry h
  obtain ⟨p, xs, i, z, rfl, rfl, hq, he, q⟩ := h
  cases rx
  obtain ⟨t, rfl⟩ := ry
  obtain ⟨its, r, pl, hz⟩ := I.list hq
  obtain ⟨j, h1, h2, h3, h4, h5⟩ := atI_get he
  obtain ⟨w, ew, rw'⟩ := r.get h2
  have hl := r.length
  have hn := line63
  have fin : EP X pins σ Q w s := ⟨z, H, I, rw', q⟩
  by_cases h0 : 0 ≤ i
  · have hj : i.toNat = j := by
      rw [seqIndex_of h0 h5] at h1
      exact Option.some.inj h1
    exact wpAny_getItem_list pl.isList h0 (by omega) (by rw [hj]; simpa using ew) fin
  · have hj : (i + (its.toArray.size : Int)).toNat = j := by
      rw [seqIndex_neg (by omega) h4] at h1
      rw [List.size_toArray, ← hl]
      exact Option.some.inj h1
    exact wpAny_getItem_list_neg pl.isList (by omega) (by rw [List.size_toArray] <;> omega) (by omega) (by rw [hj]; simpa using ew) fin
/-- p[i] op= e -/
theorem ss_aix {ra ri : Env → R D} {rp : Env → R (Nat × List D)} {a p i : Expr} {ppos pos : Pos} {Γ : Gm} {m n2 mN x n : Nat} {o : O2} (hK : X.K = T.K) (hp : SP X T W kp rp p Γ) (hi : SE X T W kp true ri i Γ n2 Γ) (hi2 : own n2 = true) (ha : SE X T W kp true ra a Γ m Γ) (ho : o = .add ∨ o = .sub)
    (hst : ∀ e ps e', rp e = .ok ps e' → ps.1 = x ∧ ps.2.length = n ∧ e'.s = e.s) (hn : n + 2 ≤ lvOf Γ x) (hc : Chg (lvOf Γ x) n 100 mN) (hr : x ∉ Rt.ro) (h0 : nsl i = true) :
    SS X T W kp Rt (fun e => (rp e).st fun ps e1 => match (e1.get ps.1).bind (getP ps.2) with
      | some (.lst xs) => (ri e1).st fun i e2 => match opIx (.lst xs) i with
        | none => .bad
        | some old => (ra e2).st fun y e3 => match op2i o old y with
          | some z => chg ps.1 ps.2 (setIx i z) e3
          | none => .bad
      | _ => .bad) (.AugAssign (.Subscript p i ppos) (opOf o) a pos) Γ ⟨some (Γ.set x mN), none, none⟩ := by
  refine PS.mono (ps_augS hp hi g_get ha (show PIp X (opOf o) (rG X.K (op2i o)) from g_iop ho) set_list (aug_sub h0)) fun DD σ H z => ?_
  obtain ⟨e, F, fp, s, z⟩ := z
  refine ⟨e, F, fp, s, ?_⟩
  dsimp only at z
  cases e2 : rp e with
  | bad => rw [e2] at z; exact z
  | exc y e'' => rw [e2] at z; exact XWs.at_ z
  | ok ps e'' =>
    rw [e2] at z
    obtain ⟨hx, hl, hse⟩ := hst e ps e'' e2
    obtain ⟨px, ps⟩ := ps
    dsimp only at hx hl
    subst hx hl
    simp only [R.st_ok] at z
    cases e3 : (e''.get px).bind (getP ps) with
    | none => rw [e3] at z; exact z.elim
    | some d1 =>
      rw [e3] at z
      cases d1 <;> try exact z.elim
      rename_i xs1
      dsimp only at z ⊢
      obtain ⟨d0, e4, e5⟩ := Option.bind_eq_some_iff.mp e3
      have e4' : e''.s[px]? = some d0 := e4
      refine ⟨d0, .lst xs1, by rw [← hse]; exact e4', e5, by omega, hc.h3, fun F2 H2 fp2 v0 v1 g2 hv0 hp2 => ?_⟩
      refine ⟨e'', F2, fp2, g2.st, ?_⟩
      cases e6 : ri e'' with
      | bad => rw [e6] at z; exact z.elim
      | exc y e3 => rw [e6] at z; exact XW.back (XWs.at_ z) g2
      | ok di e''' =>
        rw [e6] at z
        simp only [R.st_ok] at z
        intro F3 H3 fp3 iv fi g3 vali
        cases e7 : opIx (.lst xs1) di with
        | none => rw [e7] at z; exact z.elim
        | some old =>
          rw [e7] at z
          dsimp only at z
          obtain ⟨k, rfl⟩ := ix_int e7
          obtain rfl := rf_int (vali.rf g3.st.sub)
          have es3 : e'''.s = e''.s := g3.same rfl
          -- the leaf
          have hp3 := hp2.sub (g3.ch.subH rfl)
          have e43 : e'''.s[px]? = some d0 := by rw [es3]; exact e4'
          obtain ⟨dd, vv, ea, eb, r0⟩ := g3.st.at_ px (by omega)
          rw [e43] at ea; cases ea
          rw [hv0] at eb; cases eb
          obtain ⟨_, _, _, _, r1, _⟩ := RO.upd r0 hp3 ⟨hn, hc.h3⟩
          obtain ⟨b, vs, gl, rfl, eHb, eFb, _, rl, _⟩ := leaf_lst (dnk_two (m := lvOf Γ px) hn hc.h3) r1
          simp only [opIx] at e7
          have rfl3 := ROL.rf g3.st.sub _ _ _ _ rl
          obtain ⟨w, hat, rw_⟩ := at_of rfl3 e7
          refine ⟨b, vs, k, w, rfl, rfl, .inl (.inl eHb), hat, ?_⟩
          refine ⟨e''', F3, fp3, g3.st, ?_⟩
          cases e8 : ra e''' with
          | bad => rw [e8] at z; exact z.elim
          | exc y e3 => rw [e8] at z; exact XW.back (XW.back (XWs.at_ z) g2) g3
          | ok dy e4s =>
            rw [e8] at z
            simp only [R.st_ok] at z
            intro F4 H4 fp4 yv fy g4 valy
            cases e9 : op2i o old dy with
            | none => rw [e9] at z; exact z.elim
            | some dz =>
              rw [e9] at z
              simp only [chg] at z
              have g234 := go_app (Go.then_ (go_app (Go.then_ g2 g3) (g := emp) fun _ z => z.elim) g4) (g := emp) fun _ z => z.elim
              have es4 : e4s.s = e'''.s := g4.same rfl
              have e44 : e4s.get px = some d0 := by show e4s.s[px]? = some d0; rw [es4]; exact e43
              rw [e44] at z
              simp only [Option.bind_some] at z
              cases e10 : updAt (setIx (.int k) dz) ps d0 with
              | none => rw [e10] at z; exact z.elim
              | some dn' =>
                rw [e10] at z
                refine ⟨old, dy, dz, hK ▸ RF.sub (g4.ch.subH rfl) _ _ rw_, hK ▸ valy.rf g4.st.sub, e9, fun u ru => ?_⟩
                have hp4 := hp3.sub (g4.ch.subH rfl)
                obtain ⟨d2, hd2⟩ := upd_app (dv := dz) e10 hp4.getP_
                obtain ⟨xs, k', j, hh, hk, hj, rfl⟩ := setIx_lst hd2
                cases hh; cases hk
                have valz : Val T.K 100 F4 H4 dz u emp := Val.flat (flat_op2i e9) (hK ▸ ru)
                obtain ⟨a', vs', ea', eH, hvl, hgo⟩ := chg_go (T := T) (Rt := Rt) (DD := DD) (c := setIx (.int k)) (xs := xs1) (ys := xs1.set j dz) (u := u) hc rfl g234 hr e44 hv0 rfl hp4 e10 hd2 (fun _ z => z.elim) z
                have hjl := ixn_lt hj
                cases ea'
                refine ⟨b, vs', k, j, rfl, rfl, eH, by rw [hvl, ixn_eq]; exact hj, ?_⟩
                refine hgo (vs'.set j u) fun F5 g0 sF s4 rl na dis f4 => ?_
                exact rol_set sF s4 rl (List.getElem?_eq_getElem hjl) (List.getElem?_eq_getElem (by omega)) dis hc.h4.1 hc.h4.2 valz f4
end
end Z

/-! Z10: targets, what is walked, for, while. -/
namespace Z
open PySem L2 PyProof.Rows
def setσ : List Nat → List V → L2.St → L2.St
  | i :: is, v :: vs, σ => setσ is vs (σ.set i (some v))
  | _, _, σ => σ
def gAll : List Nat → TGs
  | [] => gNil
  | i :: is => gCons (gName i) (gAll is)
theorem gAll_run : ∀ {is : List Nat} {vs : List V} {σ : L2.St} {H : Hp} {Q : L2.St → Hp → Prop}, vs.length = is.length → Q (setσ is vs σ) H → gAll is vs σ H Q
  | [], [], σ, H, Q, _, h => ⟨rfl, h⟩
  | i :: is, v :: vs, σ, H, Q, hl, h => ⟨v, vs, rfl, gAll_run (by simpa using hl) h⟩
  | [], _ :: _, _, _, _, hl, _ => by simp at hl
  | _ :: _, [], _, _, _, hl, _ => by simp at hl
def gT (K : PySem.W.Frag) : T → TG
  | .n i => gName i
  | .tp is => gTup K is.length (gAll is)
def setG : List Nat → Nat → Gm → Gm
  | [], _, Γ => Γ
  | i :: is, n, Γ => setG is n (Γ.set i n)
def tgtG : T → Nat → Gm → Gm
  | .n i, m, Γ => Γ.set i m
  | .tp is, m, Γ => setG is (dn m) Γ
theorem setG_len : ∀ (is : List Nat) (n : Nat) (Γ : Gm), (setG is n Γ).length = Γ.length
  | [], _, _ => rfl
  | i :: is, n, Γ => by unfold setG; rw [setG_len is n, List.length_set]
theorem setσ_len : ∀ (is : List Nat) (vs : List V) (σ : L2.St), (setσ is vs σ).length = σ.length
  | [], _, _ => by simp [setσ]
  | _ :: _, [], _ => by simp [setσ]
  | i :: is, v :: vs, σ => by simp only [setσ]; rw [setσ_len is vs, List.length_set]
theorem setσ_ne : ∀ (is : List Nat) (vs : List V) (σ : L2.St) (j : Nat), j ∉ is → (setσ is vs σ)[j]? = σ[j]?
  | [], _, _, _, _ => by simp [setσ]
  | _ :: _, [], _, _, _ => by simp [setσ]
  | i :: is, v :: vs, σ, j, h => by
    simp only [List.mem_cons, not_or] at h
    simp only [setσ]
    rw [setσ_ne is vs _ j h.2, List.getElem?_set_ne (Ne.symm h.1)]
section
variable {K : PySem.W.Frag} {F H : Hp}
/-- several locals are stored -/
theorem put_all : ∀ {is : List Nat} {xs : List D} {vs : List V} {g : AS} {Γ : Gm} {e : Env} {σ : L2.St} {fp : Nat → AS} {k : Nat}, is.length = xs.length → ROL K F H xs k vs g → Dis g (Own fp) → (∀ i ∈ is, i < Γ.length) → 1 ≤ k → St K Γ e.s σ F H fp →
    ∃ fp', St K (setG is k Γ) (setAll is xs e).s (setσ is vs σ) F H fp' ∧ ∀ a, Own fp' a → Own fp a ∨ g a
  | [], [], vs, g, Γ, e, σ, fp, k, _, r, _, _, _, s => by
    simp only [ROL] at r
    obtain ⟨rfl, rfl⟩ := r
    exact ⟨fp, s, fun a z => .inl z⟩
  | i :: is, x :: xs, vs, g, Γ, e, σ, fp, k, hl, r, d, hi, hk, s => by
    simp only [ROL] at r
    obtain ⟨w, ws, g1, g2, rfl, q, r, dd, rfl⟩ := r
    have s1 := s.put (hi i List.mem_cons_self) hk q (fun a z1 z2 => d a (.inl z1) z2)
    obtain ⟨fp', s2, o⟩ := put_all (is := is) (xs := xs) (e := e.set i x) (by simpa using hl) r (fun a z1 z2 => by
      rcases own_putF z2 with z | ⟨j, _, z⟩
      · exact dd a z z1
      · exact d a (.inr z1) ⟨j, z⟩) (fun j hj => by rw [List.length_set]; exact hi j (List.mem_cons_of_mem _ hj)) hk s1
    refine ⟨fp', s2, fun a z => ?_⟩
    rcases o a z with z | z
    · rcases own_putF z with z | ⟨j, _, z⟩
      · exact .inr (.inl z)
      · exact .inl ⟨j, z⟩
    · exact .inr (.inr z)
  | [], _ :: _, _, _, _, _, _, _, _, hl, _, _, _, _, _ => by simp at hl
  | _ :: _, [], _, _, _, _, _, _, _, hl, _, _, _, _, _ => by simp at hl
/-- a target is stored -/
theorem tgt_put {t : T} {d : D} {e e' : Env} {Γ : Gm} {σ : L2.St} {fp : Nat → AS} {m : Nat} {v : V} {f : AS} {Q : L2.St → Hp → Prop} {ro : List Nat} (s : St K Γ e.s σ F H fp) (hm : 1 ≤ m) (r : RO K F H d m v f) (hd : Dis f (Own fp)) (ha : asgT t d e = some e') (hi : ∀ i ∈ t.is, i < Γ.length) (hr : ∀ i ∈ t.is, i ∉ ro)
    (k : ∀ σ' fp', St K (tgtG t m Γ) e'.s σ' F H fp' → (∀ a, Own fp' a → Own fp a ∨ f a) → (∀ i ∈ ro, σ'[i]? = σ[i]?) → σ'.length = σ.length → Q σ' H) : gT K t v σ H Q := by
  cases t with
  | n i =>
    simp only [asgT, Option.some.injEq] at ha
    subst ha
    refine k _ _ (s.put (hi i (by simp [T.is])) hm r hd) (fun a z => ?_) (fun j hj => ?_) (by rw [List.length_set])
    · rcases own_putF z with z | ⟨j, _, z⟩
      · exact .inr z
      · exact .inl ⟨j, z⟩
    · rw [List.getElem?_set_ne]
      rintro rfl
      exact hr i (by simp [T.is]) hj
  | tp is =>
    cases d <;> try (simp [asgT] at ha; done)
    rename_i xs
    simp only [asgT] at ha
    split at ha <;> simp only [reduceCtorEq, Option.some.injEq] at ha
    rename_i hl
    subst ha
    by_cases h1 : m ≤ 1
    · obtain ⟨h, rfl⟩ := RO.to1 h1 r
      simp only [RF] at h
      obtain ⟨a, vs, rfl, q, rr⟩ := h
      have hvl := rfl_len rr
      have em : dn m = 1 := by rw [dn_le_one h1]; omega
      obtain ⟨fp', s2, o⟩ := put_all (k := 1) hl.symm (rol_of1 rr) (fun _ z => z.elim) hi (Nat.le_refl 1) s
      refine ⟨a, vs, rfl, SqT.sub s.sub q, by rw [hvl]; exact hl, gAll_run (by rw [hvl]; exact hl) ?_⟩
      have e5 : tgtG (.tp is) m Γ = setG is 1 Γ := by show setG is (dn m) Γ = _; rw [em]
      refine k _ fp' (by rw [e5]; exact s2) (fun a z => (o a z).imp id id) (fun j hj => setσ_ne is vs σ j fun z => hr j z hj) (setσ_len is vs σ)
    · unfold RO at r
      rw [if_neg h1] at r
      obtain ⟨a, vs, g, rfl, q, z, na, rr, rfl⟩ := r
      have hvl := rol_len rr
      obtain ⟨fp', s2, o⟩ := put_all (k := dn m) hl.symm rr (fun a z1 z2 => hd a (.inr z1) z2) hi (dn_pos hm) s
      refine ⟨a, vs, rfl, .inl (.inl q), by rw [hvl]; exact hl, gAll_run (by rw [hvl]; exact hl) ?_⟩
      exact k _ fp' s2 (fun a z => (o a z).imp id .inr) (fun j hj => setσ_ne is vs σ j fun z => hr j z hj) (setσ_len is vs σ)
end
section
variable {X : Cx} {T : Tb} {W : WX} {kp : List Nat} {Rt : RT}
/-- target = e -/
theorem ss_asgT {ra : Env → R D} {a tg : Expr} {pos : Pos} {q : Bool} {Γ Γ1 : Gm} {m : Nat} {t : Z.T} (h : PS X (.Assign [tg] a pos) (tAsg (rdE T W kp q ra Γ m Γ1) (gT T.K t))) (hm : 1 ≤ m) (hi : ∀ i ∈ t.is, i < Γ1.length) (hr : ∀ i ∈ t.is, i ∉ Rt.ro) :
    SS X T W kp Rt (fun e => (ra e).st fun x e1 => match asgT t x e1 with | some e2 => .nx e2 | none => .bad) (.Assign [tg] a pos) Γ ⟨some (tgtG t m Γ1), none, none⟩ := by
  refine PS.mono h fun D σ H ⟨e, F, fp, s, z⟩ => ⟨e, F, fp, s, ?_⟩
  cases e1 : ra e with
  | bad => simp only [e1, R.st_bad] at z; exact z
  | exc y e' => simp only [e1, R.st_exc] at z; exact XWs.at_ z
  | ok d e' =>
    simp only [e1, R.st_ok] at z ⊢
    intro F' H' fp' v f g val
    unfold Val at val
    rw [if_neg (by omega)] at val
    cases e2 : asgT t d e' with
    | none => rw [e2] at z; exact z.elim
    | some e2' =>
      rw [e2] at z
      refine tgt_put (ro := Rt.ro) g.st hm val g.dis e2 hi hr fun σ' fp2 s2 o2 hro hlen => ?_
      refine z σ' F' H' fp2 ⟨s2, fun _ z => z.elim, g.s (ro := Rt.ro).ch, fun a z => ?_, hro, hlen⟩
      rcases z with z | z
      · rcases o2 a z with z | z
        · exact g.grow a (.inl z)
        · exact g.grow a (.inr z)
      · exact z.elim
/-! ### what is walked -/
/-- the i-th of xs comes, shared -/
def YD (K : PySem.W.Frag) (F : Hp) (xs : List D) (i : Nat) (H : Hp) (v : V) (H' : Hp) : Prop :=
  ∃ d, xs[i]? = some d ∧ ∀ Fc, Sub F Fc → Sub Fc H → ∃ F2, Sub Fc F2 ∧ Sub F2 H' ∧ Sub H H' ∧ (∀ a, Fc a = none → F2 a ≠ none → H a = none) ∧ RF K F2 d v
def Wk (K : PySem.W.Frag) (F : Hp) (J : It) (xs : List D) : Prop := Walk J xs.length (fun H => Sub F H) (YD K F xs)
def rdI (T : Tb) (W : WX) (kp : List Nat) (q : Bool) (r : Env → R D) (Γ Γ' : Gm) : TI := fun σ H R => ∃ e F fp, St T.K Γ e.s σ F H fp ∧ match r e with
  | .ok d e' => (match items d with
    | some xs => ∀ F' H' fp' J, Go T.K q Γ' σ F H fp e.s e'.s F' H' fp' emp → Wk T.K F' J xs → R J H'
    | none => False)
  | .exc x e' => XW T W kp σ F H fp x e'.s
  | .bad => False
/-- THE JUDGEMENT of what a loop walks -/
def SI (X : Cx) (T : Tb) (W : WX) (kp : List Nat) (q : Bool) (r : Env → R D) (tg x : Expr) (Γ Γ' : Gm) : Prop := PI X tg x (rdI T W kp q r Γ Γ')
theorem PI.mono {X : Cx} {tg x : Expr} {t t' : TI} (h : PI X tg x t) (m : ∀ σ H R, t' σ H R → t σ H R) : PI X tg x t' := ⟨fun pins s σ H R I z => h.run pins s σ H R I (m σ H R z)⟩
theorem wk_list {K : PySem.W.Frag} {F H : Hp} {xs : List D} {a : Addr} {vs : List V} (q : Rd F a (.lst vs)) (r : RFL K F xs vs) : Wk K F (Itl K a) xs := by
  have hl := rfl_len r
  unfold Wk
  rw [← hl]
  refine (walk_list (K := K) (a := a) (xs := vs)).mono (fun H' s => .inl (Rd.sub s q)) fun i H1 v H2 hi s y => ?_
  obtain ⟨rfl, y⟩ := y
  have hi' : i < xs.length := by omega
  obtain ⟨w, e, rw_⟩ := rfl_get r (List.getElem?_eq_getElem hi')
  rw [y] at e; cases e
  exact ⟨_, List.getElem?_eq_getElem hi', fun Fc s1 s2 => ⟨Fc, Sub.refl _, s2, Sub.refl _, fun a e e' => (e' e).elim, RF.sub s1 _ _ rw_⟩⟩
theorem wk_tup {K : PySem.W.Frag} {F H : Hp} {xs : List D} {a : Addr} {vs : List V} (q : SqT K F a vs) (r : RFL K F xs vs) : Wk K F (Itt K a) xs := by
  have hl := rfl_len r
  unfold Wk
  rw [← hl]
  refine (walk_tup (K := K) (a := a) (xs := vs)).mono (fun H' s => SqT.sub s q) fun i H1 v H2 hi s y => ?_
  obtain ⟨rfl, y⟩ := y
  have hi' : i < xs.length := by omega
  obtain ⟨w, e, rw_⟩ := rfl_get r (List.getElem?_eq_getElem hi')
  rw [y] at e; cases e
  exact ⟨_, List.getElem?_eq_getElem hi', fun Fc s1 s2 => ⟨Fc, Sub.refl _, s2, Sub.refl _, fun a e e' => (e' e).elim, RF.sub s1 _ _ rw_⟩⟩
theorem wk_str {K : PySem.W.Frag} {F : Hp} {s : Txt} : Wk K F (Its (txt s)) (s.map fun c => .str [c]) := by
  unfold Wk
  have e1 : (txt s).cps.size = (s.map fun c => D.str [c]).length := by simp [txt]
  rw [← e1]
  refine walk_str.mono (fun _ _ => True.intro) fun i H1 v H2 hi _ y => ?_
  obtain ⟨rfl, c, ec, rfl⟩ := y
  have ec' : s[i]? = some c := by simpa [txt] using ec
  refine ⟨.str [c], by simp [ec'], fun Fc s1 s2 => ⟨Fc, Sub.refl _, s2, Sub.refl _, fun a e e' => (e' e).elim, by rw [← txt_one]; exact mk_str⟩⟩
theorem wk_range {K : PySem.W.Frag} {F : Hp} {lo : Int} {n : Nat} : Wk K F (Itr lo n) (rangeD lo n) := by
  unfold Wk
  have e1 : (rangeD lo n).length = n := by simp [rangeD]
  rw [e1]
  refine walk_range.mono (fun _ _ => True.intro) fun i H1 v H2 hi _ y => ?_
  obtain ⟨rfl, rfl⟩ := y
  exact ⟨.int (lo + (i : Nat)), by simp [rangeD, hi], fun Fc s1 s2 => ⟨Fc, Sub.refl _, s2, Sub.refl _, fun a e e' => (e' e).elim, mk_int⟩⟩
/-- a list, a tuple or a text, walked -/
def iAny (K : PySem.W.Frag) (tl : TE) : TI := fun σ H R => tl σ H fun x H1 => (∃ a, x = .ref a ∧ (∃ xs, SqL K H1 a xs) ∧ R (Itl K a) H1) ∨ (∃ a, x = .ref a ∧ (∃ xs, SqT K H1 a xs) ∧ R (Itt K a) H1) ∨ ∃ z, x = .str z ∧ R (Its z) H1
theorem pi_any {tg l : Expr} {tl : TE} (hl : PE X l tl) : PI X tg l (iAny X.K tl) := by
  refine ⟨fun pins s σ H R I h => ?_⟩
  refine thn (hl.run pins s σ H _ I h) fun v s1 ⟨x, H1, I1, r1, q1⟩ => ?_
  rcases q1 with ⟨a, e, ⟨xs, hq⟩, q⟩ | ⟨a, e, ⟨xs, hq⟩, q⟩ | ⟨z, e, q⟩
  · subst e
    cases r1
    obtain ⟨its, rv, p, hz⟩ := I1.list hq
    refine wpAny_pyIter_list p.isList ?_
    refine ⟨s1.heap.objs.size, [s1.heap.objs.size], _, _, H1, rfl, I1.kept (t' := s1.toks) fun b o e => Heap.get?_push_of_some _ e, turn_list a _, ⟨_, Heap.get?_push_size _ rfl, rfl, rfl⟩, fun b hb => ?_, q⟩
    have e : b = s1.heap.objs.size := by simpa using hb
    subst e
    exact I1.fpOk (Nat.le_refl _) (I1.hok.fresh (Nat.le_refl _))
  · subst e
    cases r1
    obtain ⟨its, rv, p, hz⟩ := I1.tuple hq
    refine wpAny_pyIter_tuple (show s1.heap.IsTuple a its.toArray from p) ?_
    refine ⟨s1.heap.objs.size, [s1.heap.objs.size], _, _, H1, rfl, I1.kept (t' := s1.toks) fun b o e => Heap.get?_push_of_some _ e, turn_tuple a _, ⟨_, Heap.get?_push_size _ rfl, rfl, rfl⟩, fun b hb => ?_, q⟩
    have e : b = s1.heap.objs.size := by simpa using hb
    subst e
    exact I1.fpOk (Nat.le_refl _) (I1.hok.fresh (Nat.le_refl _))
  · subst e
    obtain ⟨t, rfl⟩ := r1
    cases ha : z.cps.all (· < 128)
    · exact wpAny_pyIter_wide ha (pi_one (tk := s1.toks) I1 _ (turn_str _ z t "str_iterator" (.inr rfl)) ⟨_, Heap.get?_push_size _ rfl, rfl, rfl⟩ q)
    · exact wpAny_pyIter_ascii ha (pi_one (tk := s1.toks) I1 _ (turn_str _ z t "str_ascii_iterator" (.inl rfl)) ⟨_, Heap.get?_push_size _ rfl, rfl, rfl⟩ q)
theorem si_val {ra : Env → R D} {tg x : Expr} {q : Bool} {Γ Γ1 : Gm} {m : Nat} (hK : X.K = T.K) (h : SE X T W kp q ra x Γ m Γ1) (hm : own m = true) : SI X T W kp q ra tg x Γ Γ1 := by
  refine PI.mono (pi_any (se_weak h (leG.refl _) (.inr ⟨Nat.le_refl 1, own_pos hm⟩))) fun σ H RR z => ?_
  rw [hK]
  obtain ⟨e, F, fp, s, z⟩ := z
  refine ⟨e, F, fp, s, ?_⟩
  cases e1 : ra e with
  | bad => rw [e1] at z; exact z
  | exc y e' => rw [e1] at z; exact z
  | ok d e' =>
    rw [e1] at z
    dsimp only at z ⊢
    intro F' H' fp' v f g val
    unfold Val at val
    rw [if_neg (by decide)] at val
    obtain ⟨hr, rfl⟩ := RO.to1 (Nat.le_refl 1) val
    cases hi : items d with
    | none => rw [hi] at z; exact z.elim
    | some xs =>
      rw [hi] at z
      cases d <;> simp only [items, reduceCtorEq, Option.some.injEq] at hi
      · split at hi <;> simp only [reduceCtorEq, Option.some.injEq] at hi
        subst hi
        obtain rfl := rf_str hr
        exact .inr (.inr ⟨_, rfl, z F' H' fp' _ g wk_str⟩)
      · subst hi
        simp only [RF] at hr
        obtain ⟨a, vs, rfl, qq, r⟩ := hr
        exact .inr (.inl ⟨a, rfl, ⟨vs, SqT.sub g.st.sub qq⟩, z F' H' fp' _ g (wk_tup (H := H') qq r)⟩)
      · subst hi
        simp only [RF] at hr
        obtain ⟨a, vs, rfl, qq, r⟩ := hr
        exact .inl ⟨a, rfl, ⟨vs, .inl (Rd.sub g.st.sub qq)⟩, z F' H' fp' _ g (wk_list (H := H') qq r)⟩
      · simp only [RF] at hr
theorem lim62 : (LIM : Int) < 2 ^ 62 := by decide
/-- range(n) -/
theorem si_rg {ra : Env → R D} {tg a : Expr} {p pos : Pos} {q : Bool} {Γ Γ1 : Gm} {m : Nat} (hg : Gl X "range") (hm : X.mg "range" = none) (h : SE X T W kp q ra a Γ m Γ1) (h2 : ns a = true) :
    SI X T W kp q (fun e => (ra e).bind fun x e1 => R.lift (rgD x) e1) tg (.Call (.Name "range" p) [a] [] pos) Γ Γ1 := by
  refine PI.mono (pi_range1 hg hm (pa_cons h pa_nil (star_cons h2)) (star_cons h2)) fun σ H RR z => ?_
  obtain ⟨e, F, fp, s, z⟩ := z
  refine ⟨e, F, fp, s, ?_⟩
  dsimp only at z
  cases e1 : ra e with
  | bad => rw [e1] at z; exact z
  | exc y e' => rw [e1] at z; exact z
  | ok d e' =>
    rw [e1] at z
    simp only [R.bind_ok] at z
    intro F' H' fp' v f g val
    cases d <;> try exact z.elim
    rename_i n
    by_cases hl : n ≤ (LIM : Int) ∧ -(LIM : Int) ≤ n
    · simp only [rgD, if_pos hl, R.lift_some, items] at z
      obtain rfl := rf_int (val.rf g.st.sub)
      have h62 := lim62
      exact ⟨n, rfl, by omega, by omega, z F' H' fp' _ (go_app g fun _ z => z.elim) wk_range⟩
    · simp only [rgD, if_neg hl] at z
      exact z.elim
theorem si_rg2 {ra rb : Env → R D} {tg a b : Expr} {p pos : Pos} {q1 q2 : Bool} {Γ Γ1 Γ2 : Gm} {m n : Nat} (hg : Gl X "range") (hm : X.mg "range" = none) (ha : SE X T W kp q1 ra a Γ m Γ1) (hb : SE X T W kp q2 rb b Γ1 n Γ2) (hs : own m = true ∨ q2 = true) (h2 : ns a = true) (h3 : ns b = true) :
    SI X T W kp (q1 && q2) (fun e => (ra e).bind fun x e1 => (rb e1).bind fun y e2 => R.lift (rg2D x y) e2) tg (.Call (.Name "range" p) [a, b] [] pos) Γ Γ2 := by
  have hst : starEach [a, b] X.env = [(false, eval a X.env), (false, eval b X.env)] := by rw [star_cons h2, star_cons h3]; rfl
  refine PI.mono (pi_range2 hg hm (pa_cons ha (pa_cons hb pa_nil (star_cons h3)) (star_cons h2)) hst (star_cons h3)) fun σ H RR z => ?_
  show tOp (fun v u H1 _ => ∃ i j : Int, [v, u] = [.int i, .int j] ∧ (-(2 ^ 62) ≤ i ∧ i < 2 ^ 62 ∧ -(2 ^ 62) ≤ j ∧ j < 2 ^ 62) ∧ RR (Itr i (j - i).toNat) H1) (rdE T W kp q1 ra Γ m Γ1) (rdE T W kp q2 rb Γ1 n Γ2) σ H (fun _ _ => True)
  obtain ⟨e, F, fp, s, z⟩ := z
  refine ⟨e, F, fp, s, ?_⟩
  dsimp only at z
  cases e1 : ra e with
  | bad => rw [e1] at z; exact z
  | exc y e' => rw [e1] at z; exact z
  | ok d e' =>
    rw [e1] at z
    simp only [R.bind_ok] at z
    intro F1 H1 fp1 v f g val
    refine ⟨e', F1, fp1, g.st, ?_⟩
    cases e2 : rb e' with
    | bad => rw [e2] at z; exact z
    | exc y e'' => rw [e2] at z; exact XW.back z g
    | ok d2 e'' =>
      rw [e2] at z
      simp only [R.bind_ok] at z
      intro F2 H2 fp2 u f2 g2 val2
      cases d <;> cases d2 <;> try exact z.elim
      rename_i x y
      by_cases hl : (y ≤ (LIM : Int) ∧ -(LIM : Int) ≤ y) ∧ x ≤ (LIM : Int) ∧ -(LIM : Int) ≤ x
      · simp only [rg2D, if_pos hl, R.lift_some, items] at z
        have val' := val.stay g2.ch g.dis hs (hs.imp own_ne id)
        obtain rfl := rf_int (val'.rf g2.st.sub)
        obtain rfl := rf_int (val2.rf g2.st.sub)
        have h62 := lim62
        refine ⟨x, y, rfl, by omega, z F2 H2 fp2 _ (go_app (Go.trans g g2 val.cells) fun _ z => z.elim) wk_range⟩
      · simp only [rg2D, if_neg hl] at z
        exact z.elim
end
end Z

/-! Z11: for, while. -/
namespace Z
open PySem L2 PyProof.Rows
section
variable {X : Cx} {T : Tb} {W : WX} {kp : List Nat} {Rt : RT}
def nset : Expr → Bool
  | .Set .. => false
  | _ => true
theorem set_ok {e : Expr} {env : PySem.Env} (h : nset e = true) : ∀ x, foldedSetIterable e env x = pure x := by
  intro x
  cases e <;> first
    | rfl
    | (simp [nset] at h)
structure ForOk (O Ob : Out) (Γi : Gm) : Prop where
  nx : leO (some Γi) Ob.nx
  ct : leO (some Γi) Ob.ct
  bk : leO O.nx Ob.bk
  out : leO O.nx (some Γi)
theorem ss_for {ra : Env → R D} {rb : Env → RS} {tg it : Expr} {body : List Stmt} {pos : Pos} {q : Bool} {Γ Γ1 Γi : Gm} {t : Z.T} {Ob O : Out} (hp : PassesOwn (model X.prog X.w) X.A X.env X.xe) (hc : X.calm = true)
    (hi : SI X T W kp q ra tg it Γ Γ1) (hg : PG X tg (gT T.K t)) (hb : SSs X T W kp Rt rb body (tgtG t 1 Γi) Ob) (l1 : leG Γi Γ1) (f : ForOk O Ob Γi) (ht : ∀ i ∈ t.is, i < Γi.length) (hr : ∀ i ∈ t.is, i ∉ Rt.ro) (hs : nset it = true) :
    SS X T W kp Rt (fun e => (ra e).st fun x e1 => match items x with | none => .bad | some xs => forL t rb xs e1) (.For tg it body [] pos) Γ O := by
  refine PS.mono (ps_for hp hc hi hg hb (set_ok hs)) fun DD σ H z => ?_
  obtain ⟨e, F, fp, s, z⟩ := z
  refine ⟨e, F, fp, s, ?_⟩
  dsimp only at z
  cases e1 : ra e with
  | bad => rw [e1] at z; exact z
  | exc y e' => rw [e1] at z; exact XWs.at_ z
  | ok d e' =>
    rw [e1] at z
    simp only [R.st_ok] at z ⊢
    cases e2 : items d with
    | none => rw [e2] at z; exact z.elim
    | some xs =>
      rw [e2] at z
      dsimp only at z ⊢
      intro F1 H1 fp1 J g wk
      refine for_it wk (fun n σ' H' => ∃ (e2 : Env) (F2 : Hp) (fp2 : Nat → AS), St T.K Γi e2.s σ' F2 H' fp2 ∧ Sub F1 F2 ∧ OutS T W kp Rt O σ' F2 H' fp2 DD (forL t rb (xs.drop n) e2)) ?_ (fun n σ' H' _ ⟨e2, F2, fp2, s2, sb, _⟩ => sb.trans s2.sub) ?_ ?_
      · obtain ⟨F2, fp2, g2, k2⟩ := g.weak l1 (fun _ z => z.elim)
        exact ⟨e', F2, fp2, g2.st, k2.sub, z.back g2.s⟩
      · rintro i v σ' H2 H3 hlt ⟨e2, F2, fp2, s2, sb, z2⟩ ⟨d2, hd2, y⟩
        obtain ⟨F3, s23, s3H, sH, nw, rv⟩ := y F2 sb s2.sub
        have hdrop : xs.drop i = d2 :: xs.drop (i + 1) := by
          rw [List.drop_eq_getElem_cons hlt]
          congr 1
          rw [List.getElem?_eq_getElem hlt] at hd2
          exact Option.some.inj hd2
        rw [hdrop] at z2
        simp only [forL] at z2
        cases e3 : asgT t d2 e2 with
        | none => rw [e3] at z2; exact z2.elim
        | some e3' =>
          rw [e3] at z2
          dsimp only at z2
          -- the heap with the new pair
          have s3 : St T.K Γi e2.s σ' F3 H3 fp2 := ⟨s3H, s2.lG, s2.le, fun j hj => by
            obtain ⟨d3, v3, ea, eb, r3⟩ := s2.at_ j hj
            refine ⟨d3, v3, ea, eb, RO.kept d3 _ v3 _ ⟨s23, fun a ha => ?_, fun a ha hn => ?_⟩ r3⟩
            · have := (s2.cells ⟨j, ha⟩).2
              cases eh : H2 a with
              | none => exact absurd eh this
              | some z => exact sH a z eh
            · cases ef : F3 a with
              | none => rfl
              | some z => exact ((s2.cells ⟨j, ha⟩).2 (nw a hn (by rw [ef]; simp))).elim, s2.dis, s2.dead⟩
          have g23 : GoS T.K Rt.ro Γi σ' F2 H2 fp2 e2.s σ' F3 H3 fp2 emp := ⟨s3, fun _ z => z.elim, ⟨s23, fun a o e _ => sH a o e, fun a e e' => .inr (nw a e e')⟩, fun a z => z.elim .inl fun z => z.elim, fun _ _ => rfl, rfl⟩
          refine tgt_put (ro := Rt.ro) s3 (Nat.le_refl 1) (RO.of1 (Nat.le_refl 1) rv) (fun _ z => z.elim) e3 ht hr fun σ4 fp4 s4 o4 hro hlen => ?_
          have g34 : GoS T.K Rt.ro (tgtG t 1 Γi) σ' F2 H2 fp2 e3'.s σ4 F3 H3 fp4 emp := ⟨s4, fun _ z => z.elim, g23.ch, fun a z => by
            rcases z with z | z
            · rcases o4 a z with z | z
              · exact .inl z
              · exact z.elim
            · exact z.elim, hro, hlen⟩
          refine ⟨e3', F3, fp4, s4, ?_⟩
          have fin : ∀ (e5 : Env) (o : Option Gm), leO (some Γi) o → OutS T W kp Rt O σ' F2 H2 fp2 DD (forL t rb (xs.drop (i + 1)) e5) → EndO T.K Rt.ro o σ4 F3 H3 fp4 e5.s (fun σ' H' => ∃ (e2 : Env) (F2 : Hp) (fp2 : Nat → AS), St T.K Γi e2.s σ' F2 H' fp2 ∧ Sub F1 F2 ∧ OutS T W kp Rt O σ' F2 H' fp2 DD (forL t rb (xs.drop (i + 1)) e2)) := by
            intro e5 o lo z5
            refine EndO.weak lo fun σ6 F6 H6 fp6 g6 => ?_
            exact ⟨e5, F6, fp6, g6.st, sb.trans (s23.trans g6.ch.sub), z5.back (g34.trans g6)⟩
          cases e4 : rb e3' with
          | nx e5 => rw [e4] at z2; exact fin e5 _ f.nx z2
          | ct e5 => rw [e4] at z2; exact fin e5 _ f.ct z2
          | bk e5 => rw [e4] at z2; exact EndO.back (EndO.weak f.bk z2) g34
          | rt d5 e5 => rw [e4] at z2; exact fun σ5 F5 H5 fp5 v5 f5 g5 r5 => z2 σ5 F5 H5 fp5 v5 f5 (g34.trans g5) r5
          | exc x5 e5 => rw [e4] at z2; exact XWs.back z2 g34
          | bad => rw [e4] at z2; exact z2
      · rintro σ' H2 ⟨e2, F2, fp2, s2, sb, z2⟩
        rw [List.drop_of_length_le (Nat.le_refl _)] at z2
        exact EndO.weak f.out z2 σ' F2 H2 fp2 (.refl s2)
theorem ss_while {rc : Env → R D} {rb : Env → RS} {c : Expr} {body : List Stmt} {pos : Pos} {q : Bool} {Γ Γc Γi : Gm} {Ob O : Out} (hp : PassesOwn (model X.prog X.w) X.A X.env X.xe) (hc : ST X T W kp q rc c Γi Γc) (hb : SSs X T W kp Rt rb body Γc Ob) (l1 : leG Γi Γ) (f : ForOk O Ob Γi) (hx : leO O.nx (some Γc)) :
    SS X T W kp Rt (fun e => whL rc rb BIG e) (.While c body [] pos) Γ O := by
  refine PS.mono (ps_while hp hc hb) fun DD σ H z => ?_
  obtain ⟨e, F, fp, s, z⟩ := z
  refine ⟨fun n σ' H' => ∃ (e2 : Env) (F2 : Hp) (fp2 : Nat → AS), St T.K Γi e2.s σ' F2 H' fp2 ∧ OutS T W kp Rt O σ' F2 H' fp2 DD (whL rc rb n e2), ⟨BIG, ?_⟩, ?_⟩
  · obtain ⟨F2, fp2, g2, k2⟩ := (GoS.refl (ro := Rt.ro) s).weak l1 (fun _ z => z.elim)
    exact ⟨e, F2, fp2, g2.st, z.back g2⟩
  · rintro n σ1 H1 ⟨e2, F2, fp2, s2, z2⟩
    refine ⟨e2, F2, fp2, s2, ?_⟩
    cases n with
    | zero => exact z2.elim
    | succ n =>
      simp only [whL] at z2
      cases e1 : rc e2 with
      | bad => rw [e1] at z2; exact z2
      | exc y e' => rw [e1] at z2; exact XWs.at_ z2
      | ok d e' =>
        rw [e1] at z2
        simp only [R.st_ok] at z2 ⊢
        cases e3 : truth d with
        | none => rw [e3] at z2; exact z2.elim
        | some b =>
          rw [e3] at z2
          intro F' H' fp' g
          cases b with
          | false =>
            rw [if_neg Bool.false_ne_true]
            exact EndO.weak hx z2 σ1 F' H' fp' g.s
          | true =>
            rw [if_pos rfl]
            refine ⟨fun σ' H' => ∃ (e2 : Env) (F2 : Hp) (fp2 : Nat → AS), St T.K Γi e2.s σ' F2 H' fp2 ∧ OutS T W kp Rt O σ' F2 H' fp2 DD (whL rc rb n e2), fun σ' H' w => ⟨n, Nat.lt_succ_self n, w⟩, e', F', fp', g.st, ?_⟩
            dsimp only at z2
            have g0 : GoS T.K Rt.ro Γc σ1 F2 H1 fp2 e'.s σ1 F' H' fp' emp := g.s
            have fin : ∀ (e5 : Env) (o : Option Gm), leO (some Γi) o → OutS T W kp Rt O σ1 F2 H1 fp2 DD (whL rc rb n e5) → EndO T.K Rt.ro o σ1 F' H' fp' e5.s (fun σ' H' => ∃ (e2 : Env) (F2 : Hp) (fp2 : Nat → AS), St T.K Γi e2.s σ' F2 H' fp2 ∧ OutS T W kp Rt O σ' F2 H' fp2 DD (whL rc rb n e2)) := by
              intro e5 o lo z5
              refine EndO.weak lo fun σ6 F6 H6 fp6 g6 => ?_
              exact ⟨e5, F6, fp6, g6.st, z5.back (g0.trans g6)⟩
            cases e4 : rb e' with
            | nx e5 => rw [e4] at z2; exact fin e5 _ f.nx z2
            | ct e5 => rw [e4] at z2; exact fin e5 _ f.ct z2
            | bk e5 => rw [e4] at z2; exact EndO.back (EndO.weak f.bk z2) g0
            | rt d5 e5 => rw [e4] at z2; exact fun σ5 F5 H5 fp5 v5 f5 g5 r5 => z2 σ5 F5 H5 fp5 v5 f5 (g0.trans g5) r5
            | exc x5 e5 => rw [e4] at z2; exact XWs.back z2 g0
            | bad => rw [e4] at z2; exact z2
end
end Z

/-! Z12: comprehensions. -/
namespace Z
open PySem L2 PyProof.Rows
def W0 : WX := fun _ _ _ _ => False
section
variable {K : PySem.W.Frag} {F H : Hp}
theorem St.congr {Γ : Gm} {e e' : List D} {σ σ' : L2.St} {fp : Nat → AS} (s : St K Γ e σ F H fp) (h : ∀ i, 1 ≤ lvOf Γ i → e'[i]? = e[i]? ∧ σ'[i]? = σ[i]?) (hl : e'.length = e.length) (hs : σ'.length = σ.length) : St K Γ e' σ' F H fp :=
  ⟨s.sub, s.lG.trans hs.symm, (hl.trans s.le).trans hs.symm, fun i hi => by
    obtain ⟨d, v, e1, e2, r⟩ := s.at_ i hi
    obtain ⟨h1, h2⟩ := h i hi
    exact ⟨d, v, h1.trans e1, h2.trans e2, r⟩, s.dis, s.dead⟩
theorem lvOf_setG : ∀ (is : List Nat) (n : Nat) (Γ : Gm) (j : Nat), (∀ i ∈ is, i < Γ.length) → lvOf (setG is n Γ) j = if j ∈ is then n else lvOf Γ j
  | [], n, Γ, j, _ => by simp [setG]
  | i :: is, n, Γ, j, h => by
    unfold setG
    have hi := h i List.mem_cons_self
    rw [lvOf_setG is n _ j (fun k hk => by rw [List.length_set]; exact h k (List.mem_cons_of_mem _ hk)), lvOf_set hi]
    by_cases h1 : j ∈ is
    · rw [if_pos h1, if_pos (List.mem_cons_of_mem _ h1)]
    · rw [if_neg h1]
      by_cases h2 : j = i
      · rw [if_pos h2, if_pos (by rw [h2]; exact List.mem_cons_self)]
      · rw [if_neg h2, if_neg (by simp [h1, h2])]
theorem wipe_get (σ : L2.St) : ∀ (vs : List Nat) (j : Nat), j ∉ vs → (wipe σ vs)[j]? = σ[j]? := fun vs j h => wipe_out h
theorem wipe_in (σ : L2.St) : ∀ (vs : List Nat) (j : Nat), j ∈ vs → (wipe σ vs)[j]? = if j < σ.length then some none else none
  | [], j, h => by simp at h
  | v :: vs, j, h => by
    unfold wipe
    by_cases hv : j = v
    · subst hv
      rw [List.getElem?_set]
      simp [wipe_length]
    · rw [List.getElem?_set_ne (Ne.symm hv)]
      exact wipe_in σ vs j ((List.mem_cons.mp h).resolve_left hv)
theorem wipe_setσ {σ σ' : L2.St} {vs : List Nat} (h : ∀ j, j ∉ vs → σ'[j]? = σ[j]?) (hl : σ'.length = σ.length) : wipe σ' vs = wipe σ vs := by
  refine List.ext_getElem? fun j => ?_
  by_cases hj : j ∈ vs
  · rw [wipe_in _ _ _ hj, wipe_in _ _ _ hj, hl]
  · rw [wipe_get _ _ _ hj, wipe_get _ _ _ hj]; exact h j hj
theorem wipe_wipe (σ : L2.St) (vs : List Nat) : wipe (wipe σ vs) vs = wipe σ vs := wipe_setσ (fun j hj => wipe_get σ vs j hj) (wipe_length σ vs)
theorem restore_len : ∀ (is : List Nat) (e0 e : Env), (restore is e0 e).s.length = e.s.length
  | [], _, _ => rfl
  | i :: is, e0, e => by unfold restore; rw [restore_len is]; simp [Env.set]
theorem restore_out : ∀ (is : List Nat) (e0 e : Env) (j : Nat), j ∉ is → (restore is e0 e).s[j]? = e.s[j]?
  | [], _, _, _, _ => rfl
  | i :: is, e0, e, j, h => by
    simp only [List.mem_cons, not_or] at h
    unfold restore
    rw [restore_out is e0 _ j h.2]
    simp [Env.set, List.getElem?_set_ne (Ne.symm h.1)]
theorem restore_in : ∀ (is : List Nat) (e0 e : Env) (j : Nat), j ∈ is → e.s.length = e0.s.length → (restore is e0 e).s[j]? = e0.s[j]?
  | [], _, _, _, h, _ => by simp at h
  | i :: is, e0, e, j, h, hl => by
    unfold restore
    by_cases h1 : j ∈ is
    · exact restore_in is e0 _ j h1 (by simp [Env.set, hl])
    · have hj : j = i := (List.mem_cons.mp h).resolve_right h1
      subst hj
      rw [restore_out is e0 _ j h1]
      simp only [Env.set]
      by_cases hlt : j < e.s.length
      · rw [List.getElem?_set_self hlt]
        rw [List.getElem?_eq_getElem (by omega : j < e0.s.length)]
        rfl
      · rw [List.getElem?_eq_none (by simp; omega), List.getElem?_eq_none (by omega)]
theorem restore_same {is : List Nat} {e0 e : Env} (hl : e.s.length = e0.s.length) (h : ∀ j, j ∉ is → e.s[j]? = e0.s[j]?) : (restore is e0 e).s = e0.s := by
  refine List.ext_getElem? fun j => ?_
  by_cases hj : j ∈ is
  · exact restore_in is e0 e j hj hl
  · rw [restore_out is e0 e j hj]; exact h j hj
theorem setAll_out : ∀ (is : List Nat) (xs : List D) (e : Env) (j : Nat), j ∉ is → (setAll is xs e).s[j]? = e.s[j]?
  | [], _, _, _, _ => by simp [setAll]
  | _ :: _, [], _, _, _ => by simp [setAll]
  | i :: is, x :: xs, e, j, h => by
    simp only [List.mem_cons, not_or] at h
    simp only [setAll]
    rw [setAll_out is xs _ j h.2]
    simp [Env.set, List.getElem?_set_ne (Ne.symm h.1)]
theorem setAll_len : ∀ (is : List Nat) (xs : List D) (e : Env), (setAll is xs e).s.length = e.s.length
  | [], _, _ => by simp [setAll]
  | _ :: _, [], _ => by simp [setAll]
  | i :: is, x :: xs, e => by simp only [setAll]; rw [setAll_len is xs]; simp [Env.set]
theorem asgT_out {t : T} {d : D} {e e' : Env} (h : asgT t d e = some e') : e'.s.length = e.s.length ∧ ∀ j, j ∉ t.is → e'.s[j]? = e.s[j]? := by
  cases t with
  | n i =>
    simp only [asgT, Option.some.injEq] at h
    subst h
    refine ⟨by simp [Env.set], fun j hj => ?_⟩
    simp only [T.is, List.mem_singleton] at hj
    simp [Env.set, List.getElem?_set_ne (Ne.symm hj)]
  | tp is =>
    cases d <;> try (simp [asgT] at h; done)
    simp only [asgT] at h
    split at h <;> simp only [reduceCtorEq, Option.some.injEq] at h
    subst h
    exact ⟨setAll_len _ _ _, fun j hj => setAll_out _ _ _ j hj⟩
/-- a cell that nobody holds is changed -/
theorem St.upd_out {Γ : Gm} {e : List D} {σ : L2.St} {fp : Nat → AS} {p : Addr} {o : HO} (s : St K Γ e σ F H fp) (h1 : F p = none) (h2 : ¬ Own fp p) : St K Γ e σ F (upd H p o) fp := by
  refine ⟨fun a x ea => ?_, s.lG, s.le, fun i hi => ?_, s.dis, s.dead⟩
  · have : a ≠ p := by rintro rfl; rw [h1] at ea; cases ea
    rw [upd_ne this]; exact s.sub a x ea
  · obtain ⟨d, v, e1, e2, r⟩ := s.at_ i hi
    exact ⟨d, v, e1, e2, RO.kept d _ v _ ⟨Sub.refl _, fun a ha => upd_ne (by rintro rfl; exact h2 ⟨i, ha⟩), fun a _ h => h⟩ r⟩
end
section
variable (T : Tb) (W : WX) (kp : List Nat)
/-- the tests of a clause -/
def rdB (q : Bool) (r : Env → R Bool) (Γ Γ' : Gm) : TT := fun σ H Q => ∃ e F fp, St T.K Γ e.s σ F H fp ∧ match r e with
  | .ok b e' => ∀ F' H' fp', Go T.K q Γ' σ F H fp e.s e'.s F' H' fp' emp → Q b H'
  | .exc x e' => XW T W kp σ F H fp x e'.s
  | .bad => False
end
def STs (X : Cx) (T : Tb) (W : WX) (kp : List Nat) (q : Bool) (r : Env → R Bool) (xs : List Expr) (Γ Γ' : Gm) : Prop := PTs X xs (rdB T W kp q r Γ Γ')
theorem PTs.mono {X : Cx} {x : List Expr} {t t' : TT} (h : PTs X x t) (m : ∀ σ H Q, t' σ H Q → t σ H Q) : PTs X x t' := ⟨fun pins s σ H Q I z => h.run pins s σ H Q I (m σ H Q z)⟩
section
variable {X : Cx} {T : Tb} {W : WX} {kp : List Nat}
theorem sts_nil {Γ : Gm} {q : Bool} : STs X T W kp q (fun e => .ok true e) [] Γ Γ :=
  PTs.mono pts_nil fun σ H Q ⟨e, F, fp, s, z⟩ => z F H fp (Go.refl s)
theorem sts_one {c : Expr} {q : Bool} {rc : Env → R D} {Γ Γ' : Gm} (h : ST X T W kp q rc c Γ Γ') : STs X T W kp q (fun e => (rc e).bind fun x e1 => match truth x with | some true => .ok true e1 | some false => .ok false e1 | none => .bad) [c] Γ Γ' := by
  refine PTs.mono (pts_one h) fun σ H Q z => ?_
  obtain ⟨e, F, fp, s, z⟩ := z
  refine ⟨e, F, fp, s, ?_⟩
  dsimp only at z
  cases e1 : rc e with
  | bad => rw [e1] at z; exact z
  | exc y e' => rw [e1] at z; exact z
  | ok d e' =>
    rw [e1] at z
    simp only [R.bind_ok] at z ⊢
    cases e2 : truth d with
    | none => rw [e2] at z; exact z
    | some b =>
      rw [e2] at z
      cases b <;> exact z
/-- what a clause makes of one item -/
def oneD (rt : Env → R Bool) (rl : Env → R D) : Env → R (List D) := fun e3 => (rt e3).bind fun b e4 => if b = true then (rl e4).bind fun z e5 => .ok [z] e5 else .ok [] e4
/-- the static conditions of a comprehension -/
structure LcOk (t : Z.T) (vs : List Nat) (Γ1 Γm Γ2 Γ3 : Gm) (m : Nat) : Prop where
  lt : ∀ i ∈ t.is, i < Γm.length
  sub : ∀ i ∈ t.is, i ∈ vs
  le1 : leG Γm Γ1
  dead : ∀ i ∈ vs, lvOf Γm i = 0
  le2 : leG Γm (setG t.is 0 Γ2)
  le3 : leG Γm (setG t.is 0 Γ3)
  own : own m = true
  n99 : m ≠ 99
theorem comp_turn {t : Z.T} {f : Env → R (List D)} {d : D} {xs : List D} {e e6 : Env} {zs' : List D} (h : compL (turnD t f) (d :: xs) e = .ok zs' e6) : ∃ e3 zs1 e5 zs2, asgT t d e = some e3 ∧ f e3 = .ok zs1 e5 ∧ compL (turnD t f) xs (restore t.is e e5) = .ok zs2 e6 ∧ zs' = zs1 ++ zs2 := by
  simp only [compL] at h
  generalize compL (turnD t f) xs = g at h ⊢
  unfold turnD at h
  cases e3 : asgT t d e with
  | none => rw [e3] at h; cases h
  | some e3' =>
    rw [e3] at h
    dsimp only at h
    cases e4 : f e3' with
    | bad => rw [e4] at h; cases h
    | exc y e'' => rw [e4] at h; cases h
    | ok zs1 e5 =>
      rw [e4] at h
      simp only [R.bind_ok] at h
      cases e5' : g (restore t.is e e5) with
      | bad => rw [e5'] at h; cases h
      | exc y e'' => rw [e5'] at h; cases h
      | ok zs2 e6' =>
        rw [e5'] at h
        simp only [R.bind_ok] at h
        injection h with h1 h2
        subst h2
        exact ⟨e3', zs1, e5, zs2, rfl, e4, e5', h1.symm⟩
theorem St.killAll {K : PySem.W.Frag} {e : List D} {σ : L2.St} {F H : Hp} : ∀ (is : List Nat) {Γ : Gm} {fp : Nat → AS}, St K Γ e σ F H fp → (∀ i ∈ is, i < Γ.length) → ∃ fp', St K (setG is 0 Γ) e σ F H fp' ∧ ∀ a, Own fp' a → Own fp a
  | [], _, fp, s, _ => ⟨fp, s, fun _ z => z⟩
  | i :: is, Γ, fp, s, h => by
    obtain ⟨fp', s', o⟩ := St.killAll is (s.kill (h i List.mem_cons_self)) (fun j hj => by rw [List.length_set]; exact h j (List.mem_cons_of_mem _ hj))
    refine ⟨fp', s', fun a z => ?_⟩
    rcases own_putF (o a z) with z | ⟨j, _, z⟩
    · exact z.elim
    · exact ⟨j, z⟩
/-- a turn's end: the clause's names get their old values back -/
theorem lc_turn {K : PySem.W.Frag} {qs : Bool} {t : Z.T} {vs : List Nat} {Γm Γx : Gm} {σ σ4 : L2.St} {F2 H2 F3 H3 F5 H5 : Hp} {fp2 fp4 fp6 : Nat → AS} {f : AS} {e2 e3 e5 : Env} {d2 : D}
    (s2 : St K Γm e2.s σ F2 H2 fp2) (s23 : Sub F2 F3) (sH : ∀ a o, H2 a = some o → H3 a = some o) (nw : ∀ a, F2 a = none → F3 a ≠ none → H2 a = none) (o4 : ∀ a, Own fp4 a → Own fp2 a) (ha3 : asgT t d2 e2 = some e3)
    (h4 : ∀ j, j ∉ vs → σ4[j]? = σ[j]?) (hl4 : σ4.length = σ.length) (sub : ∀ i ∈ t.is, i ∈ vs) (dead : ∀ i ∈ vs, lvOf Γm i = 0) (le : leG Γm (setG t.is 0 Γx)) (lt : ∀ i ∈ t.is, i < Γm.length)
    (g : Go K qs Γx σ4 F3 H3 fp4 e3.s e5.s F5 H5 fp6 f) (hf : ∀ a, f a → F5 a = none ∧ H5 a ≠ none) :
    ∃ F6 fp7, Go K qs Γm σ F2 H2 fp2 e2.s (restore t.is e2 e5).s F6 H5 fp7 f ∧ Kept f F5 H5 F6 H5 := by
  obtain ⟨a1, a2⟩ := asgT_out ha3
  obtain ⟨fpk, sk, ok_⟩ := St.killAll t.is g.st (fun i hi => by rw [← setG_len t.is 0 Γx, ← le.1]; exact lt i hi)
  obtain ⟨F6, fp7, sw, cw, ow⟩ := sk.weak le
  have lenx : e5.s.length = e2.s.length := by rw [g.st.le, hl4, s2.le]
  have st : St K Γm (restore t.is e2 e5).s σ F6 H5 fp7 := sw.congr (fun i hi => by
    have hv : i ∉ vs := fun z => by rw [dead i z] at hi; omega
    exact ⟨restore_out t.is e2 e5 i fun z => hv (sub i z), (h4 i hv).symm⟩) (restore_len _ _ _) hl4.symm
  have cc : Ch (Own fp2) (Wr qs fp2) F2 H2 F3 H3 := ⟨s23, fun a o e _ => sH a o e, fun a z z' => .inr (nw a z z')⟩
  refine ⟨F6, fp7, ⟨fun hq => ?_, st, fun a z1 z2 => g.dis a z1 (ok_ a (ow a z2)), ?_, fun a z => ?_⟩, cw.kept (fun _ z => z.elim) (fun a z1 z2 => g.dis a z1 (ok_ a z2)) hf⟩
  · have hs := g.same hq
    exact restore_same lenx fun j hj => by rw [hs]; exact a2 j hj
  · refine Ch.trans cc (fun _ z => z.2) (fun a z => .inl (o4 a z)) (?_ : Ch (Own fp4) (Wr qs fp4) F3 H3 F6 H5) (fun _ z => z.2) (fun a z y => ⟨z.1, y⟩)
    exact Ch.trans g.ch (fun _ z => z.2) (fun a z => g.grow a (.inl (ok_ a z))) cw (fun _ z => z.elim) fun _ z => z.elim
  · have : Own fp4 a ∨ H3 a = none := by
      rcases z with z | z
      · exact g.grow a (.inl (ok_ a (ow a z)))
      · exact g.grow a (.inr z)
    rcases this with z | z
    · exact .inl (o4 a z)
    · refine .inr ?_
      cases eh : H2 a with
      | none => rfl
      | some o => rw [sH a o eh] at z; cases z
/-- the new list is changed -/
theorem Go.updD {K : PySem.W.Frag} {q : Bool} {Γ : Gm} {σ : L2.St} {F H F' H' : Hp} {fp fp' : Nat → AS} {e e' : List D} {f f' : AS} {p : Addr} {o : HO} (g : Go K q Γ σ F H fp e e' F' H' fp' f) (hf : F' p = none) (hp : f p) (hff : ∀ a, f' a → f a) (hk : ∀ x, H p = some x → Wr q fp p) : Go K q Γ σ F H fp e e' F' (upd H' p o) fp' f' :=
  ⟨g.same, g.st.upd_out hf fun z => g.dis p hp z, fun a z => g.dis a (hff a z), ⟨g.ch.sub, fun a x hx hw => by
    have : a ≠ p := by rintro rfl; exact hw (hk x hx)
    rw [upd_ne this]
    exact g.ch.keep a x hx hw, g.ch.new⟩, fun a z => g.grow a (z.imp id (hff a))⟩
theorem rd_lc {ri : Env → R D} {rt : Env → R Bool} {rl : Env → R D} {t : Z.T} {vs : List Nat} {q1 q2 q3 : Bool} {Γ Γ1 Γm Γ2 Γ3 : Gm} {m : Nat} {σ : L2.St} {H : Hp} {Q : VK} (ok : LcOk t vs Γ1 Γm Γ2 Γ3 m)
    (z : rdE T W kp (q1 && (q2 && q3)) (fun e => (ri e).bind fun x e1 => match items x with
      | none => .bad
      | some xs => (compL (turnD t (oneD rt rl)) xs e1).nox.bind fun zs e6 => R.lift (guardL zs.length (.lst zs)) e6) Γ (up m) Γm σ H Q) :
    tLc (rdI T W kp q1 ri Γ Γ1) (gT T.K t) (rdB T W0 [] q2 rt (tgtG t 1 Γm) Γ2) (rdE T W0 [] q3 rl Γ2 m Γ3) vs σ H Q := by
  obtain ⟨e, F, fp, s, z⟩ := z
  refine ⟨e, F, fp, s, ?_⟩
  dsimp only at z
  cases e1 : ri e with
  | bad => rw [e1] at z; exact z
  | exc y e' => rw [e1] at z; exact z
  | ok d e' =>
    rw [e1] at z
    simp only [R.bind_ok] at z ⊢
    cases e2 : items d with
    | none => rw [e2] at z; exact z.elim
    | some xs =>
      rw [e2] at z
      dsimp only at z ⊢
      intro F1 H1 fp1 J g1 wk D hD
      have hdn : dn (up m) = m := (dn_up (own_pos ok.own) (by have := ok.own; simp [Z.own] at this; exact this.2)).resolve_right fun w => ok.n99 w.1
      have hup : 2 ≤ up m := by have := own_pos ok.own; unfold up; split <;> omega
      have F1D : F1 D = none := by
        cases ef : F1 D with
        | none => rfl
        | some o => have := g1.st.sub _ _ ef; rw [hD] at this; cases this
      have own1D : ¬ Own fp1 D := fun w => (g1.st.cells w).2 hD
      have own0D : Own fp D ∨ H D = none := Grow.none (f := emp) (g := emp) g1.ch (fun _ z => z.2) hD
      have keepD : ∀ x, H D = some x → Wr (q1 && (q2 && q3)) fp D := fun x hx => by
        refine Classical.byContradiction fun n => ?_
        have := g1.ch.keep D x hx fun w => n ⟨by rw [w.1]; rfl, w.2⟩
        rw [hD] at this; cases this
      refine lc_it wk (fun n H' => ∃ (e2 : Env) (F2 : Hp) (fp2 : Nat → AS) (zs : List Z.D) (acc : List V) (ga : AS), Go T.K (q1 && (q2 && q3)) Γm σ F H fp e.s e2.s F2 H' fp2 (fun a => a = D ∨ ga a) ∧ Sub F1 F2 ∧ H' D = some (.lst acc) ∧ F2 D = none ∧ ¬ ga D ∧ ROL T.K F2 H' zs m acc ga ∧
        ∃ zs' e6, compL (turnD t (oneD rt rl)) (xs.drop n) e2 = .ok zs' e6 ∧ match R.lift (guardL (zs ++ zs').length (.lst (zs ++ zs'))) e6 with
          | .ok dd e7 => ∀ F' H' fp' v f, Go T.K (q1 && (q2 && q3)) Γm σ F H fp e.s e7.s F' H' fp' f → Val T.K (up m) F' H' dd v f → Q v H'
          | .exc x e' => XW T W kp σ F H fp x e'.s
          | .bad => False) ?_ ?_ ?_ ?_
      · obtain ⟨F2, fp2, g2, k2⟩ := g1.weak ok.le1 (fun _ z => z.elim)
        cases e3 : compL (turnD t (oneD rt rl)) xs e' with
        | bad => rw [e3] at z; exact z.elim
        | exc y e'' => rw [e3] at z; exact z.elim
        | ok zs' e6 =>
          rw [e3] at z
          simp only [R.nox_ok, R.bind_ok] at z
          have F2D : F2 D = none := by
            cases ef : F2 D with
            | none => rfl
            | some o => have := g2.st.sub _ _ ef; rw [hD] at this; cases this
          have own2D : ¬ Own fp2 D := fun w => (g2.st.cells w).2 hD
          refine ⟨e', F2, fp2, [], [], emp, ⟨fun hq => g2.same (and_tt hq).1, g2.st.upd_out F2D own2D, fun a z1 z2 => ?_, ⟨g2.ch.sub, fun a x hx hw => ?_, g2.ch.new⟩, fun a z1 => ?_⟩, k2.sub, upd_same, F2D, fun z => z, by simp only [ROL]; exact ⟨trivial, trivial⟩, zs', e6, by rw [List.drop_zero]; exact e3, by rw [List.nil_append]; exact z⟩
          · rcases z1 with rfl | z1
            · exact own2D z2
            · exact z1.elim
          · have : a ≠ D := by rintro rfl; exact hw (keepD x hx)
            rw [upd_ne this]
            exact g2.ch.keep a x hx fun w => hw ⟨by rw [w.1]; rfl, w.2⟩
          · rcases z1 with z1 | rfl | z1
            · exact g2.grow a (.inl z1)
            · exact own0D
            · exact z1.elim
      · rintro i H' _ ⟨e2, F2, fp2, zs, acc, ga, g2, s2, _⟩
        exact s2.trans g2.st.sub
      · rintro i v H2 H3 hlt ⟨e2, F2, fp2, zs, acc, ga, g2, sb, hHD, hFD, ngD, rl0, zs', e6, hcomp, zc⟩ ⟨d2, hd2, y⟩
        obtain ⟨F3, s23, s3H, sH, nw, rv⟩ := y F2 sb g2.st.sub
        have hdrop : xs.drop i = d2 :: xs.drop (i + 1) := by
          rw [List.drop_eq_getElem_cons hlt]
          congr 1
          rw [List.getElem?_eq_getElem hlt] at hd2
          exact Option.some.inj hd2
        rw [hdrop] at hcomp
        simp only [compL] at hcomp
        obtain ⟨e3, zs1, e5, zs2, ha3, hone, hrest, rfl⟩ := comp_turn hcomp
        have own2D : ¬ Own fp2 D := fun w => g2.dis D (.inl rfl) w
        have s3 : St T.K Γm e2.s σ F3 H3 fp2 := ⟨s3H, g2.st.lG, g2.st.le, fun j hj => by
          obtain ⟨d3, v3, ea, eb, r3⟩ := g2.st.at_ j hj
          refine ⟨d3, v3, ea, eb, RO.kept d3 _ v3 _ ⟨s23, fun a ha => ?_, fun a ha hn => ?_⟩ r3⟩
          · have := (g2.st.cells ⟨j, ha⟩).2
            cases eh : H2 a with
            | none => exact absurd eh this
            | some z => exact sH a z eh
          · cases ef : F3 a with
            | none => rfl
            | some z => exact ((g2.st.cells ⟨j, ha⟩).2 (nw a hn (by rw [ef]; simp))).elim, g2.st.dis, g2.st.dead⟩
        have s3w : St T.K Γm e2.s (wipe σ vs) F3 H3 fp2 := s3.congr (fun j hj => ⟨rfl, wipe_get σ vs j fun z => by rw [ok.dead j z] at hj; omega⟩) rfl (wipe_length σ vs)
        have gaC := ROL.cells _ _ _ _ rl0
        have lenA := rol_len rl0
        refine tgt_put (ro := (List.range σ.length).filter (fun j => decide (j ∉ vs))) s3w (Nat.le_refl 1) (RO.of1 (Nat.le_refl 1) rv) (fun _ z => z.elim) ha3 ok.lt (fun j hj z => by
          simp only [List.mem_filter, decide_eq_true_eq] at z
          exact z.2 (ok.sub j hj)) fun σ4 fp4 s4 o4 hro hlen4 => ?_
        have hl4 : σ4.length = σ.length := hlen4.trans (wipe_length σ vs)
        have h4 : ∀ j, j ∉ vs → σ4[j]? = σ[j]? := fun j hj => by
          by_cases hlt2 : j < σ.length
          · rw [hro j (by simp [hlt2, hj]), wipe_get σ vs j hj]
          · rw [List.getElem?_eq_none (by omega), List.getElem?_eq_none (by omega)]
        have o4' : ∀ a, Own fp4 a → Own fp2 a := fun a z => (o4 a z).elim id fun z => z.elim
        have fin : ∀ (Γx : Gm) (zs1 : List Z.D) (e5 : Env) (F5 H5 : Hp) (fp6 : Nat → AS) (us : List V) (f : AS), leG Γm (setG t.is 0 Γx) → Go T.K (q2 && q3) Γx σ4 F3 H3 fp4 e3.s e5.s F5 H5 fp6 f → ROL T.K F5 H5 zs1 m us f →
            compL (turnD t (oneD rt rl)) (xs.drop (i + 1)) (restore t.is e2 e5) = .ok zs2 e6 →
            (match R.lift (guardL (zs ++ (zs1 ++ zs2)).length (.lst (zs ++ (zs1 ++ zs2)))) e6 with
              | .ok dd e7 => ∀ F' H' fp' v f, Go T.K (q1 && (q2 && q3)) Γm σ F H fp e.s e7.s F' H' fp' f → Val T.K (up m) F' H' dd v f → Q v H'
              | .exc x e' => XW T W kp σ F H fp x e'.s
              | .bad => False) → ∃ (e2 : Env) (F2 : Hp) (fp2 : Nat → AS) (ga : AS), Go T.K (q1 && (q2 && q3)) Γm σ F H fp e.s e2.s F2 H5 fp2 (fun a => a = D ∨ ga a) ∧ Sub F1 F2 ∧ H5 D = some (.lst acc) ∧ F2 D = none ∧ ¬ ga D ∧ ROL T.K F2 H5 (zs ++ zs1) m (acc ++ us) ga ∧
            ∃ zs' e6, compL (turnD t (oneD rt rl)) (xs.drop (i + 1)) e2 = .ok zs' e6 ∧ match R.lift (guardL ((zs ++ zs1) ++ zs').length (.lst ((zs ++ zs1) ++ zs'))) e6 with
              | .ok dd e7 => ∀ F' H' fp' v f, Go T.K (q1 && (q2 && q3)) Γm σ F H fp e.s e7.s F' H' fp' f → Val T.K (up m) F' H' dd v f → Q v H'
              | .exc x e' => XW T W kp σ F H fp x e'.s
              | .bad => False := by
          intro Γx zs1 e5 F5 H5 fp6 us f le g rz hrest zc
          have hf := ROL.cells _ _ _ _ rz
          obtain ⟨F6, fp7, g7, k7⟩ := lc_turn g2.st s23 sH nw o4' ha3 h4 hl4 ok.sub ok.dead le ok.lt g hf
          have hcc : ∀ a, (a = D ∨ ga a) → F2 a = none ∧ H2 a ≠ none := by
            rintro a (rfl | z)
            · exact ⟨hFD, by rw [hHD]; simp⟩
            · exact gaC a z
          have gg := Go.trans g2 g7 hcc
          have kp7 := g7.ch.kept (fun _ z => z.2) g2.dis hcc
          have nf : ∀ a, f a → ¬ (a = D ∨ ga a) := fun a z1 z2 => by
            rcases g7.grow a (.inr z1) with z | z
            · exact g2.dis a z2 z
            · exact (hcc a z2).2 z
          refine ⟨restore t.is e2 e5, F6, fp7, fun a => ga a ∨ f a, ?_, sb.trans g7.ch.sub, ?_, kp7.out D (.inl rfl) hFD, ?_, ?_, zs2, e6, hrest, ?_⟩
          · have eq : ((q1 && (q2 && q3)) && (q2 && q3)) = (q1 && (q2 && q3)) := by cases q1 <;> cases q2 <;> cases q3 <;> rfl
            rw [eq] at gg
            refine go_app gg fun a z => ?_
            rcases z with z | z | z
            · exact .inl (.inl z)
            · exact .inl (.inr z)
            · exact .inr z
          · rw [kp7.at_ D (.inl rfl)]; exact hHD
          · rintro (z | z)
            · exact ngD z
            · exact nf D z (.inl rfl)
          · exact ROL.app (ROL.kept _ _ _ _ (kp7.mono fun a z => .inr z) rl0) (ROL.kept _ _ _ _ k7 rz) fun a z1 z2 => nf a z2 (.inr z1)
          · rw [List.append_assoc]; exact zc
        refine ⟨?_, e3, F3, fp4, s4, ?_⟩
        · rw [wipe_setσ h4 hl4]
        · have gst : ∀ {q : Bool}, q = q := rfl
          unfold oneD at hone
          cases hrt : rt e3 with
          | bad => rw [hrt] at hone; cases hone
          | exc y e'' => rw [hrt] at hone; cases hone
          | ok b e4 =>
            rw [hrt] at hone
            simp only [R.bind_ok] at hone
            intro F4 H4 fp5 g34
            cases b with
            | false =>
              rw [if_neg Bool.false_ne_true] at hone ⊢
              injection hone with h1 h2
              subst h1 h2
              obtain ⟨e9, F9, fp9, ga9, w1, w2, w3, w4, w5, w6, w7⟩ := fin Γ2 [] e4 F4 H4 fp5 [] emp ok.le2 g34.left (by simp only [ROL]; exact ⟨trivial, trivial⟩) hrest zc
              rw [List.append_nil] at w6 w7
              rw [List.append_nil] at w6
              exact ⟨e9, F9, fp9, zs, acc, ga9, w1, w2, w3, w4, w5, w6, w7⟩
            | true =>
              rw [if_pos rfl] at hone ⊢
              refine ⟨e4, F4, fp5, g34.st, ?_⟩
              cases hrl : rl e4 with
              | bad => rw [hrl] at hone; cases hone
              | exc y e'' => rw [hrl] at hone; cases hone
              | ok z e5' =>
                rw [hrl] at hone
                simp only [R.bind_ok] at hone
                injection hone with h1 h2
                subst h1 h2
                intro F5 H5 fp6 v f g45 val
                have gg := Go.then_ g34 g45
                have rz : ROL T.K F5 H5 [z] m [v] f := by
                  simp only [ROL]
                  exact ⟨v, [], f, emp, rfl, val.ro ok.own, ⟨rfl, rfl⟩, fun _ _ z => z, by funext a; simp [emp]⟩
                obtain ⟨e9, F9, fp9, ga9, w1, w2, w3, w4, w5, w6, w7⟩ := fin Γ3 [z] e5' F5 H5 fp6 [v] f ok.le3 gg rz hrest zc
                have hlen : (zs ++ [z] ++ zs2).length ≤ LIM := by
                  refine Classical.byContradiction fun n => ?_
                  rw [← List.append_assoc] at zc
                  unfold guardL at zc
                  rw [if_neg n] at zc
                  exact zc
                refine ⟨acc, w3, ?_, e9, F9, fp9, zs ++ [z], acc ++ [v], ga9, w1.updD w4 (.inl rfl) (fun _ z => z) keepD, w2, upd_same, w4, w5, ?_, w7⟩
                · rw [lenA]
                  simp only [List.length_append] at hlen
                  exact Nat.lt_of_le_of_lt (by omega : zs.length ≤ LIM) (by decide)
                · exact ROL.kept _ _ _ _ ⟨Sub.refl _, fun a z => upd_ne (by rintro rfl; exact w5 z), fun _ _ z => z⟩ w6
      · rintro H' ⟨e2, F2, fp2, zs, acc, ga, g2, sb, hHD, hFD, ngD, rl0, zs', e6, hcomp, zc⟩
        rw [List.drop_of_length_le (Nat.le_refl _)] at hcomp
        simp only [compL] at hcomp
        injection hcomp with h1 h2
        subst h1 h2
        rw [List.append_nil] at zc
        by_cases hl : zs.length ≤ LIM
        · rw [guardL_pos hl] at zc
          refine zc F2 H' fp2 (.ref D) _ g2 (Val.of (by omega) ?_)
          unfold RO
          rw [if_neg (by omega)]
          exact ⟨D, acc, ga, rfl, hHD, hFD, ngD, by rw [hdn]; exact rl0, rfl⟩
        · unfold guardL at zc
          rw [if_neg hl] at zc
          exact zc.elim
end
end Z

/-! Z13: zip and enumerate over lists, tuples and texts. -/
namespace Z
open PySem PySem.Spec L2 PyProof.Rows
/-- what is drawn from: a list, a tuple, a text -/
inductive Src | l (a : Addr) | t (a : Addr) | s (z : Str)
namespace Src
def At (K : PySem.W.Frag) (H : Hp) : Src → List V → Prop
  | .l a, xs => SqL K H a xs
  | .t a, xs => SqT K H a xs
  | .s z, xs => xs = z.cps.toList.map fun c => V.str ⟨#[c]⟩
def cell : Src → List Addr
  | .l a => [a]
  | .t a => [a]
  | .s _ => []
def v : Src → V
  | .l a => .ref a
  | .t a => .ref a
  | .s z => .str z
def It : Src → Addr → Nat → Heap → Prop
  | .l a, it, i, h => h.IsListIter it a i
  | .t a, it, i, h => h.IsTupleIter it a i
  | .s z, it, i, h => ∃ t, h.IsStrIter it (strIterType z) z t i
end Src
section
variable {X : Cx} {pins : List (Addr × Obj)} {s : Shared} {σ : L2.St} {H : Hp}
theorem Src.it_at {r : Src} {it : Addr} {i : Nat} {h h' : Heap} (e : r.It it i h) (k : ∀ o, h.get? it = some o → h'.get? it = some o) : r.It it i h' := by
  cases r with
  | l a => exact Heap.IsListIter.at e k
  | t a => exact Heap.IsTupleIter.at e k
  | s z => obtain ⟨t, o, ho, r⟩ := e; exact ⟨t, o, k o ho, r⟩
theorem Src.it_obj {r : Src} {it : Addr} {i : Nat} {h : Heap} (e : r.It it i h) : ∃ o, h.get? it = some o ∧ ∀ v, o.data ≠ .cell v := by
  cases r with
  | l a => obtain ⟨o, ho, _, hd⟩ := e; exact ⟨o, ho, fun v q => by rw [hd] at q; cases q⟩
  | t a => obtain ⟨o, ho, _, hd⟩ := e; exact ⟨o, ho, fun v q => by rw [hd] at q; cases q⟩
  | s z => obtain ⟨t, o, ho, _, hd⟩ := e; exact ⟨o, ho, fun v q => by rw [hd] at q; cases q⟩
theorem Src.inj (I : Inv X pins σ H s) {r : Src} {xs ys : List V} (h : r.At X.K H xs) (h' : r.At X.K H ys) : xs = ys := by
  cases r with
  | l a => exact I.list_inj h h'
  | t a => exact I.tuple_inj h h'
  | s z => exact h.trans h'.symm
theorem draws_mono {P : Program} {w : World} {A : Around} {it : Addr} {fp : List Addr} {n : Nat} {P1 P2 : Nat → Value → Prop} {St1 : Nat → Heap → Prop} (D : Draws P w A it fp n P1 St1) (h : ∀ i v, P1 i v → P2 i v) : Draws P w A it fp n P2 St1 :=
  ⟨D.live, D.frame, fun i s Q E hi st hQ => D.item i s Q E hi st fun x h' tk p => hQ x h' tk (h i x p), D.done⟩
theorem Src.draws (I : Inv X pins σ H s) (hh : X.A.handled = none) {r : Src} {xs : List V} (h : r.At X.K H xs) {it : Addr} {i : Nat} (e : r.It it i s.heap) (ap : ∀ b ∈ r.cell, b ≠ it) :
    ∃ St1, Draws X.prog X.w X.A.in1 it (it :: r.cell) xs.length (fun i u => ∃ x, xs[i]? = some x ∧ RelV x u) St1 ∧ St1 i s.heap ∧ ∀ i h, St1 i h → r.It it i h := by
  have hh1 : X.A.in1.handled = none := hh
  cases r with
  | l a =>
    obtain ⟨its, rv, p, _⟩ := I.list h
    have hl : its.toArray.size = xs.length := by simp [rv.length]
    have D := Draws.list (prog := X.prog) (w := X.w) hh1 it a (ap a (by simp [Src.cell])) its.toArray
    rw [hl] at D
    refine ⟨_, draws_mono D fun j u hu => ?_, ⟨e, p.isList⟩, fun _ _ z => z.1⟩
    have hj : j < xs.length := by
      have := (Array.getElem?_eq_some_iff.mp hu).1
      rw [hl] at this; exact this
    obtain ⟨u', hu', ru⟩ := rv.get (List.getElem?_eq_getElem hj)
    have : its.toArray[j]? = some u' := by simpa using hu'
    rw [this] at hu; cases hu
    exact ⟨_, List.getElem?_eq_getElem hj, ru⟩
  | t a =>
    obtain ⟨its, rv, p, _⟩ := I.tuple h
    have hl : its.toArray.size = xs.length := by simp [rv.length]
    have D := Draws.tuple (prog := X.prog) (w := X.w) hh1 it a (ap a (by simp [Src.cell])) its.toArray
    rw [hl] at D
    refine ⟨_, draws_mono D fun j u hu => ?_, ⟨e, p⟩, fun _ _ z => z.1⟩
    have hj : j < xs.length := by
      have := (Array.getElem?_eq_some_iff.mp hu).1
      rw [hl] at this; exact this
    obtain ⟨u', hu', ru⟩ := rv.get (List.getElem?_eq_getElem hj)
    have : its.toArray[j]? = some u' := by simpa using hu'
    rw [this] at hu; cases hu
    exact ⟨_, List.getElem?_eq_getElem hj, ru⟩
  | s z =>
    obtain ⟨t, e⟩ := e
    have h : xs = z.cps.toList.map fun c => V.str ⟨#[c]⟩ := h
    have hl : z.cps.size = xs.length := by rw [h]; simp
    have D := Draws.text (prog := X.prog) (w := X.w) hh1 it z t
    rw [hl] at D
    refine ⟨_, draws_mono D fun j u hu => ?_, e, fun _ _ z => ⟨t, z⟩⟩
    obtain ⟨c, tu, hc, rfl⟩ := hu
    exact ⟨.str ⟨#[c]⟩, by rw [h]; simpa using hc, _, rfl⟩
/-- pairs of two sources -/
def ItzS (K : PySem.W.Frag) (a b : Src) : L2.It :=
  ⟨fun i H => ∃ (xs ys : List V) (x y : V), a.At K H xs ∧ b.At K H ys ∧ xs[i]? = some x ∧ ys[i]? = some y,
    fun i H v H' => ∃ T x y, v = .ref T ∧ H T = none ∧ H' = upd H T (.tup [x, y]) ∧ (∀ xs, a.At K H xs → xs[i]? = some x) ∧ ∀ ys, b.At K H ys → ys[i]? = some y,
    fun i H => ∃ xs ys : List V, a.At K H xs ∧ b.At K H ys ∧ i = min xs.length ys.length⟩
theorem turn_zipS {P : Program} {w : World} {K : PySem.W.Frag} {elts : List Expr} {kk : Nat} {tpos : Pos} {a b : Src} {z TI TO i1 i2 : Addr} (S : ZipSep2 z TI TO i1 i2 (i1 :: a.cell) (i2 :: b.cell)) (n1 : ∀ c ∈ a.cell, c ≠ i1) (n2 : ∀ c ∈ b.cell, c ≠ i2) :
    Turn P w K (.Tuple elts kk tpos) (ItzS K a b) [z, TI, TO, i1, i2] z (fun i h => IsZip h z TI TO .none ∧ IsTupOf2 h TI (.ref i1) (.ref i2) ∧ (∃ x y, IsTupOf2 h TO x y) ∧ a.It i1 i h ∧ b.It i2 i h) where
  mem := by simp
  obj := fun i h st c hc => by
    obtain ⟨hz, hTI, ⟨x, y, hTO⟩, h1, h2⟩ := st
    have e' : c = z ∨ c = TI ∨ c = TO ∨ c = i1 ∨ c = i2 := by simpa using hc
    rcases e' with q | q | q | q | q
    · rw [q]; exact ⟨_, hz, fun v q => nomatch q⟩
    · rw [q]; exact ⟨_, hTI, fun v q => nomatch q⟩
    · rw [q]; exact ⟨_, hTO, fun v q => nomatch q⟩
    · rw [q]; exact Src.it_obj h1
    · rw [q]; exact Src.it_obj h2
  keep := fun i h h' st k => by
    obtain ⟨hz, hTI, ⟨x, y, hTO⟩, h1, h2⟩ := st
    exact ⟨k z (by simp) _ hz, k TI (by simp) _ hTI, ⟨x, y, k TO (by simp) _ hTO⟩, Src.it_at h1 fun o q => k i1 (by simp) o q, Src.it_at h2 fun o q => k i2 (by simp) o q⟩
  item := by
    intro X hP hw hK hc i pins s σ H E I hf st hg
    subst hP hw hK
    obtain ⟨hz, hTI, ⟨x0, y0, hTO⟩, h1, h2⟩ := st
    obtain ⟨xs, ys, x, y, hqx, hqy, hx, hy⟩ := hg
    obtain ⟨S1, D1, s1, b1⟩ := Src.draws I (I.ok.hd hc) hqx h1 n1
    obtain ⟨S2, D2, s2, b2⟩ := Src.draws I (I.ok.hd hc) hqy h2 n2
    have W := WalksT.zipD2 S D1 D2
    have hi : i < min xs.length ys.length := by
      have e1 := (List.getElem?_eq_some_iff.mp hx).1
      have e2 := (List.getElem?_eq_some_iff.mp hy).1
      omega
    refine W.item i s _ E hi ⟨hz, hTI, ⟨x0, y0, hTO⟩, s1, s2⟩ fun T vals h' tk hP hsz hT mid hk => ⟨_, rfl, ?_⟩
    obtain ⟨u, u2, ⟨x', hx', ru⟩, ⟨y', hy', ru2⟩, rfl⟩ := hP
    rw [hx] at hx'; cases hx'
    rw [hy] at hy'; cases hy'
    have hnT := W.apart i T h' mid
    refine W.go elts kk tpos i T { s with heap := h', toks := tk } _ E mid fun h'' st' hk2 => ?_
    have hT2 : h''.IsTuple T #[u, u2] := by
      obtain ⟨o, ho, r⟩ := hT
      exact ⟨o, hk2 T o hnT ho, r⟩
    have new : ObjOk X.prog X.w (upd H T (.tup [x, y])) h'' T (.tup [x, y]) :=
      ⟨by show 2 ≤ sizeLine; decide, [u, u2], .cons ru (.cons ru2 .nil), hT2⟩
    have hlt : ∀ c ∈ [z, TI, TO, i1, i2], c < s.heap.objs.size := fun c hcm => by
      have e' : c = z ∨ c = TI ∨ c = TO ∨ c = i1 ∨ c = i2 := by simpa using hcm
      rcases e' with q | q | q | q | q
      · rw [q]; exact Heap.lt_size hz
      · rw [q]; exact Heap.lt_size hTI
      · rw [q]; exact Heap.lt_size hTO
      · rw [q]; obtain ⟨_, e1, _⟩ := Src.it_obj h1; exact Heap.lt_size e1
      · rw [q]; obtain ⟨_, e2, _⟩ := Src.it_obj h2; exact Heap.lt_size e2
    have sub4 : ∀ c, c ∈ [z, TO, i1, i2] → c ∈ [z, TI, TO, i1, i2] := fun c hcm => by
      have e' : c = z ∨ c = TO ∨ c = i1 ∨ c = i2 := by simpa using hcm
      rcases e' with q | q | q | q <;> simp [q]
    have I1 : Inv X pins σ (upd H T (.tup [x, y])) { s with heap := h'', toks := tk } :=
      I.turnedNew (t' := tk) (ch := [z, TI, TO, i1, i2]) (fun c o hb q => hk2 c o (fun m => hb (sub4 c m)) (hk c o (fun m => hb (sub4 c m)) q)) hf hsz new
    have HT : H T = none := I.hok.fresh hsz
    refine ⟨.ref T, _, I1, rfl, ⟨T, x, y, rfl, HT, rfl, fun l hl => by rw [Src.inj I hl hqx]; exact hx, fun l hl => by rw [Src.inj I hl hqy]; exact hy⟩, ?_, fun c hcm => ?_⟩
    · obtain ⟨k1, k2, k3, k4, k5⟩ := st'
      exact ⟨k1, k2, k3, b1 _ _ k4, b2 _ _ k5⟩
    · rw [upd_ne (Nat.ne_of_lt (Nat.lt_of_lt_of_le (hlt c hcm) hsz))]
      exact (hf c hcm).1
  done := by
    intro X hP hw hK hc i pins s σ H E I hf st hg
    subst hP hw hK
    obtain ⟨hz, hTI, ⟨x0, y0, hTO⟩, h1, h2⟩ := st
    obtain ⟨xs, ys, hqx, hqy, rfl⟩ := hg
    obtain ⟨S1, D1, s1, b1⟩ := Src.draws I (I.ok.hd hc) hqx h1 n1
    obtain ⟨S2, D2, s2, b2⟩ := Src.draws I (I.ok.hd hc) hqy h2 n2
    have W := WalksT.zipD2 S D1 D2
    have sub4 : ∀ c, c ∈ [z, TO, i1, i2] → c ∈ [z, TI, TO, i1, i2] := fun c hcm => by
      have e' : c = z ∨ c = TO ∨ c = i1 ∨ c = i2 := by simpa using hcm
      rcases e' with q | q | q | q <;> simp [q]
    exact W.done s _ E ⟨hz, hTI, ⟨x0, y0, hTO⟩, s1, s2⟩ fun h' tk hk => ⟨rfl, I.turnedL (t' := tk) (ch := [z, TI, TO, i1, i2]) (fun c o hb q => hk c o (fun m => hb (sub4 c m)) q) hf⟩
  self := fun A i s Q E st h => wpAny_pyIter_zip st.1 h
theorem Src.begins (I : Inv X pins σ H s) {r : Src} {xs : List V} (h : r.At X.K H xs) {u : Value} (ru : RelV r.v u) : ∃ o Hs, Begins u o Hs ∧ Hs s.heap ∧ (∀ b ∈ r.cell, b < s.heap.objs.size) ∧ ∀ h' it, h'.get? it = some o → r.It it 0 h' := by
  cases r with
  | l a =>
    obtain ⟨its, rv, p, _⟩ := I.list h
    cases ru
    exact ⟨_, _, begins_list a its.toArray, p.isList, fun b hb => by rw [List.mem_singleton.mp hb]; exact p.lt, fun h' it e => ⟨_, e, rfl, rfl⟩⟩
  | t a =>
    obtain ⟨its, rv, p, _⟩ := I.tuple h
    cases ru
    exact ⟨_, _, begins_tuple a its.toArray, p, fun b hb => by rw [List.mem_singleton.mp hb]; obtain ⟨o, ho, _⟩ := id p; exact Heap.lt_size ho, fun h' it e => ⟨_, e, rfl, rfl⟩⟩
  | s z =>
    obtain ⟨t, rfl⟩ := ru
    exact ⟨_, (fun _ => True), begins_text z t, trivial, (fun b hb => nomatch hb), fun h' it e => ⟨t, _, e, rfl, rfl⟩⟩
def iZipS (K : PySem.W.Frag) (ta : TA) : TI := fun σ H R => ta σ H fun vs H1 => ∃ (a b : Src) (xs ys : List V), vs = [a.v, b.v] ∧ a.At K H1 xs ∧ b.At K H1 ys ∧ R (ItzS K a b) H1
theorem pi_zipS {e e2 : Expr} {ta : TA} {p pos tpos : Pos} {elts : List Expr} {kk : Nat} (hg : Gl X "zip") (hm : X.mg "zip" = none) (ha : PA X [e, e2] ta)
    (hs : starEach [e, e2] X.env = (false, eval e X.env) :: starEach [e2] X.env) (hpl : (backTo pos (starEach [e2] X.env)).any (·.1) = false) :
    PI X (.Tuple elts kk tpos) (.Call (.Name "zip" p) [e, e2] [] pos) (iZipS X.K ta) := by
  refine ⟨fun pins s σ H R I h => ?_⟩
  refine Call_ (ld_blt I hg hm PyProof.Rows.boot_zip (PyProof.Rows.callWith_type1 (thn (ha.run pos pins s σ H _ I h) fun us s1 ⟨vs, H1, I1, r1, q1⟩ => ?_) hs hpl))
  obtain ⟨a, b, xs, ys, ex, hqx, hqy, q⟩ := q1
  subst ex
  obtain ⟨u1, u2, rfl, ra, rb⟩ := vals2 r1
  obtain ⟨o1, H1s, B1, y1, l1, k1⟩ := Src.begins I1 hqx ra
  obtain ⟨o2, H2s, B2, y2, l2, k2⟩ := Src.begins I1 hqy rb
  refine zip_begins2 B1 B2 y1 y2 fun h' hz hTI hTO h1 h2 hsz hk => wpAny_pyIter_zip hz ?_
  have I2 : Inv X pins σ H1 { s1 with heap := h' } := I1.kept (t' := s1.toks) hk
  refine ⟨s1.heap.objs.size + 4, [s1.heap.objs.size + 4, s1.heap.objs.size + 2, s1.heap.objs.size + 3, s1.heap.objs.size, s1.heap.objs.size + 1], _, _, H1, rfl, I2, turn_zipS (zip_sep2 l1 l2) (fun c hcm e => Nat.lt_irrefl _ (e ▸ l1 c hcm)) (fun c hcm e => Nat.lt_irrefl _ (Nat.lt_of_succ_lt (show (s1.heap.objs.size + 1 : Nat) < s1.heap.objs.size from e ▸ l2 c hcm))), ⟨hz, hTI, ⟨_, _, hTO⟩, k1 h' _ h1, k2 h' _ h2⟩, fun c hcm => ?_, q⟩
  have e' : c = s1.heap.objs.size + 4 ∨ c = s1.heap.objs.size + 2 ∨ c = s1.heap.objs.size + 3 ∨ c = s1.heap.objs.size ∨ c = s1.heap.objs.size + 1 := by simpa using hcm
  have hle : s1.heap.objs.size ≤ c := by
    rcases e' with z | z | z | z | z
    · rw [z]; exact Nat.le_add_right _ _
    · rw [z]; exact Nat.le_add_right _ _
    · rw [z]; exact Nat.le_add_right _ _
    · rw [z]; exact Nat.le_refl _
    · rw [z]; exact Nat.le_add_right _ _
  exact I1.fpOk hle (I1.hok.fresh hle)
/-! ### enumerate -/
theorem meets_enum1 {v : Value} {o : Obj} {Hs : Heap → Prop} (B : Begins v o Hs) :
    Meets (Builtin.«enumerate.__new__» ⟨[.type "enumerate", v], []⟩) (fun _ R s => Hs s.heap ∧
      R (.ok (.ret (.ref (s.heap.push o).objs.size))) { s with heap := (s.heap.push o).push { cls := .type "enumerate", data := .fields #[.none, .bool false, .ref s.heap.objs.size, rawInt 0, .none, .none] } }) :=
  .of_wp fun prog w A R s h => by
    obtain ⟨hp, g, d, tk, os⟩ := s; obtain ⟨h1, h⟩ := h
    have hsub := sub_enumerate
    have q1 : ∀ {A' : Around} {E : Value → Shared → Prop} {Q : Value → Shared → Prop}, Q (.ref hp.objs.size) ⟨hp.push o, g, d, tk, os⟩ → wpAny (model prog w) A' (pyIter v) Q E ⟨hp, g, d, tk, os⟩ :=
      fun q => B.iter prog w _ _ ⟨hp, g, d, tk, os⟩ _ h1 q
    wp_walk using q1
    refine wpAny_stack_any fun st => wpAny_pure ?_
    split
    · rename_i c _ _ _ _ _
      cases (c == Value.type "enumerate")
      · wp_walk using q1
        exact ⟨_, rfl, h⟩
      · wp_walk using q1
        exact ⟨_, rfl, h⟩
    · wp_walk using q1
      exact ⟨_, rfl, h⟩
theorem call_enum1 {prog : Program} {w : World} {A : Around} {E : Value → Shared → Prop} {s : Shared} {v : Value} {o : Obj} {Hs : Heap → Prop} {Q : Value → Shared → Prop} (B : Begins v o Hs) (h1 : Hs s.heap)
    (h : ∀ h', IsEnum h' (s.heap.objs.size + 1) s.heap.objs.size 0 .none → h'.get? s.heap.objs.size = some o → 
      (∀ b o, s.heap.get? b = some o → h'.get? b = some o) → Q (.ref (s.heap.objs.size + 1)) { s with heap := h' }) :
    wpAny (model prog w) A (call (.type "enumerate") [v]) Q E s := by
  refine callType_new F.called_enumerate (by decide) (F.typeCall_enumerate_1 _) (F.newCall_enumerate_1 _) (fun obj => F.args_object_init_2 obj _) F.entry_enumerate_new
    (meets_enum1 B) ⟨h1, ?_⟩
  have hz : (s.heap.push o).objs.size = s.heap.objs.size + 1 := Heap.size_push ..
  show _ ∧ _
  rw [hz]
  have he : IsEnum ((s.heap.push o).push { cls := .type "enumerate", data := .fields #[.none, .bool false, .ref s.heap.objs.size, rawInt 0, .none, .none] }) (s.heap.objs.size + 1) s.heap.objs.size 0 .none := by
    have := Heap.get?_push_size (s.heap.push o) (o := { cls := .type "enumerate", data := .fields #[.none, .bool false, .ref s.heap.objs.size, rawInt 0, .none, .none] }) rfl
    rw [hz] at this; exact this
  exact ⟨⟨_, he, rfl⟩, h _ he (Heap.get?_push_of_some _ (Heap.get?_push_size _ B.free)) fun b o x => Heap.get?_push_of_some _ (Heap.get?_push_of_some _ x)⟩
def IteS (K : PySem.W.Frag) (a : Src) : L2.It :=
  ⟨fun i H => ∃ (xs : List V) (x : V), a.At K H xs ∧ xs[i]? = some x,
    fun i H v H' => ∃ T x, v = .ref T ∧ H T = none ∧ H' = upd H T (.tup [.int (i : Nat), x]) ∧ (∀ xs, a.At K H xs → xs[i]? = some x),
    fun i H => ∃ xs : List V, a.At K H xs ∧ i = xs.length⟩
theorem turn_enumS {P : Program} {w : World} {K : PySem.W.Frag} {elts : List Expr} {kk : Nat} {tpos : Pos} {a : Src} {e it : Addr} (hei : e ≠ it) (hef : e ∉ it :: a.cell) (n1 : ∀ c ∈ a.cell, c ≠ it) :
    Turn P w K (.Tuple elts kk tpos) (IteS K a) [e, it] e (fun i h => (∃ old, IsEnum h e it (0 + (i : Int)) old) ∧ a.It it i h) where
  mem := by simp
  obj := fun i h st c hc => by
    obtain ⟨⟨old, hz⟩, h1⟩ := st
    have e' : c = e ∨ c = it := by simpa using hc
    rcases e' with q | q
    · rw [q]; exact ⟨_, hz, fun v q => nomatch q⟩
    · rw [q]; exact Src.it_obj h1
  keep := fun i h h' st k => by
    obtain ⟨⟨old, hz⟩, h1⟩ := st
    exact ⟨⟨old, k e (by simp) _ hz⟩, Src.it_at h1 fun o q => k it (by simp) o q⟩
  item := by
    intro X hP hw hK hc i pins s σ H E I hf st hg
    subst hP hw hK
    obtain ⟨⟨old, hz⟩, h1⟩ := st
    obtain ⟨xs, x, hqx, hx⟩ := hg
    obtain ⟨S1, D1, s1, b1⟩ := Src.draws I (I.ok.hd hc) hqx h1 n1
    have W := WalksT.enumFrom 0 D1 e hei hef (by simp)
    refine W.item i s _ E (List.getElem?_eq_some_iff.mp hx).1 ⟨⟨old, hz⟩, s1⟩ fun T vals h' tk hP hsz hT mid hk => ⟨_, rfl, ?_⟩
    obtain ⟨tt, u, ⟨x', hx', ru⟩, rfl⟩ := hP
    rw [hx] at hx'; cases hx'
    have hnT := W.apart i T h' mid
    refine W.go elts kk tpos i T { s with heap := h', toks := tk } _ E mid fun h'' st' hk2 => ?_
    have hT2 : h''.IsTuple T #[.int (0 + (i : Int)) tt, u] := by
      obtain ⟨o, ho, r⟩ := hT
      exact ⟨o, hk2 T o hnT ho, r⟩
    have z0 : (0 : Int) + (i : Int) = ((i : Nat) : Int) := by omega
    have new : ObjOk X.prog X.w (upd H T (.tup [.int (i : Nat), x])) h'' T (.tup [.int (i : Nat), x]) :=
      ⟨by show 2 ≤ sizeLine; decide, [.int (0 + (i : Int)) tt, u], .cons ⟨tt, by rw [z0]⟩ (.cons ru .nil), hT2⟩
    have hlt : ∀ c ∈ [e, it], c < s.heap.objs.size := fun c hcm => by
      have e' : c = e ∨ c = it := by simpa using hcm
      rcases e' with q | q
      · rw [q]; exact Heap.lt_size hz
      · rw [q]; obtain ⟨_, e1, _⟩ := Src.it_obj h1; exact Heap.lt_size e1
    have I1 : Inv X pins σ (upd H T (.tup [.int (i : Nat), x])) { s with heap := h'', toks := tk } :=
      I.turnedNew (t' := tk) (ch := [e, it]) (fun c o hb q => hk2 c o hb (hk c o hb q)) hf hsz new
    have HT : H T = none := I.hok.fresh hsz
    refine ⟨.ref T, _, I1, rfl, ⟨T, x, rfl, HT, rfl, fun l hl => by rw [Src.inj I hl hqx]; exact hx⟩, ?_, fun c hcm => ?_⟩
    · obtain ⟨k1, k4⟩ := st'
      exact ⟨k1, b1 _ _ k4⟩
    · rw [upd_ne (Nat.ne_of_lt (Nat.lt_of_lt_of_le (hlt c hcm) hsz))]
      exact (hf c hcm).1
  done := by
    intro X hP hw hK hc i pins s σ H E I hf st hg
    subst hP hw hK
    obtain ⟨⟨old, hz⟩, h1⟩ := st
    obtain ⟨xs, hqx, rfl⟩ := hg
    obtain ⟨S1, D1, s1, b1⟩ := Src.draws I (I.ok.hd hc) hqx h1 n1
    have W := WalksT.enumFrom 0 D1 e hei hef (by simp)
    exact W.done s _ E ⟨⟨old, hz⟩, s1⟩ fun h' tk hk => ⟨rfl, I.turnedL (t' := tk) (ch := [e, it]) (fun c o hb q => hk c o hb q) hf⟩
  self := fun A i s Q E st h => wpAny_pyIter_enum st.1.choose_spec h
def iEnumS (K : PySem.W.Frag) (ta : TA) : TI := fun σ H R => ta σ H fun vs H1 => ∃ (a : Src) (xs : List V), vs = [a.v] ∧ a.At K H1 xs ∧ R (IteS K a) H1
theorem pi_enumS {e : Expr} {ta : TA} {p pos tpos : Pos} {elts : List Expr} {kk : Nat} (hg : Gl X "enumerate") (hm : X.mg "enumerate" = none) (ha : PA X [e] ta) (hs : starEach [e] X.env = [(false, eval e X.env)]) :
    PI X (.Tuple elts kk tpos) (.Call (.Name "enumerate" p) [e] [] pos) (iEnumS X.K ta) := by
  refine ⟨fun pins s σ H R I h => ?_⟩
  refine Call_ (ld_blt I hg hm boot_enumerate (PyProof.Rows.callWith_type1 (thn (ha.run pos pins s σ H _ I h) fun us s1 ⟨vs, H1, I1, r1, q1⟩ => ?_) hs rfl))
  obtain ⟨a, xs, ex, hqx, q⟩ := q1
  subst ex
  obtain ⟨u1, rfl, ra⟩ := vals1 r1
  obtain ⟨o1, H1s, B1, y1, l1, k1⟩ := Src.begins I1 hqx ra
  refine call_enum1 B1 y1 fun h' hz h1 hk => wpAny_pyIter_enum hz ?_
  have I2 : Inv X pins σ H1 { s1 with heap := h' } := I1.kept (t' := s1.toks) hk
  refine ⟨s1.heap.objs.size + 1, [s1.heap.objs.size + 1, s1.heap.objs.size], _, _, H1, rfl, I2, turn_enumS (Nat.succ_ne_self _) (fun m => ?_) (fun c hcm e => Nat.lt_irrefl _ (e ▸ l1 c hcm)), ⟨⟨.none, by rw [show (0 : Int) + ((0 : Nat) : Int) = 0 from rfl]; exact hz⟩, k1 h' _ h1⟩, fun b hb => ?_, q⟩
  · rcases List.mem_cons.mp m with m | m
    · exact Nat.succ_ne_self _ m
    · exact Nat.lt_irrefl _ (Nat.lt_of_succ_lt (show (s1.heap.objs.size + 1 : Nat) < s1.heap.objs.size from l1 _ m))
  · have e' : b = s1.heap.objs.size + 1 ∨ b = s1.heap.objs.size := by simpa using hb
    have hle : s1.heap.objs.size ≤ b := by
      rcases e' with z | z
      · rw [z]; exact Nat.le_add_right _ _
      · rw [z]; exact Nat.le_refl _
    exact I1.fpOk hle (I1.hok.fresh hle)
end
/-! ### what they give -/
section
variable {K : PySem.W.Frag} {F : Hp}
/-- a source that holds the items xs, shared -/
def SrcD (K : PySem.W.Frag) (F : Hp) (a : Src) (xs : List D) : Prop := ∃ vs, RFL K F xs vs ∧ ∀ H, Sub F H → a.At K H vs
theorem zipD_len : ∀ (xs ys : List D), (zipD xs ys).length = min xs.length ys.length
  | [], ys => by cases ys <;> simp [zipD]
  | x :: xs, [] => by simp [zipD]
  | x :: xs, y :: ys => by simp only [zipD, List.length_cons, zipD_len xs ys]; omega
theorem zipD_get : ∀ (xs ys : List D) (i : Nat) (x y : D), xs[i]? = some x → ys[i]? = some y → (zipD xs ys)[i]? = some (.tup [x, y])
  | [], _, _, _, _, h, _ => by simp at h
  | _ :: _, [], _, _, _, _, h => by simp at h
  | x :: xs, y :: ys, 0, _, _, h, h' => by simp at h h'; subst h h'; rfl
  | x :: xs, y :: ys, i + 1, a, b, h, h' => by simp only [zipD, List.getElem?_cons_succ] at h h' ⊢; exact zipD_get xs ys i a b h h'
theorem enumD_len : ∀ (xs : List D) (k : Nat), (enumD k xs).length = xs.length
  | [], _ => rfl
  | x :: xs, k => by simp [enumD, enumD_len xs]
theorem enumD_get : ∀ (xs : List D) (k i : Nat) (x : D), xs[i]? = some x → (enumD k xs)[i]? = some (.tup [.int ((k + i : Nat) : Int), x])
  | [], _, _, _, h => by simp at h
  | x :: xs, k, 0, _, h => by simp at h; subst h; simp [enumD]
  | x :: xs, k, i + 1, a, h => by
    simp only [enumD, List.getElem?_cons_succ] at h ⊢
    rw [enumD_get xs (k + 1) i a h]
    congr 5; omega
theorem pair_new {Fc H : Hp} {T : Addr} {x y : D} {vx vy : V} (s1 : Sub F Fc) (s2 : Sub Fc H) (hT : H T = none) (rx : RF K F x vx) (ry : RF K F y vy) :
    ∃ F2, Sub Fc F2 ∧ Sub F2 (upd H T (.tup [vx, vy])) ∧ Sub H (upd H T (.tup [vx, vy])) ∧ (∀ a, Fc a = none → F2 a ≠ none → H a = none) ∧ RF K F2 (.tup [x, y]) (.ref T) := by
  have fT : Fc T = none := by
    cases e : Fc T with
    | none => rfl
    | some o => have := s2 _ _ e; rw [hT] at this; cases this
  have sF : Sub Fc (upd Fc T (.tup [vx, vy])) := upd_sub fT
  refine ⟨upd Fc T (.tup [vx, vy]), sF, fun a o e => ?_, upd_sub hT, fun a e e' => ?_, ?_⟩
  · by_cases h : a = T
    · subst h; rw [upd_same] at e ⊢; exact e
    · rw [upd_ne h] at e ⊢; exact s2 _ _ e
  · by_cases h : a = T
    · subst h; exact hT
    · rw [upd_ne h] at e'; exact absurd e e'
  · have s3 := s1.trans sF
    simp only [RF]
    refine ⟨T, [vx, vy], rfl, .inl (.inl upd_same), ?_⟩
    simp only [RFL]
    exact ⟨vx, [vy], rfl, RF.sub s3 _ _ rx, vy, [], rfl, RF.sub s3 _ _ ry, rfl⟩
theorem wk_zip {a b : Src} {xs ys : List D} (ha : SrcD K F a xs) (hb : SrcD K F b ys) : Wk K F (ItzS K a b) (zipD xs ys) := by
  obtain ⟨vs, ra, qa⟩ := ha
  obtain ⟨us, rb, qb⟩ := hb
  have h1 := rfl_len ra
  have h2 := rfl_len rb
  unfold Wk
  rw [zipD_len]
  refine ⟨fun i H hi s => ?_, fun H s => ⟨vs, us, qa H s, qb H s, by omega⟩, fun i H v H' hi s y => ?_⟩
  · exact ⟨vs, us, vs[i]'(by omega), us[i]'(by omega), qa H s, qb H s, List.getElem?_eq_getElem _, List.getElem?_eq_getElem _⟩
  · obtain ⟨T, vx, vy, rfl, hT, rfl, g1, g2⟩ := y
    have e1 := g1 vs (qa H s)
    have e2 := g2 us (qb H s)
    obtain ⟨x', ex, rx⟩ := rfl_get ra (List.getElem?_eq_getElem (by omega : i < xs.length))
    obtain ⟨y', ey, ry⟩ := rfl_get rb (List.getElem?_eq_getElem (by omega : i < ys.length))
    rw [e1] at ex; cases ex
    rw [e2] at ey; cases ey
    exact ⟨_, zipD_get xs ys i _ _ (List.getElem?_eq_getElem _) (List.getElem?_eq_getElem _), fun Fc s1 s2 => pair_new s1 s2 hT rx ry⟩
theorem wk_enum {a : Src} {xs : List D} (ha : SrcD K F a xs) : Wk K F (IteS K a) (enumD 0 xs) := by
  obtain ⟨vs, ra, qa⟩ := ha
  have h1 := rfl_len ra
  unfold Wk
  rw [enumD_len]
  refine ⟨fun i H hi s => ⟨vs, vs[i]'(by omega), qa H s, List.getElem?_eq_getElem _⟩, fun H s => ⟨vs, qa H s, by omega⟩, fun i H v H' hi s y => ?_⟩
  obtain ⟨T, vx, rfl, hT, rfl, g1⟩ := y
  have e1 := g1 vs (qa H s)
  obtain ⟨x', ex, rx⟩ := rfl_get ra (List.getElem?_eq_getElem (by omega : i < xs.length))
  rw [e1] at ex; cases ex
  have := enumD_get xs 0 i _ (List.getElem?_eq_getElem (by omega : i < xs.length))
  rw [Nat.zero_add] at this
  exact ⟨_, this, fun Fc s1 s2 => pair_new s1 s2 hT mk_int rx⟩
theorem rfl_chars {K : PySem.W.Frag} {F : Hp} : ∀ (s : Txt), RFL K F (s.map fun c => D.str [c]) (s.map fun c => V.str ⟨#[c]⟩)
  | [] => by simp [RFL]
  | c :: s => by
    simp only [List.map_cons, RFL]
    exact ⟨_, _, rfl, by rw [← txt_one]; exact mk_str, rfl_chars s⟩
/-- a shared value that can be drawn from -/
theorem src_of {d : D} {v : V} {xs : List D} (h : RF K F d v) (hi : items d = some xs) (hn : ∀ ys, d ≠ .itr ys) : ∃ a : Src, v = a.v ∧ SrcD K F a xs := by
  cases d <;> simp only [items, reduceCtorEq, Option.some.injEq] at hi
  · split at hi <;> simp only [reduceCtorEq, Option.some.injEq] at hi
    subst hi
    obtain rfl := rf_str h
    refine ⟨.s _, rfl, _, rfl_chars _, fun H s => ?_⟩
    show _ = _
    rw [txt_list]
  · subst hi
    simp only [RF] at h
    obtain ⟨a, vs, rfl, q, r⟩ := h
    exact ⟨.t a, rfl, vs, r, fun H s => SqT.sub s q⟩
  · subst hi
    simp only [RF] at h
    obtain ⟨a, vs, rfl, q, r⟩ := h
    exact ⟨.l a, rfl, vs, r, fun H s => .inl (Rd.sub s q)⟩
  · rename_i ys; exact absurd rfl (hn ys)
end
end Z

/-! Z14: more expressions: comprehensions, pairs, sequences, built-ins. -/
namespace Z
open PySem PySem.Spec L2 PyProof.Rows
section
variable {X : Cx} {T : Tb} {W : WX} {kp : List Nat}
/-! ### zip, enumerate -/
theorem si_zp {ra rb : Env → R D} {a b : Expr} {p pos tpos : Pos} {elts : List Expr} {kk : Nat} {q1 q2 : Bool} {Γ Γ1 Γ2 : Gm} {m n : Nat} (hK : X.K = T.K) (hg : Gl X "zip") (hm : X.mg "zip" = none) (ha : SE X T W kp q1 ra a Γ m Γ1) (hb : SE X T W kp q2 rb b Γ1 n Γ2) (h1 : own m = true) (h1' : own n = true) (h2 : ns a = true) (h3 : ns b = true) :
    SI X T W kp (q1 && q2) (fun e => (ra e).bind fun x e1 => (rb e1).bind fun y e2 => R.lift ((items x).bind fun xs => (items y).map fun ys => .itr (zipD xs ys)) e2) (.Tuple elts kk tpos) (.Call (.Name "zip" p) [a, b] [] pos) Γ Γ2 := by
  have ha' := se_weak ha (leG.refl _) (m2 := 1) (.inr ⟨Nat.le_refl 1, own_pos h1⟩)
  have hb' := se_weak hb (leG.refl _) (m2 := 1) (.inr ⟨Nat.le_refl 1, own_pos h1'⟩)
  have hst : starEach [a, b] X.env = (false, eval a X.env) :: starEach [b] X.env := star_cons h2
  have hpl : (backTo pos (starEach [b] X.env)).any (·.1) = false := star_any (by simp [h3])
  refine PI.mono (pi_zipS hg hm (pa_cons ha' (pa_cons hb' pa_nil (star_cons h3)) (star_cons h2)) hst hpl) fun σ H RR z => ?_
  show tOp (fun v u H1 _ => ∃ (a b : Src) (xs ys : List V), [v, u] = [a.v, b.v] ∧ a.At X.K H1 xs ∧ b.At X.K H1 ys ∧ RR (ItzS X.K a b) H1) (rdE T W kp q1 ra Γ 1 Γ1) (rdE T W kp q2 rb Γ1 1 Γ2) σ H (fun _ _ => True)
  rw [hK]
  obtain ⟨e, F, fp, s, z⟩ := z
  refine ⟨e, F, fp, s, ?_⟩
  dsimp only at z
  cases e1 : ra e with
  | bad => rw [e1] at z; exact z
  | exc y e' => rw [e1] at z; exact z
  | ok d e' =>
    rw [e1] at z
    simp only [R.bind_ok] at z
    intro F1 H1 fp1 v f g val
    refine ⟨e', F1, fp1, g.st, ?_⟩
    cases e2 : rb e' with
    | bad => rw [e2] at z; exact z
    | exc y e'' => rw [e2] at z; exact XW.back z g
    | ok d2 e'' =>
      rw [e2] at z
      simp only [R.bind_ok] at z
      intro F2 H2 fp2 u f2 g2 val2
      cases i1 : items d with
      | none => rw [i1] at z; exact z.elim
      | some xs =>
        cases i2 : items d2 with
        | none => rw [i1, i2] at z; exact z.elim
        | some ys =>
          rw [i1, i2] at z
          simp only [Option.bind_some, Option.map_some, R.lift_some, items] at z
          have val' := val.stay g2.ch g.dis (.inl rfl) (.inl (by decide))
          have r1 : RF T.K F2 d v := by unfold Val at val'; rw [if_neg (by decide)] at val'; exact (RO.to1 (Nat.le_refl 1) val').1
          have r2 : RF T.K F2 d2 u := by unfold Val at val2; rw [if_neg (by decide)] at val2; exact (RO.to1 (Nat.le_refl 1) val2).1
          obtain ⟨sa, rfl, wa⟩ := src_of r1 i1 (fun ys e => by subst e; simp only [RF] at r1)
          obtain ⟨sb, rfl, wb⟩ := src_of r2 i2 (fun ys e => by subst e; simp only [RF] at r2)
          have gg := go_app (g := emp) (Go.trans g g2 val.cells) fun _ z => z.elim
          obtain ⟨va, _, qa⟩ := id wa
          obtain ⟨vb, _, qb⟩ := id wb
          exact ⟨sa, sb, va, vb, rfl, qa _ gg.st.sub, qb _ gg.st.sub, z F2 H2 fp2 _ gg (wk_zip wa wb)⟩
theorem si_en {ra : Env → R D} {a : Expr} {p pos tpos : Pos} {elts : List Expr} {kk : Nat} {q : Bool} {Γ Γ1 : Gm} {m : Nat} (hK : X.K = T.K) (hg : Gl X "enumerate") (hm : X.mg "enumerate" = none) (ha : SE X T W kp q ra a Γ m Γ1) (h1 : own m = true) (h2 : ns a = true) :
    SI X T W kp q (fun e => (ra e).bind fun x e1 => R.lift ((items x).map fun xs => .itr (enumD 0 xs)) e1) (.Tuple elts kk tpos) (.Call (.Name "enumerate" p) [a] [] pos) Γ Γ1 := by
  have ha' := se_weak ha (leG.refl _) (m2 := 1) (.inr ⟨Nat.le_refl 1, own_pos h1⟩)
  refine PI.mono (pi_enumS hg hm (pa_cons ha' pa_nil (star_cons h2)) (star_cons h2)) fun σ H RR z => ?_
  rw [hK]
  obtain ⟨e, F, fp, s, z⟩ := z
  refine ⟨e, F, fp, s, ?_⟩
  dsimp only at z
  cases e1 : ra e with
  | bad => rw [e1] at z; exact z
  | exc y e' => rw [e1] at z; exact z
  | ok d e' =>
    rw [e1] at z
    simp only [R.bind_ok] at z
    intro F1 H1 fp1 v f g val
    cases i1 : items d with
    | none => rw [i1] at z; exact z.elim
    | some xs =>
      rw [i1] at z
      simp only [Option.map_some, R.lift_some, items] at z
      have r1 : RF T.K F1 d v := by unfold Val at val; rw [if_neg (by decide)] at val; exact (RO.to1 (Nat.le_refl 1) val).1
      obtain ⟨sa, rfl, wa⟩ := src_of r1 i1 (fun ys e => by subst e; simp only [RF] at r1)
      obtain ⟨va, _, qa⟩ := id wa
      exact ⟨sa, va, rfl, qa _ g.st.sub, z F1 H1 fp1 _ (go_app g fun _ z => z.elim) (wk_enum wa)⟩
/-! ### comprehensions -/
theorem se_lc {ri : Env → R D} {rt : Env → R Bool} {rl : Env → R D} {elt tg iter : Expr} {ifs : List Expr} {scope : Scope} {own_ : List (Str × Nat)} {pos : Pos} {t : Z.T} {q1 q2 q3 : Bool} {Γ Γ1 Γm Γ2 Γ3 : Gm} {m : Nat}
    (hc : X.calm = true) (hN : X.N.Nodup) (ok : BlkOk X.N X.env.scope scope own_) (lo : LcOk t (own_.map (·.2)) Γ1 Γm Γ2 Γ3 m) (hi : SI X T W kp q1 ri tg iter Γ Γ1)
    (hg : ∀ (s : Shared) (H : Hp) (C : Addr) (cl : List (Str × Addr)) (fp : List Addr), PG (X.blk s H scope (compEnvC scope cl C X.env) fp) tg (gT T.K t))
    (ht : ∀ (s : Shared) (H : Hp) (C : Addr) (cl : List (Str × Addr)) (fp : List Addr), STs (X.blk s H scope (compEnvC scope cl C X.env) fp) T W0 [] q2 rt ifs (tgtG t 1 Γm) Γ2)
    (he : ∀ (s : Shared) (H : Hp) (C : Addr) (cl : List (Str × Addr)) (fp : List Addr), SE (X.blk s H scope (compEnvC scope cl C X.env) fp) T W0 [] q3 rl elt Γ2 m Γ3) (hs : nset iter = true) :
    SE X T W kp (q1 && (q2 && q3)) (fun e => (ri e).bind fun x e1 => match items x with
      | none => .bad
      | some xs => (compL (turnD t (oneD rt rl)) xs e1).nox.bind fun zs e6 => R.lift (guardL zs.length (.lst zs)) e6) (.ListComp elt [⟨tg, iter, ifs, 0⟩] scope pos) Γ (up m) Γm :=
  PE.mono (pe_lc hc hN hi ok hg ht he (set_ok hs)) fun _ _ _ z => rd_lc lo z
theorem ss_setLc {ri : Env → R D} {rt : Env → R Bool} {rl : Env → R D} {elt tg iter : Expr} {ifs : List Expr} {scope : Scope} {own_ : List (Str × Nat)} {pos py spos : Pos} {y : Str} {i : Nat} {t : Z.T} {q1 q2 q3 : Bool} {Γ Γ1 Γm Γ2 Γ3 : Gm} {m : Nat} {Rt : RT}
    (hc : X.calm = true) (hN : X.N.Nodup) (hy : X.N[i]? = some y) (hyl : X.env.scope.names.lookup y = some .local)
    (hsw : swapsWith (.ListComp elt [⟨tg, iter, ifs, 0⟩] scope pos) (some (.Name y py)) spos.line X.env = pure true) (ok : BlkOk X.N X.env.scope scope own_) (lo : LcOk t (own_.map (·.2)) Γ1 Γm Γ2 Γ3 m) (hi : SI X T W kp q1 ri tg iter Γ Γ1)
    (hg : ∀ (s : Shared) (H : Hp) (C : Addr) (cl : List (Str × Addr)) (fp : List Addr), PG (X.blk s H scope (compEnvC scope cl C X.env) fp) tg (gT T.K t))
    (ht : ∀ (s : Shared) (H : Hp) (C : Addr) (cl : List (Str × Addr)) (fp : List Addr), STs (X.blk s H scope (compEnvC scope cl C X.env) fp) T W0 [] q2 rt ifs (tgtG t 1 Γm) Γ2)
    (he : ∀ (s : Shared) (H : Hp) (C : Addr) (cl : List (Str × Addr)) (fp : List Addr), SE (X.blk s H scope (compEnvC scope cl C X.env) fp) T W0 [] q3 rl elt Γ2 m Γ3) (hs : nset iter = true) (hi' : i < Γm.length) (hr : i ∉ Rt.ro) :
    SS X T W kp Rt (fun e => R.st ((ri e).bind fun x e1 => match items x with
      | none => .bad
      | some xs => (compL (turnD t (oneD rt rl)) xs e1).nox.bind fun zs e6 => R.lift (guardL zs.length (.lst zs)) e6) fun x e1 => match asgT (.n i) x e1 with | some e2 => .nx e2 | none => .bad) (.Assign [.Name y py] (.ListComp elt [⟨tg, iter, ifs, 0⟩] scope pos) spos) Γ ⟨some (tgtG (.n i) (up m) Γm), none, none⟩ := by
  have hup : 1 ≤ up m := by have := own_pos lo.own; unfold up; split <;> omega
  have h := PS.mono (ps_setLc hc hN hy hyl hsw hi ok hg ht he (set_ok hs)) (t' := tAsg (rdE T W kp (q1 && (q2 && q3)) (fun e => (ri e).bind fun x e1 => match items x with
      | none => .bad
      | some xs => (compL (turnD t (oneD rt rl)) xs e1).nox.bind fun zs e6 => R.lift (guardL zs.length (.lst zs)) e6) Γ (up m) Γm) (gT T.K (.n i))) fun DD σ H z => rd_lc lo z
  exact ss_asgT h hup (fun j hj => by simp [Z.T.is] at hj; subst hj; exact hi') (fun j hj => by simp [Z.T.is] at hj; subst hj; exact hr)
end
end Z

/-! Z15: sequences, built-ins. -/
namespace Z
open PySem PySem.Spec L2 PyProof.Rows
section
variable {K : PySem.W.Frag}
/-- a new list or tuple of shared items -/
theorem new_shared {F H : Hp} {xs : List D} {vs : List V} {f : AS} {tup : Bool} {p : Addr} (s : Sub F H) (r : RFL K F xs vs) (np : H p = none) {Q : VK}
    (k : ∀ F2 H2 w f2, Sub F2 H2 → Sub F F2 → Sub H H2 → (∀ a, F a = none → F2 a ≠ none → f a ∨ H a = none) → (∀ a, f2 a → f a ∨ H a = none) → Val K 2 F2 H2 (if tup then .tup xs else .lst xs) w f2 → Q w H2) : Q (.ref p) (upd H p (if tup then .tup vs else .lst vs)) := by
  have sH : Sub H (upd H p (if tup then .tup vs else .lst vs)) := upd_sub np
  have Fp : F p = none := by
    cases e : F p with
    | none => rfl
    | some o => have := s _ _ e; rw [np] at this; cases this
  refine k F _ (.ref p) (fun b => b = p ∨ emp b) (s.trans sH) (Sub.refl F) sH (fun a z z' => absurd z z') (fun a z => ?_) (Val.of (by decide) ?_)
  · rcases z with rfl | z
    · exact .inr np
    · exact z.elim
  · cases tup with
    | true =>
      simp only [if_true]
      unfold RO
      rw [if_neg (by decide)]
      exact ⟨p, vs, emp, rfl, upd_same, Fp, fun z => z, rol_of1 r, rfl⟩
    | false =>
      simp only [Bool.false_eq_true, if_false]
      unfold RO
      rw [if_neg (by decide)]
      exact ⟨p, vs, emp, rfl, upd_same, Fp, fun z => z, rol_of1 r, rfl⟩
/-- .. brought down to shared -/
theorem new_frozen {F H : Hp} {xs : List D} {vs : List V} {f : AS} {tup : Bool} {p : Addr} (s : Sub F H) (r : RFL K F xs vs) (np : H p = none) {Q : VK}
    (k : ∀ F2 H2 w f2, Sub F2 H2 → Sub F F2 → Sub H H2 → (∀ a, F a = none → F2 a ≠ none → f a ∨ H a = none) → (∀ a, f2 a → f a ∨ H a = none) → Val K 1 F2 H2 (if tup then .tup xs else .lst xs) w f2 → Q w H2) : Q (.ref p) (upd H p (if tup then .tup vs else .lst vs)) := by
  have sH : Sub H (upd H p (if tup then .tup vs else .lst vs)) := upd_sub np
  have Fp : F p = none := by
    cases e : F p with
    | none => rfl
    | some o => have := s _ _ e; rw [np] at this; cases this
  have sF : Sub F (upd F p (if tup then .tup vs else .lst vs)) := upd_sub Fp
  refine k (upd F p (if tup then .tup vs else .lst vs)) _ (.ref p) emp (fun a o e => ?_) sF sH (fun a z z' => ?_) (fun a z => z.elim) (Val.of (by decide) (RO.of1 (Nat.le_refl 1) ?_))
  · by_cases h : a = p
    · subst h; rw [upd_same] at e ⊢; exact e
    · rw [upd_ne h] at e ⊢; exact s _ _ e
  · by_cases h : a = p
    · subst h; exact .inr np
    · rw [upd_ne h] at z'; exact absurd z z'
  · cases tup with
    | true =>
      simp only [if_true, RF]
      exact ⟨p, vs, rfl, .inl (.inl upd_same), RFL.sub sF _ _ r⟩
    | false =>
      simp only [Bool.false_eq_true, if_false, RF]
      exact ⟨p, vs, rfl, .inl upd_same, RFL.sub sF _ _ r⟩
theorem rfl_app {F : Hp} : ∀ {xs ys : List D} {vs us : List V}, RFL K F xs vs → RFL K F ys us → RFL K F (xs ++ ys) (vs ++ us)
  | [], _, vs, us, h, h' => by simp only [RFL] at h; subst h; exact h'
  | x :: xs, ys, vs, us, h, h' => by
    simp only [RFL] at h
    obtain ⟨w, ws, rfl, q, r⟩ := h
    simp only [List.cons_append, RFL]
    exact ⟨w, ws ++ us, rfl, q, rfl_app r h'⟩
theorem rfl_drop {F : Hp} : ∀ {xs : List D} {vs : List V} (n : Nat), RFL K F xs vs → RFL K F (xs.drop n) (vs.drop n)
  | xs, vs, 0, h => h
  | [], vs, n + 1, h => by simp only [RFL] at h; subst h; simp [RFL]
  | x :: xs, vs, n + 1, h => by
    simp only [RFL] at h
    obtain ⟨w, ws, rfl, q, r⟩ := h
    simpa using rfl_drop n r
theorem rfl_take {F : Hp} : ∀ {xs : List D} {vs : List V} (n : Nat), RFL K F xs vs → RFL K F (xs.take n) (vs.take n)
  | xs, vs, 0, h => by simp [RFL]
  | [], vs, n + 1, h => by simp only [RFL] at h; subst h; simp [RFL]
  | x :: xs, vs, n + 1, h => by
    simp only [RFL] at h
    obtain ⟨w, ws, rfl, q, r⟩ := h
    simp only [List.take_succ_cons, RFL]
    exact ⟨w, ws.take n, rfl, q, rfl_take n r⟩
theorem rfl_rep {F : Hp} {xs : List D} {vs : List V} (h : RFL K F xs vs) : ∀ n : Nat, RFL K F (List.replicate n xs).flatten (List.replicate n vs).flatten
  | 0 => by simp [RFL]
  | n + 1 => by
    simp only [List.replicate_succ, List.flatten_cons]
    exact rfl_app h (rfl_rep h n)
theorem rfl_rev {F : Hp} : ∀ {xs : List D} {vs : List V}, RFL K F xs vs → RFL K F xs.reverse vs.reverse
  | [], vs, h => by simp only [RFL] at h; subst h; simp [RFL]
  | x :: xs, vs, h => by
    simp only [RFL] at h
    obtain ⟨w, ws, rfl, q, r⟩ := h
    simp only [List.reverse_cons]
    refine rfl_app (rfl_rev r) ?_
    simp only [RFL]
    exact ⟨w, [], rfl, q, rfl⟩
theorem sIx_eq (n d : Nat) (o : Option Int) : HT.sIx n d o = sIx n d o := by cases o <;> rfl
theorem cut_eq (xs : List V) (lo hi : Option Int) : cutV xs lo hi = cut xs lo hi := by unfold cutV cut; simp only [sIx_eq]
theorem rfl_cut {F : Hp} {xs : List D} {vs : List V} (lo hi : Option Int) (h : RFL K F xs vs) : RFL K F (cut xs lo hi) (cutV vs lo hi) := by
  rw [cut_eq]
  unfold cut
  rw [rfl_len h]
  exact rfl_take _ (rfl_drop _ h)
theorem cut_txt (s : Txt) (lo hi : Option Int) : cutS (txt s) lo hi = txt (cut s lo hi) := by
  unfold cutS cut txt
  simp only [sIx_eq, Str.length, List.size_toArray]
end
section
variable {X : Cx} {T : Tb} {W : WX} {kp : List Nat}
/-- list + list, of any standing -/
def rCatR : R2 := fun x y H Q => ∃ l b xs zs, x = .ref l ∧ y = .ref b ∧ Rd H l (.lst xs) ∧ Rd H b (.lst zs) ∧ xs.length + zs.length ≤ sizeLine ∧ ∀ p, H p = none → Q (.ref p) (upd H p (.lst (xs ++ zs)))
theorem op_catR : OpR X (binaryOp .Add) rCatR := by
  intro pins s σ H x y v u Q I rx ry h
  obtain ⟨l, b, xs, zs, rfl, rfl, hH, hB, hz, q⟩ := h
  cases rx
  cases ry
  obtain ⟨z, its, n, r, e⟩ := hH.ok I.hok
  obtain ⟨z2, its2, n2, r2, e2⟩ := hB.ok I.hok
  have hl := r.length
  have hl2 := r2.length
  refine PySem.P.add_list e e2 ?_ (by rw [List.size_toArray, List.size_toArray]; omega)
  have ea : its.toArray ++ its2.toArray = (its ++ its2).toArray := by simp
  rw [ea]
  exact ⟨.ref _, _, I.lnew (t' := s.toks) (r.append r2) (by rw [List.length_append]; omega), rfl, q _ I.fresh⟩
/-- both operands shared: the answer is new -/
theorem pair_rf {F H : Hp} {x y : D} {v u : V} {f : AS} (h : ValL T.K F H [1, 1] [x, y] [v, u] f) : RF T.K F x v ∧ RF T.K F y u := by
  obtain ⟨w1, ws, g1, g2, e1, v1, v2, _, rfl⟩ := h
  cases e1
  obtain ⟨w2, ws2, g3, g4, e2, v3, _⟩ := v2
  cases e2
  unfold Val at v1 v3
  rw [if_neg (by decide)] at v1 v3
  exact ⟨(RO.to1 (Nat.le_refl 1) v1).1, (RO.to1 (Nat.le_refl 1) v3).1⟩
theorem se_cat {q1 q2 : Bool} {ra rb : Env → R D} {a b : Expr} {pos : Pos} {Γ Γ1 Γ2 : Gm} {m n : Nat} (ha : SE X T W kp q1 ra a Γ m Γ1) (hb : SE X T W kp q2 rb b Γ1 n Γ2) (hm : own m = true) (hn : own n = true) :
    SE X T W kp (q1 && q2) (fun e => (ra e).bind fun x e1 => (rb e1).bind fun y e2 => R.lift (opCat x y) e2) (.BinOp a .Add b pos) Γ 2 Γ2 := by
  refine PE.mono (pe_op op_catR (se_weak ha (leG.refl _) (.inr ⟨Nat.le_refl 1, own_pos hm⟩)) (se_weak hb (leG.refl _) (.inr ⟨Nat.le_refl 1, own_pos hn⟩))) fun σ H Q z => rd_two (.inl (by decide)) z fun F H' x y v u f d s val hg k => ?_
  obtain ⟨r1, r2⟩ := pair_rf val
  cases x <;> cases y <;> simp only [opCat, reduceCtorEq] at hg
  unfold guardL at hg
  split at hg <;> simp only [reduceCtorEq, Option.some.injEq] at hg
  rename_i hl
  subst hg
  simp only [RF] at r1 r2
  obtain ⟨a1, vs, rfl, q1, r1⟩ := r1
  obtain ⟨a2, us, rfl, q2, r2⟩ := r2
  exact ⟨a1, a2, vs, us, rfl, rfl, Rd.sub s q1, Rd.sub s q2, by rw [rfl_len r1, rfl_len r2]; exact lim_line hl, fun p np => new_shared (tup := false) s (rfl_app r1 r2) np k⟩
theorem se_catT {q1 q2 : Bool} {ra rb : Env → R D} {a b : Expr} {pos : Pos} {Γ Γ1 Γ2 : Gm} {m n : Nat} (hK : X.K = T.K) (ha : SE X T W kp q1 ra a Γ m Γ1) (hb : SE X T W kp q2 rb b Γ1 n Γ2) (hm : own m = true) (hn : own n = true) :
    SE X T W kp (q1 && q2) (fun e => (ra e).bind fun x e1 => (rb e1).bind fun y e2 => R.lift (opCatT x y) e2) (.BinOp a .Add b pos) Γ 1 Γ2 := by
  refine PE.mono (pe_op (OpR.or op_catR op_catA) (se_weak ha (leG.refl _) (.inr ⟨Nat.le_refl 1, own_pos hm⟩)) (se_weak hb (leG.refl _) (.inr ⟨Nat.le_refl 1, own_pos hn⟩))) fun σ H Q z => rd_two (.inl (by decide)) z fun F H' x y v u f d s val hg k => ?_
  obtain ⟨r1, r2⟩ := pair_rf val
  cases x <;> cases y <;> simp only [opCatT, reduceCtorEq] at hg
  · unfold guardL at hg
    split at hg <;> simp only [reduceCtorEq, Option.some.injEq] at hg
    rename_i xs ys hl
    subst hg
    refine .inr ?_
    simp only [RF] at r1 r2
    have r1' : RF T.K F (.tup xs) v := by simp only [RF]; exact r1
    have r2' : RF T.K F (.tup ys) u := by simp only [RF]; exact r2
    obtain ⟨a1, vs, rfl, q1, r1⟩ := r1
    obtain ⟨a2, us, rfl, q2, r2⟩ := r2
    have h1 := rfl_len r1
    have h2 := rfl_len r2
    refine ⟨a1, a2, vs, us, rfl, rfl, hK ▸ SqT.sub s q1, hK ▸ SqT.sub s q2, by rw [h1, h2]; exact lim_line hl, fun e => ?_, fun _ e => ?_, fun _ _ p np => new_frozen (tup := true) s (rfl_app r1 r2) np k⟩
    · subst e
      have : xs = [] := List.length_eq_zero_iff.mp h1.symm
      rw [this, List.nil_append] at k
      exact k F H' _ emp s (Sub.refl F) (Sub.refl H') (fun a z z' => (z' z).elim) (fun a z => z.elim) (Val.of (by decide) (RO.of1 (Nat.le_refl 1) r2'))
    · subst e
      have : ys = [] := List.length_eq_zero_iff.mp h2.symm
      rw [this, List.append_nil] at k
      exact k F H' _ emp s (Sub.refl F) (Sub.refl H') (fun a z z' => (z' z).elim) (fun a z => z.elim) (Val.of (by decide) (RO.of1 (Nat.le_refl 1) r1'))
  · unfold guardL at hg
    split at hg <;> simp only [reduceCtorEq, Option.some.injEq] at hg
    rename_i hl
    subst hg
    refine .inl ?_
    simp only [RF] at r1 r2
    obtain ⟨a1, vs, rfl, q1, r1⟩ := r1
    obtain ⟨a2, us, rfl, q2, r2⟩ := r2
    exact ⟨a1, a2, vs, us, rfl, rfl, Rd.sub s q1, Rd.sub s q2, by rw [rfl_len r1, rfl_len r2]; exact lim_line hl, fun p np => new_frozen (tup := false) s (rfl_app r1 r2) np k⟩
/-! ### slices -/
def rdO (T : Tb) (W : WX) (kp : List Nat) (q : Bool) (r : Env → R (Option Int)) (Γ Γ' : Gm) : TO := fun σ H Q => ∃ e F fp, St T.K Γ e.s σ F H fp ∧ match r e with
  | .ok o e' => ∀ F' H' fp', Go T.K q Γ' σ F H fp e.s e'.s F' H' fp' emp → Q o H'
  | .exc x e' => XW T W kp σ F H fp x e'.s
  | .bad => False
def SO (X : Cx) (T : Tb) (W : WX) (kp : List Nat) (q : Bool) (r : Env → R (Option Int)) (x : Option Expr) (Γ Γ' : Gm) : Prop := PO X x (rdO T W kp q r Γ Γ')
theorem PO.mono {X : Cx} {x : Option Expr} {t t' : TO} (h : PO X x t) (m : ∀ σ H Q, t' σ H Q → t σ H Q) : PO X x t' := ⟨fun pins s σ H Q I z => h.run pins s σ H Q I (m σ H Q z)⟩
theorem so_none {Γ : Gm} {q : Bool} : SO X T W kp q (fun e => .ok none e) none Γ Γ :=
  PO.mono po_none fun σ H Q ⟨e, F, fp, s, z⟩ => z F H fp (Go.refl s)
theorem so_some {ra : Env → R D} {a : Expr} {q : Bool} {Γ Γ1 : Gm} {m : Nat} (h : SE X T W kp q ra a Γ m Γ1) : SO X T W kp q (fun e => (ra e).bind fun x e1 => R.lift (optI x) e1) (some a) Γ Γ1 := by
  refine PO.mono (po_some h) fun σ H Q ⟨e, F, fp, s, z⟩ => ⟨e, F, fp, s, ?_⟩
  dsimp only at z
  cases e1 : ra e with
  | bad => rw [e1] at z; exact z
  | exc y e' => rw [e1] at z; exact z
  | ok d e' =>
    rw [e1] at z
    simp only [R.bind_ok] at z
    intro F' H' fp' v f g val
    cases d <;> simp only [optI, R.lift_none] at z
    exact ⟨_, rf_int (val.rf g.st.sub), z F' H' fp' (go_app g fun _ z => z.elim)⟩
theorem rd_sl {q1 q2 q3 : Bool} {ra : Env → R D} {rl rh : Env → R (Option Int)} {Γ Γ1 Γ2 Γ3 : Gm} {g : Option Int → Option Int → D → Option D} {mo : Nat} {σ : L2.St} {H : Hp} {Q : VK} {rr : V → Option Int → Option Int → Hp → VK → Prop}
    (h : rdE T W kp (q1 && (q2 && q3)) (fun e => (ra e).bind fun x e1 => (rl e1).bind fun l e2 => (rh e2).bind fun u e3 => R.lift (g l u x) e3) Γ mo Γ3 σ H Q)
    (rule : ∀ F H' x v l u d, Sub F H' → RF T.K F x v → g l u x = some d →
      (∀ F2 H2 w f2, Sub F2 H2 → Sub F F2 → Sub H' H2 → (∀ a, F a = none → F2 a ≠ none → H' a = none) → (∀ a, f2 a → H' a = none) → Val T.K mo F2 H2 d w f2 → Q w H2) → rr v l u H' Q) :
    tSl rr (rdE T W kp q1 ra Γ 1 Γ1) (rdO T W kp q2 rl Γ1 Γ2) (rdO T W kp q3 rh Γ2 Γ3) σ H Q := by
  obtain ⟨e, F, fp, s, h⟩ := h
  refine ⟨e, F, fp, s, ?_⟩
  dsimp only at h
  cases e1 : ra e with
  | bad => rw [e1] at h; exact h
  | exc y e' => rw [e1] at h; exact h
  | ok x e' =>
    rw [e1] at h
    simp only [R.bind_ok] at h
    intro F1 H1 fp1 v f1 g1 val1
    unfold Val at val1
    rw [if_neg (by decide)] at val1
    obtain ⟨rx, rfl⟩ := RO.to1 (Nat.le_refl 1) val1
    refine ⟨e', F1, fp1, g1.st, ?_⟩
    cases e2 : rl e' with
    | bad => rw [e2] at h; exact h
    | exc y e2' => rw [e2] at h; exact XW.back h g1
    | ok l e2' =>
      rw [e2] at h
      simp only [R.bind_ok] at h
      intro F2 H2 fp2 g2
      have g12 := Go.then_ g1 g2
      refine ⟨e2', F2, fp2, g2.st, ?_⟩
      cases e3 : rh e2' with
      | bad => rw [e3] at h; exact h
      | exc y e3' => rw [e3] at h; exact XW.back h g12
      | ok u e3' =>
        rw [e3] at h
        simp only [R.bind_ok] at h
        intro F3 H3 fp3 g3
        have gg := Go.then_ g12 g3
        rw [Bool.and_assoc] at gg
        cases hg : g l u x with
        | none => rw [hg] at h; exact h.elim
        | some d =>
          rw [hg] at h
          simp only [R.lift_some] at h
          refine rule F3 H3 x v l u d gg.st.sub (RF.sub (g2.ch.sub.trans g3.ch.sub) _ _ rx) hg fun F4 H4 w f4 s4 sF sH nw gr vw => ?_
          refine h F4 H4 fp3 w f4 ⟨gg.same, ⟨s4, gg.st.lG, gg.st.le, fun i hi => ?_, gg.st.dis, gg.st.dead⟩, fun a z1 z2 => ?_, ?_, fun a z => ?_⟩ vw
          · obtain ⟨d2, v2, e3, e4, r2⟩ := gg.st.at_ i hi
            refine ⟨d2, v2, e3, e4, RO.kept d2 _ v2 _ ⟨sF, fun a ha => ?_, fun a ha hn => ?_⟩ r2⟩
            · have := (gg.st.cells ⟨i, ha⟩).2
              cases eh : H3 a with
              | none => exact absurd eh this
              | some z => exact sH a z eh
            · cases ef : F4 a with
              | none => rfl
              | some z => exact ((gg.st.cells ⟨i, ha⟩).2 (nw a hn (by rw [ef]; simp))).elim
          · exact (gg.st.cells z2).2 (gr a z1)
          · refine ⟨gg.ch.sub.trans sF, fun a z hz hw => sH a z (gg.ch.keep a z hz hw), fun a z z' => ?_⟩
            cases ef : F3 a with
            | some y => exact gg.ch.new a z (by rw [ef]; simp)
            | none => exact Grow.none (f := emp) (g := emp) gg.ch (fun _ z => z.2) (nw a ef z')
          · rcases z with z | z
            · exact gg.grow a (.inl z)
            · exact Grow.none (f := emp) (g := emp) gg.ch (fun _ z => z.2) (gr a z)
theorem se_sl {q1 q2 q3 : Bool} {ra : Env → R D} {rl rh : Env → R (Option Int)} {a : Expr} {lo hi : Option Expr} {p2 pos : Pos} {Γ Γ1 Γ2 Γ3 : Gm} {m : Nat} (hK : X.K = T.K) (ha : SE X T W kp q1 ra a Γ m Γ1) (hm : own m = true) (hl : SO X T W kp q2 rl lo Γ1 Γ2) (hh : SO X T W kp q3 rh hi Γ2 Γ3) :
    SE X T W kp (q1 && (q2 && q3)) (fun e => (ra e).bind fun x e1 => (rl e1).bind fun l e2 => (rh e2).bind fun u e3 => R.lift (opSl l u x) e3) (.Subscript a (.Slice lo hi none p2) pos) Γ 2 Γ3 := by
  refine PE.mono (pe_slice (SlR.or sl_list sl_str) (se_weak ha (leG.refl _) (.inr ⟨Nat.le_refl 1, own_pos hm⟩)) hl hh) fun σ H Q z => rd_sl z fun F H' x v l u d s r hg k => ?_
  have k' : ∀ F2 H2 w f2, Sub F2 H2 → Sub F F2 → Sub H' H2 → (∀ a, F a = none → F2 a ≠ none → emp a ∨ H' a = none) → (∀ a, f2 a → emp a ∨ H' a = none) → Val T.K 2 F2 H2 d w f2 → Q w H2 :=
    fun F2 H2 w f2 a1 a2 a3 a4 a5 a6 => k F2 H2 w f2 a1 a2 a3 (fun a z z' => (a4 a z z').resolve_left fun z => z) (fun a z => (a5 a z).resolve_left fun z => z) a6
  cases x <;> simp only [opSl, reduceCtorEq] at hg
  · split at hg <;> simp only [reduceCtorEq, Option.some.injEq] at hg
    rename_i hl
    subst hg
    obtain rfl := rf_str r
    refine .inr ⟨_, rfl, by rw [txt_len]; exact lim_line hl, ?_⟩
    rw [cut_txt]
    exact keep_flat s rfl k' _ mk_str
  · cases hg
    simp only [RF] at r
    obtain ⟨a1, vs, rfl, q1, r1⟩ := r
    exact .inl ⟨a1, vs, rfl, .inl (Rd.sub s q1), fun p np => new_shared (tup := false) s (rfl_cut l u r1) np k'⟩
theorem se_slT {q1 q2 q3 : Bool} {ra : Env → R D} {rl rh : Env → R (Option Int)} {a : Expr} {lo hi : Option Expr} {p2 pos : Pos} {Γ Γ1 Γ2 Γ3 : Gm} {m : Nat} (hK : X.K = T.K) (ha : SE X T W kp q1 ra a Γ m Γ1) (hm : own m = true) (hl : SO X T W kp q2 rl lo Γ1 Γ2) (hh : SO X T W kp q3 rh hi Γ2 Γ3) :
    SE X T W kp (q1 && (q2 && q3)) (fun e => (ra e).bind fun x e1 => (rl e1).bind fun l e2 => (rh e2).bind fun u e3 => R.lift (opSlT l u x) e3) (.Subscript a (.Slice lo hi none p2) pos) Γ 1 Γ3 := by
  refine PE.mono (pe_slice (SlR.or sl_list (SlR.or sl_tupA sl_str)) (se_weak ha (leG.refl _) (.inr ⟨Nat.le_refl 1, own_pos hm⟩)) hl hh) fun σ H Q z => rd_sl z fun F H' x v l u d s r hg k => ?_
  have k' : ∀ F2 H2 w f2, Sub F2 H2 → Sub F F2 → Sub H' H2 → (∀ a, F a = none → F2 a ≠ none → emp a ∨ H' a = none) → (∀ a, f2 a → emp a ∨ H' a = none) → Val T.K 1 F2 H2 d w f2 → Q w H2 :=
    fun F2 H2 w f2 a1 a2 a3 a4 a5 a6 => k F2 H2 w f2 a1 a2 a3 (fun a z z' => (a4 a z z').resolve_left fun z => z) (fun a z => (a5 a z).resolve_left fun z => z) a6
  cases x <;> simp only [opSlT, reduceCtorEq] at hg
  · split at hg <;> simp only [reduceCtorEq, Option.some.injEq] at hg
    rename_i hl
    subst hg
    obtain rfl := rf_str r
    refine .inr (.inr ⟨_, rfl, by rw [txt_len]; exact lim_line hl, ?_⟩)
    rw [cut_txt]
    exact keep_flat s rfl k' _ mk_str
  · rename_i xs
    cases hg
    have r' := r
    simp only [RF] at r
    obtain ⟨a1, vs, rfl, q1, r1⟩ := r
    refine .inr (.inl ⟨a1, vs, rfl, hK ▸ SqT.sub s q1, fun hw => ?_, fun _ p np => new_frozen (tup := true) s (rfl_cut l u r1) np k'⟩)
    simp only [sIx_eq, rfl_len r1] at hw
    have e : cut xs l u = xs := by
      unfold cut
      rw [hw.1, hw.2]
      simp only [List.drop_zero, Nat.sub_zero]
      exact List.take_length
    rw [e] at k'
    exact k' F H' _ emp s (Sub.refl F) (Sub.refl H') (fun a z z' => (z' z).elim) (fun a z => z.elim) (Val.of (by decide) (RO.of1 (Nat.le_refl 1) r'))
  · cases hg
    simp only [RF] at r
    obtain ⟨a1, vs, rfl, q1, r1⟩ := r
    exact .inl ⟨a1, vs, rfl, .inl (Rd.sub s q1), fun p np => new_frozen (tup := false) s (rfl_cut l u r1) np k'⟩
end
end Z

/-! Z16: built-in functions. -/
namespace Z
open PySem PySem.Spec L2 PyProof.Rows
section
variable {X : Cx} {T : Tb} {W : WX} {kp : List Nat} {K : PySem.W.Frag}
/-- a built-in whose answer is flat -/
def BiF (K : PySem.W.Frag) (g : List D → Option D) (r : List V → Hp → VK → Prop) : Prop := ∀ H xs vs d Q, RFL K H xs vs → g xs = some d → flat d = true ∧ ((∀ w, RF K H d w → Q w H) → r vs H Q)
theorem rd_biF {q : Bool} {rs : Env → R (List D)} {Γ Γ1 : Gm} {ms : List Nat} {mo : Nat} {g : List D → Option D} {r : List V → Hp → VK → Prop} {σ : L2.St} {H : Hp} {Q : VK} (hb : BiF T.K g r) (z : rdE T W kp q (fun e => (rs e).bind fun xs e1 => R.lift (g xs) e1) Γ mo Γ1 σ H Q) : tCB r (rdL T W kp q rs Γ ms Γ1) σ H Q :=
  rd_many (rr := fun vs H Q => r vs H Q) z fun F H' xs vs f d s _ val hg k => by
    obtain ⟨fl, h⟩ := hb H' xs vs d Q (ValL.rf s val) hg
    exact h (keep_flat s fl k)
theorem se_biF {q : Bool} {rs : Env → R (List D)} {x : Str} {p pos : Pos} {a : Expr} {as : List Expr} {id : String} {Γ Γ1 : Gm} {ms : List Nat} {mo : Nat} {g : List D → Option D} {r : List V → Hp → VK → Prop} (hb : BiF T.K g r) (hc : CallR X (.builtin id) r) (hg : Gl X x) (hm : X.mg x = none) (hv : bootBuiltins x = some (.builtin id)) (hn : x ≠ "__name__") (hdb : (x == ("__debug__" : Str)) = false)
    (ha : SL X T W kp q rs (a :: as) Γ ms Γ1) (h2 : (a :: as).all ns = true) : SE X T W kp q (fun e => (rs e).bind fun xs e1 => R.lift (g xs) e1) (.Call (.Name x p) (a :: as) [] pos) Γ mo Γ1 := by
  simp only [List.all_cons, Bool.and_eq_true] at h2
  exact PE.mono (pe_callB hc hg hm hv ha hn hdb (star_cons h2.1) (star_any h2.2)) fun _ _ _ z => rd_biF hb z
theorem se_tyF {q : Bool} {rs : Env → R (List D)} {x : Str} {p pos : Pos} {a : Expr} {as : List Expr} {id : String} {Γ Γ1 : Gm} {ms : List Nat} {mo : Nat} {g : List D → Option D} {r : List V → Hp → VK → Prop} (hb : BiF T.K g r) (hc : CallR X (.type id) r) (hg : Gl X x) (hm : X.mg x = none) (hv : bootBuiltins x = some (.type id)) (hn : x ≠ "__name__") (hdb : (x == ("__debug__" : Str)) = false)
    (ha : SL X T W kp q rs (a :: as) Γ ms Γ1) (h2 : (a :: as).all ns = true) : SE X T W kp q (fun e => (rs e).bind fun xs e1 => R.lift (g xs) e1) (.Call (.Name x p) (a :: as) [] pos) Γ mo Γ1 := by
  simp only [List.all_cons, Bool.and_eq_true] at h2
  exact PE.mono (pe_callTy hc hg hm hv ha hn hdb (star_cons h2.1) (star_any h2.2)) fun _ _ _ z => rd_biF hb z
theorem rfl1 {H : Hp} {d : D} {vs : List V} (h : RFL K H [d] vs) : ∃ v, vs = [v] ∧ RF K H d v := by
  simp only [RFL] at h
  obtain ⟨w, ws, rfl, q, rfl⟩ := h
  exact ⟨w, rfl, q⟩
theorem rfl2 {H : Hp} {d d2 : D} {vs : List V} (h : RFL K H [d, d2] vs) : ∃ v u, vs = [v, u] ∧ RF K H d v ∧ RF K H d2 u := by
  simp only [RFL] at h
  obtain ⟨w, ws, rfl, q, w2, ws2, rfl, q2, rfl⟩ := h
  exact ⟨w, w2, rfl, q, q2⟩
/-- the answers of a built-in, one by one -/
theorem biF_one {g : List D → Option D} {r : List V → Hp → VK → Prop} (h1 : ∀ xs d, g xs = some d → ∃ x, xs = [x]) (h : ∀ H x v d Q, RF K H x v → g [x] = some d → flat d = true ∧ ((∀ w, RF K H d w → Q w H) → r [v] H Q)) : BiF K g r := by
  intro H xs vs d Q rr hg
  obtain ⟨x, rfl⟩ := h1 xs d hg
  obtain ⟨v, rfl, rv⟩ := rfl1 rr
  exact h H x v d Q rv hg
theorem b1_one {f : B1} (hf : f = .len ∨ f = .abs ∨ f = .int ∨ f = .str ∨ f = .sum ∨ f = .all ∨ f = .any) : ∀ xs d, b1 f xs = some d → ∃ x, xs = [x] := by
  intro xs d h
  rcases hf with rfl | rfl | rfl | rfl | rfl | rfl | rfl <;> (match xs, h with
    | [], h => simp [b1] at h
    | [x], h => exact ⟨x, rfl⟩
    | x :: y :: r, h => simp [b1] at h)
theorem bi_len : BiF K (b1 .len) (fun xs H Q => ∃ x n, xs = [x] ∧ LenV K x H n ∧ Q (.int n) H) := biF_one (b1_one (.inl rfl)) fun H x v d Q rv hg => by
  cases x <;> simp only [b1, reduceCtorEq] at hg
  · split at hg <;> simp only [reduceCtorEq, Option.some.injEq] at hg
    rename_i hl
    subst hg
    obtain rfl := rf_str rv
    exact ⟨rfl, fun k => ⟨_, _, rfl, ⟨by rw [txt_len]; exact lim_line hl, rfl⟩, by rw [txt_len]; exact k _ mk_int⟩⟩
  · cases hg
    simp only [RF] at rv
    obtain ⟨a, vs, rfl, q, r⟩ := rv
    exact ⟨rfl, fun k => ⟨_, _, rfl, .inr ⟨vs, q, rfl⟩, by rw [rfl_len r]; exact k _ mk_int⟩⟩
  · cases hg
    simp only [RF] at rv
    obtain ⟨a, vs, rfl, q, r⟩ := rv
    exact ⟨rfl, fun k => ⟨_, _, rfl, .inl ⟨vs, .inl q, rfl⟩, by rw [rfl_len r]; exact k _ mk_int⟩⟩
  · simp only [RF] at rv
theorem bi_abs : BiF K (b1 .abs) (fun xs H Q => ∃ i, xs = [.int i] ∧ Q (.int (if i < 0 then -i else i)) H) := biF_one (b1_one (.inr (.inl rfl))) fun H x v d Q rv hg => by
  cases x <;> simp only [b1, reduceCtorEq, Option.some.injEq] at hg
  subst hg
  obtain rfl := rf_int rv
  exact ⟨rfl, fun k => ⟨_, rfl, k _ mk_int⟩⟩
theorem bi_int : BiF K (b1 .int) (fun xs H Q => (∃ i, xs = [.int i] ∧ Q (.int i) H) ∨ ∃ k, xs = [.bl k] ∧ Q (.int (if k then 1 else 0)) H) := biF_one (b1_one (.inr (.inr (.inl rfl)))) fun H x v d Q rv hg => by
  cases x <;> simp only [b1, reduceCtorEq, Option.some.injEq] at hg
  · subst hg
    obtain rfl := rf_bl rv
    exact ⟨rfl, fun k => .inr ⟨_, rfl, k _ mk_int⟩⟩
  · subst hg
    obtain rfl := rf_int rv
    exact ⟨rfl, fun k => .inl ⟨_, rfl, k _ mk_int⟩⟩
theorem ints_rfl {H : Hp} : ∀ {xs : List D} {vs : List V} {l : List Int}, RFL K H xs vs → ints? xs = some l → vs = l.map V.int
  | [], vs, l, h, e => by simp [ints?] at e; subst e; simp only [RFL] at h; simpa using h
  | x :: xs, vs, l, h, e => by
    simp only [RFL] at h
    obtain ⟨w, ws, rfl, q, r⟩ := h
    cases x <;> simp only [ints?, reduceCtorEq, Option.map_eq_some_iff] at e
    obtain ⟨l', e', rfl⟩ := e
    rw [rf_int q, ints_rfl r e']; rfl
theorem bls_rfl {H : Hp} : ∀ {xs : List D} {vs : List V} {l : List Bool}, RFL K H xs vs → bls? xs = some l → vs = l.map V.bl
  | [], vs, l, h, e => by simp [bls?] at e; subst e; simp only [RFL] at h; simpa using h
  | x :: xs, vs, l, h, e => by
    simp only [RFL] at h
    obtain ⟨w, ws, rfl, q, r⟩ := h
    cases x <;> simp only [bls?, reduceCtorEq, Option.map_eq_some_iff] at e
    obtain ⟨l', e', rfl⟩ := e
    rw [rf_bl q, bls_rfl r e']; rfl
theorem bi_sum : BiF K (b1 .sum) (rSum K) := biF_one (b1_one (by simp)) fun H x v d Q rv hg => by
  cases x <;> simp only [b1, reduceCtorEq, Option.map_eq_some_iff] at hg
  obtain ⟨l, e, rfl⟩ := hg
  simp only [RF] at rv
  obtain ⟨a, vs, rfl, q, r⟩ := rv
  exact ⟨rfl, fun k => ⟨a, l, rfl, by rw [← ints_rfl r e]; exact .inl q, k _ mk_int⟩⟩
theorem bi_all : BiF K (b1 .all) (rAll K) := biF_one (b1_one (by simp)) fun H x v d Q rv hg => by
  cases x <;> simp only [b1, reduceCtorEq, Option.map_eq_some_iff] at hg
  obtain ⟨l, e, rfl⟩ := hg
  simp only [RF] at rv
  obtain ⟨a, vs, rfl, q, r⟩ := rv
  exact ⟨rfl, fun k => ⟨a, l, rfl, by rw [← bls_rfl r e]; exact .inl q, k _ mk_bl⟩⟩
theorem bi_any : BiF K (b1 .any) (rAny K) := biF_one (b1_one (by simp)) fun H x v d Q rv hg => by
  cases x <;> simp only [b1, reduceCtorEq, Option.map_eq_some_iff] at hg
  obtain ⟨l, e, rfl⟩ := hg
  simp only [RF] at rv
  obtain ⟨a, vs, rfl, q, r⟩ := rv
  exact ⟨rfl, fun k => ⟨a, l, rfl, by rw [← bls_rfl r e]; exact .inl q, k _ mk_bl⟩⟩
theorem bi_max2 : BiF K (fun xs => match xs with | [.int i, .int j] => some (.int (if j > i then j else i)) | _ => none) (fun xs H Q => ∃ i j, xs = [.int i, .int j] ∧ Q (.int (if j > i then j else i)) H) := by
  intro H xs vs d Q rr hg
  dsimp only at hg
  split at hg <;> simp only [reduceCtorEq, Option.some.injEq] at hg
  subst hg
  obtain ⟨v, u, rfl, r1, r2⟩ := rfl2 rr
  obtain rfl := rf_int r1
  obtain rfl := rf_int r2
  exact ⟨rfl, fun k => ⟨_, _, rfl, k _ mk_int⟩⟩
theorem bi_min2 : BiF K (fun xs => match xs with | [.int i, .int j] => some (.int (if j < i then j else i)) | _ => none) (fun xs H Q => ∃ i j, xs = [.int i, .int j] ∧ Q (.int (if j < i then j else i)) H) := by
  intro H xs vs d Q rr hg
  dsimp only at hg
  split at hg <;> simp only [reduceCtorEq, Option.some.injEq] at hg
  subst hg
  obtain ⟨v, u, rfl, r1, r2⟩ := rfl2 rr
  obtain rfl := rf_int r1
  obtain rfl := rf_int r2
  exact ⟨rfl, fun k => ⟨_, _, rfl, k _ mk_int⟩⟩
theorem maxL_spec {l : List Int} {m : Int} (h : maxL l = some m) : 0 < l.length ∧ ∀ m', m' ∈ l → (∀ y, y ∈ l → y ≤ m') → m' = m := by
  cases l with
  | nil => cases h
  | cons x r =>
    simp only [maxL, Option.some.injEq] at h
    refine ⟨Nat.succ_pos _, fun m' hm hy => ?_⟩
    have key : ∀ (r : List Int) (x : Int), (r.foldl (fun m y => if m < y then y else m) x ∈ x :: r) ∧ ∀ y ∈ x :: r, y ≤ r.foldl (fun m y => if m < y then y else m) x := by
      intro r
      induction r with
      | nil => intro x; simp
      | cons a r ih =>
        intro x
        simp only [List.foldl_cons]
        obtain ⟨h1, h2⟩ := ih (if x < a then a else x)
        constructor
        · rcases List.mem_cons.mp h1 with h | h
          · rw [h]; split <;> simp
          · simp [h]
        · intro y hy
          have h3 := h2 _ List.mem_cons_self
          generalize hf : List.foldl _ _ r = m0 at h2 h3 ⊢
          clear hf
          rcases List.mem_cons.mp hy with rfl | hy
          · split at h3 <;> omega
          · rcases List.mem_cons.mp hy with rfl | hy
            · split at h3 <;> omega
            · exact h2 y (List.mem_cons_of_mem _ hy)
    obtain ⟨k1, k2⟩ := key r x
    rw [h] at k1 k2
    have := k2 m' hm
    have := hy m k1
    omega
theorem minL_spec {l : List Int} {m : Int} (h : minL l = some m) : 0 < l.length ∧ ∀ m', m' ∈ l → (∀ y, y ∈ l → m' ≤ y) → m' = m := by
  cases l with
  | nil => cases h
  | cons x r =>
    simp only [minL, Option.some.injEq] at h
    refine ⟨Nat.succ_pos _, fun m' hm hy => ?_⟩
    have key : ∀ (r : List Int) (x : Int), (r.foldl (fun m y => if y < m then y else m) x ∈ x :: r) ∧ ∀ y ∈ x :: r, r.foldl (fun m y => if y < m then y else m) x ≤ y := by
      intro r
      induction r with
      | nil => intro x; simp
      | cons a r ih =>
        intro x
        simp only [List.foldl_cons]
        obtain ⟨h1, h2⟩ := ih (if a < x then a else x)
        constructor
        · rcases List.mem_cons.mp h1 with h | h
          · rw [h]; split <;> simp
          · simp [h]
        · intro y hy
          have h3 := h2 _ List.mem_cons_self
          generalize hf : List.foldl _ _ r = m0 at h2 h3 ⊢
          clear hf
          rcases List.mem_cons.mp hy with rfl | hy
          · split at h3 <;> omega
          · rcases List.mem_cons.mp hy with rfl | hy
            · split at h3 <;> omega
            · exact h2 y (List.mem_cons_of_mem _ hy)
    obtain ⟨k1, k2⟩ := key r x
    rw [h] at k1 k2
    have := k2 m' hm
    have := hy m k1
    omega
theorem bi_maxL : BiF K (fun xs => match xs with | [.lst xs] => ((ints? xs).bind maxL).map .int | _ => none) (rMax K) := by
  intro H xs vs d Q rr hg
  dsimp only at hg
  split at hg <;> simp only [reduceCtorEq, Option.map_eq_some_iff, Option.bind_eq_some_iff] at hg
  obtain ⟨m, ⟨l, e, em⟩, rfl⟩ := hg
  obtain ⟨v, rfl, rv⟩ := rfl1 rr
  simp only [RF] at rv
  obtain ⟨a, vs, rfl, q, r⟩ := rv
  obtain ⟨h1, h2⟩ := maxL_spec em
  exact ⟨rfl, fun k => ⟨a, l, rfl, by rw [← ints_rfl r e]; exact .inl q, h1, fun m' hm hy => by rw [h2 m' hm hy]; exact k _ mk_int⟩⟩
theorem bi_minL : BiF K (fun xs => match xs with | [.lst xs] => ((ints? xs).bind minL).map .int | _ => none) (rMin K) := by
  intro H xs vs d Q rr hg
  dsimp only at hg
  split at hg <;> simp only [reduceCtorEq, Option.map_eq_some_iff, Option.bind_eq_some_iff] at hg
  obtain ⟨m, ⟨l, e, em⟩, rfl⟩ := hg
  obtain ⟨v, rfl, rv⟩ := rfl1 rr
  simp only [RF] at rv
  obtain ⟨a, vs, rfl, q, r⟩ := rv
  obtain ⟨h1, h2⟩ := minL_spec em
  exact ⟨rfl, fun k => ⟨a, l, rfl, by rw [← ints_rfl r e]; exact .inl q, h1, fun m' hm hy => by rw [h2 m' hm hy]; exact k _ mk_int⟩⟩
/-! ### list(x), tuple(x) -/
theorem one_rf {F H : Hp} {x : D} {vs : List V} {f : AS} (h : ValL T.K F H [1] [x] vs f) : ∃ v, vs = [v] ∧ RF T.K F x v := by
  obtain ⟨w1, ws, g1, g2, rfl, v1, v2, _, rfl⟩ := h
  obtain ⟨rfl, _⟩ := v2
  unfold Val at v1
  rw [if_neg (by decide)] at v1
  exact ⟨w1, rfl, (RO.to1 (Nat.le_refl 1) v1).1⟩
def listD : List D → Option D
  | [.lst xs] => some (.lst xs)
  | [.tup xs] => some (.lst xs)
  | _ => none
theorem se_list {q : Bool} {ra : Env → R D} {p pos : Pos} {a : Expr} {Γ Γ1 : Gm} {m : Nat} (hK : X.K = T.K) (hg : Gl X "list") (hm : X.mg "list" = none) (ha : SE X T W kp q ra a Γ m Γ1) (hmo : own m = true) (h2 : ns a = true) :
    SE X T W kp q (fun e => ((ra e).bind fun x e1 => .ok [x] e1).bind fun xs e1 => R.lift (listD xs) e1) (.Call (.Name "list" p) [a] [] pos) Γ 2 Γ1 := by
  have hl := sl_cons (q2 := true) (se_weak ha (leG.refl _) (m2 := 1) (.inr ⟨Nat.le_refl 1, own_pos hmo⟩)) (sl_nil (Γ := Γ1)) (.inr rfl) (star_cons h2)
  rw [Bool.and_true] at hl
  simp only [R.bind_ok] at hl
  refine PE.mono (pe_callTy call_list_of hg hm (by decide +kernel) hl (by decide) (by decide) (star_cons h2) (star_any rfl)) fun σ H Q z => rd_many (rr := fun vs H Q => _) z fun F H' xs vs f d s _ val hgd k => ?_
  match xs, val, hgd with
  | [x], val, hgd =>
    obtain ⟨v, rfl, r⟩ := one_rf val
    cases x <;> simp only [listD, reduceCtorEq, Option.some.injEq] at hgd
    · subst hgd
      simp only [RF] at r
      obtain ⟨a, vs, rfl, qq, r⟩ := r
      exact ⟨a, vs, rfl, .inr (hK ▸ SqT.sub s qq), fun l np => new_shared (tup := false) s r np k⟩
    · subst hgd
      simp only [RF] at r
      obtain ⟨a, vs, rfl, qq, r⟩ := r
      exact ⟨a, vs, rfl, .inl (.inl (Rd.sub s qq)), fun l np => new_shared (tup := false) s r np k⟩
  | [], val, hgd => simp [listD] at hgd
  | x :: y :: r, val, hgd => simp [listD] at hgd
def tupleD : List D → Option D
  | [.lst xs] => some (.tup xs)
  | [.tup xs] => some (.tup xs)
  | _ => none
theorem se_tuple {q : Bool} {ra : Env → R D} {p pos : Pos} {a : Expr} {Γ Γ1 : Gm} {m : Nat} (hK : X.K = T.K) (hg : Gl X "tuple") (hm : X.mg "tuple" = none) (ha : SE X T W kp q ra a Γ m Γ1) (hmo : own m = true) (h2 : ns a = true) :
    SE X T W kp q (fun e => ((ra e).bind fun x e1 => .ok [x] e1).bind fun xs e1 => R.lift (tupleD xs) e1) (.Call (.Name "tuple" p) [a] [] pos) Γ 1 Γ1 := by
  have hl := sl_cons (q2 := true) (se_weak ha (leG.refl _) (m2 := 1) (.inr ⟨Nat.le_refl 1, own_pos hmo⟩)) (sl_nil (Γ := Γ1)) (.inr rfl) (star_cons h2)
  rw [Bool.and_true] at hl
  simp only [R.bind_ok] at hl
  refine PE.mono (pe_callTy call_tuple_of hg hm (by decide +kernel) hl (by decide) (by decide) (star_cons h2) (star_any rfl)) fun σ H Q z => rd_many (rr := fun vs H Q => _) z fun F H' xs vs f d s _ val hgd k => ?_
  match xs, val, hgd with
  | [x], val, hgd =>
    obtain ⟨v, rfl, r⟩ := one_rf val
    cases x <;> simp only [tupleD, reduceCtorEq, Option.some.injEq] at hgd
    · rename_i ys
      subst hgd
      have r' := r
      simp only [RF] at r
      obtain ⟨a, vs, rfl, qq, r⟩ := r
      exact ⟨a, vs, rfl, .inr ⟨hK ▸ SqT.sub s qq, k F H' _ emp s (Sub.refl F) (Sub.refl H') (fun a z z' => (z' z).elim) (fun a z => z.elim) (Val.of (by decide) (RO.of1 (Nat.le_refl 1) r'))⟩⟩
    · subst hgd
      simp only [RF] at r
      obtain ⟨a, vs, rfl, qq, r⟩ := r
      exact ⟨a, vs, rfl, .inl ⟨.inl (Rd.sub s qq), fun l np => new_frozen (tup := true) s r np k⟩⟩
  | [], val, hgd => simp [tupleD] at hgd
  | x :: y :: r, val, hgd => simp [tupleD] at hgd
end
end Z

/-! Z17: isinstance, globals, and / or, calls. -/
namespace Z
open PySem PySem.Spec L2 PyProof.Rows
/-! ### the promise of a def -/
def lvAt : List Nat → List Nat → Nat → Nat
  | i :: is, l :: ls, j => if j = i then l else lvAt is ls j
  | _, _, _ => 1
/-- the levels of the arguments -/
def Fn.alv (fn : Fn) : List Nat := (List.range fn.np).map (lvAt fn.io fn.il)
/-- the changed arguments, at their places -/
def OutL (K : PySem.W.Frag) (F H : Hp) : List Nat → List Nat → List D → List V → AS → Prop
  | i :: is, l :: ls, d :: ds, vs, f => ∃ v f1 f2, vs[i]? = some v ∧ RO K F H d l v f1 ∧ OutL K F H is ls ds vs f2 ∧ Dis f1 f2 ∧ f = fun b => f1 b ∨ f2 b
  | [], [], [], _, f => f = emp
  | _, _, _, _, _ => False
def spF (T : Tb) (n f : Nat) : Sp := fun vs H Q E => ∃ fn xs F g o, T.P.fns[f]? = some fn ∧ vs.length = fn.np ∧ Sub F H ∧ ValL T.K F H fn.alv xs vs g ∧ match run T.P n f xs o with
  | .ok r outs _ => ∀ F' H' v f' fo, Sub F' H' → Ch g g F H F' H' → RO T.K F' H' r fn.rl v f' → OutL T.K F' H' fn.io fn.il outs vs fo → Dis f' fo → (∀ a, f' a ∨ fo a → g a ∨ H a = none) → Q v H'
  | .exc x _ => ∀ F' H' cls dx, Sub F' H' → Ch g g F H F' H' → Exc T F' H' x cls dx → E cls dx H'
  | .bad => False
theorem spF_len {T : Tb} {n f : Nat} {fn : Fn} (hf : T.P.fns[f]? = some fn) : ∀ vs H Q E, spF T n f vs H Q E → vs.length = fn.np := by
  rintro vs H Q E ⟨fn', xs, F, g, o, e, hl, _⟩
  rw [hf] at e; cases e
  exact hl
/-- a def of the text, as a callee -/
structure Callee (T : Tb) (n f : Nat) (fn : Fn) (x : Str) (X : Cx) : Prop where
  ex : ∃ a fd ps, ps.length = fn.np ∧ FnOk X.prog X.w X.K X.mg X.base (L2.CX X.prog X.w) n a fd ps (spF T n f) ∧ X.mg x = some (.ref a) ∧ PySem.W.keepIn X.K (.ref a) = true ∧ Binds X.K fd ps []
section
variable {X : Cx} {T : Tb} {W : WX} {kp : List Nat} {K : PySem.W.Frag}
theorem rol_to1 {F H : Hp} : ∀ {xs : List D} {vs : List V} {f : AS}, ROL K F H xs 1 vs f → RFL K F xs vs ∧ f = emp
  | [], vs, f, h => by simp only [ROL] at h; simp only [RFL]; exact h
  | x :: xs, vs, f, h => by
    simp only [ROL] at h
    obtain ⟨w, ws, g1, g2, rfl, q, r, _, rfl⟩ := h
    obtain ⟨q1, rfl⟩ := RO.to1 (Nat.le_refl 1) q
    obtain ⟨r1, rfl⟩ := rol_to1 r
    simp only [RFL]
    exact ⟨⟨w, ws, rfl, q1, r1⟩, by funext a; simp [emp]⟩
/-- values of one's own, all shared from here on -/
theorem vall_share {F H : Hp} {ms : List Nat} {xs : List D} {vs : List V} {f : AS} (s : Sub F H) (h : ValL K F H ms xs vs f) (hm : ms.all own = true) : RFL K (frz F H f) xs vs := by
  obtain ⟨g, f', hs, hd, r⟩ := vall_rol (Nat.le_refl 1) s h fun m hm' => own_pos (List.all_eq_true.mp hm m hm')
  obtain ⟨r1, rfl⟩ := rol_to1 r
  have : g = f := by funext a; exact propext ⟨fun z => (hs a).mpr (.inl z), fun z => ((hs a).mp z).resolve_right fun z => z⟩
  subst this
  exact r1
theorem vall_of1 {F H : Hp} : ∀ {xs : List D} {vs : List V} (n : Nat), RFL K F xs vs → xs.length = n → ValL K F H (List.replicate n 1) xs vs emp
  | [], vs, n, h, hl => by simp at hl; subst hl; simp only [RFL] at h; simp only [List.replicate, ValL]; exact ⟨h, trivial⟩
  | x :: xs, vs, 0, h, hl => by simp at hl
  | x :: xs, vs, n + 1, h, hl => by
    simp only [RFL] at h
    obtain ⟨w, ws, rfl, q, r⟩ := h
    simp only [List.replicate_succ, ValL]
    exact ⟨w, ws, emp, emp, rfl, Val.of (by decide) (RO.of1 (Nat.le_refl 1) q), vall_of1 n r (by simpa using hl), fun _ z => z.elim, by funext a; simp [emp]⟩
theorem alv_io0 {fn : Fn} (h : fn.io = []) : fn.alv = List.replicate fn.np 1 := by
  unfold Fn.alv
  rw [h]
  have : lvAt [] fn.il = fun _ => 1 := by funext j; unfold lvAt; rfl
  rw [this]
  refine List.ext_getElem (by simp) fun i h1 h2 => by simp
theorem putBack_io0 : ∀ (as : List C) (e : Env), putBack as [] e = e
  | [], e => by simp [putBack]
  | a :: as, e => by cases a <;> simp only [putBack] <;> exact putBack_io0 as e
theorem vall_len2 {F H : Hp} : ∀ {ms : List Nat} {xs : List D} {vs : List V} {f : AS}, ValL K F H ms xs vs f → xs.length = ms.length
  | [], [], _, _, h => rfl
  | m :: ms, x :: xs, _, _, h => by
    simp only [ValL] at h
    obtain ⟨w, ws, g1, g2, e, h1, h2, d, rfl⟩ := h
    simp [vall_len2 h2]
  | [], _ :: _, _, _, h => by simp only [ValL] at h
  | _ :: _, [], _, _, h => by simp only [ValL] at h
/-- every local, shared -/
theorem st_share {Γ : Gm} {e : List D} {σ : L2.St} {F H : Hp} {fp : Nat → AS} {i : Nat} (s : St K Γ e σ F H fp) (hi : 1 ≤ lvOf Γ i) : ∃ d v, e[i]? = some d ∧ σ[i]? = some (some v) ∧ RF K (frz F H (Own fp)) d v := by
  obtain ⟨d, v, e1, e2, r⟩ := s.at_ i hi
  refine ⟨d, v, e1, e2, ?_⟩
  obtain ⟨g, f', hs, _, r'⟩ := RO.weak s.sub d _ 1 v _ (Nat.le_refl 1) hi r
  obtain ⟨r1, _⟩ := RO.to1 (Nat.le_refl 1) r'
  refine RF.sub (fun a o ea => ?_) _ _ r1
  by_cases hg : g a
  · rw [frz_in hg] at ea
    rw [frz_in (show Own fp a from ⟨i, (hs a).mpr (.inl hg)⟩)]; exact ea
  · rw [frz_out hg] at ea
    by_cases ho : Own fp a
    · rw [frz_in ho]; exact s.sub a o ea
    · rw [frz_out ho]; exact ea
/-- behind a call that changes no argument -/
theorem rd_call {q : Bool} {rs : Env → R (List D)} {as : List C} {Γ Γ1 : Gm} {ms : List Nat} {n f : Nat} {fn : Fn} {σ : L2.St} {H : Hp} {Q : VK} (hf : T.P.fns[f]? = some fn) (hio : fn.io = []) (hm : ms.all own = true) (hl : ms.length = fn.np) (hrl : 1 ≤ fn.rl) (hkp : ∀ i ∈ kp, 1 ≤ lvOf Γ1 i)
    (z : rdE T W kp q (fun e => (rs e).bind fun xs e1 => callR (run T.P n) f as xs e1) Γ fn.rl Γ1 σ H Q) :
    tCallS (spF T n f) (WE W) (rdL T W kp q rs Γ ms Γ1) σ H Q := by
  obtain ⟨e, F, fp, s, z⟩ := z
  refine ⟨e, F, fp, s, ?_⟩
  dsimp only at z
  cases e1 : rs e with
  | bad => rw [e1] at z; exact z
  | exc y e' => rw [e1] at z; exact z
  | ok xs e' =>
    rw [e1] at z
    simp only [R.bind_ok] at z
    intro F1 H1 fp1 vs f1 g1 val
    have r1 := vall_share g1.st.sub val hm
    have hc := val.cells
    have hxl : xs.length = fn.np := by rw [← hl]; exact (vall_len2 val)
    refine ⟨fn, xs, frz F1 H1 f1, emp, e'.o, hf, by rw [vall_len val]; exact hxl, frz_le g1.st.sub, ?_, ?_⟩
    · rw [alv_io0 hio]
      exact vall_of1 _ r1 hxl
    · have sF : Sub F1 (frz F1 H1 f1) := frz_sub fun a z => (hc a z).1
      have c1 : Ch (Own fp) (Wr q fp) F H (frz F1 H1 f1) H1 := ⟨g1.ch.sub.trans sF, g1.ch.keep, fun a z z' => by
        by_cases ha : f1 a
        · exact g1.grow a (.inr ha)
        · rw [frz_out ha] at z'; exact g1.ch.new a z z'⟩
      have st1 : St T.K Γ1 e'.s σ (frz F1 H1 f1) H1 fp1 := ⟨frz_le g1.st.sub, g1.st.lG, g1.st.le, fun i hi => by
        obtain ⟨d2, v2, e3, e4, r2⟩ := g1.st.at_ i hi
        exact ⟨d2, v2, e3, e4, RO.kept d2 _ v2 _ (frz_kept (fun a ha => (hc a ha).1) fun a z1 z2 => g1.dis a z2 ⟨i, z1⟩) r2⟩, g1.st.dis, g1.st.dead⟩
      unfold callR at z
      -- what is kept of a state behind the callee
      have after : ∀ F' H', Sub F' H' → Ch emp emp (frz F1 H1 f1) H1 F' H' → St T.K Γ1 e'.s σ F' H' fp1 := fun F' H' sub' ch => ⟨sub', st1.lG, st1.le, fun i hi => by
        obtain ⟨d2, v2, e3, e4, r2⟩ := st1.at_ i hi
        refine ⟨d2, v2, e3, e4, RO.kept d2 _ v2 _ ⟨ch.sub, fun a ha => ?_, fun a ha hn => ?_⟩ r2⟩
        · have := (st1.cells ⟨i, ha⟩).2
          cases eh : H1 a with
          | none => exact absurd eh this
          | some z => exact ch.keep a z eh fun z => z
        · cases ef : F' a with
          | none => rfl
          | some z => exact ((ch.new a hn (by rw [ef]; simp)).elim (fun z => z) fun z => (st1.cells ⟨i, ha⟩).2 z).elim, st1.dis, st1.dead⟩
      cases er : run T.P n f xs e'.o with
      | bad => rw [er] at z; exact z
      | exc x o =>
        rw [er] at z
        dsimp only at z ⊢
        intro F' H' cls dx sub' ch ex
        have st2 := after F' H' sub' ch
        have hown : ∀ a, Own fp1 a → F' a = none ∧ H' a ≠ none := fun a ha => st2.cells ha
        have sF2 : Sub F' (frz F' H' (Own fp1)) := frz_sub fun a z => (hown a z).1
        refine z (frz F' H' (Own fp1)) H' cls dx (frz_le sub') st1.le ?_ (fun i hi => st_share st2 (hkp i hi)) ?_
        · refine Ch.trans (c1.mono (fun _ z => z) fun _ z => z.2) (fun _ z => z) (fun a z => g1.grow a (.inl z)) (?_ : Ch (Own fp1) (Own fp1) _ H1 _ H') (fun _ z => z) fun _ _ z => z
          refine ⟨ch.sub.trans sF2, fun a o ea _ => ch.keep a o ea fun z => z, fun a z z' => ?_⟩
          by_cases ha : Own fp1 a
          · exact .inl ha
          · rw [frz_out ha] at z'
            exact (ch.new a z z').imp (fun z => z.elim) id
        · cases x <;> try exact ex.elim
          obtain ⟨h1, a, vs2, h2, h3, h4, h5⟩ := ex
          exact ⟨h1, a, vs2, h2, h3, h4, RFL.sub sF2 _ _ h5⟩
      | ok r outs o =>
        rw [er] at z
        dsimp only at z ⊢
        intro F' H' v f' fo sub' ch ro ol dd gr
        have st2 := after F' H' sub' ch
        have houts : outs = [] := by
          rw [hio] at ol
          cases hil : fn.il with
          | nil =>
            rw [hil] at ol
            cases outs with
            | nil => rfl
            | cons d ds => exact ol.elim
          | cons l ls => rw [hil] at ol; exact ol.elim
        subst houts
        rw [putBack_io0] at z
        have grf : ∀ a, f' a → H1 a = none := fun a z => (gr a (.inl z)).resolve_left fun z => z
        refine z F' H' fp1 v f' ⟨g1.same, st2, fun a z1 z2 => (st1.cells z2).2 (grf a z1), ?_, fun a z => ?_⟩ (Val.of (by omega) ro)
        · exact Ch.trans c1 (fun _ z => z.2) (fun a z => g1.grow a (.inl z)) (ch.mono (fun _ z => z.elim) (fun _ z => z.elim) : Ch (Own fp1) emp _ H1 F' H') (fun _ z => z.elim) fun _ z => z.elim
        · rcases z with z | z
          · exact g1.grow a (.inl z)
          · exact Grow.none (f := emp) (g := emp) g1.ch (fun _ z => z.2) (grf a z)
theorem se_call {q : Bool} {rs : Env → R (List D)} {as : List C} {x : Str} {p pos : Pos} {a : Expr} {es : List Expr} {Γ Γ1 : Gm} {ms : List Nat} {n f : Nat} {fn : Fn} (hf : T.P.fns[f]? = some fn) (hio : fn.io = []) (hm : ms.all own = true) (hl : ms.length = fn.np) (hrl : 1 ≤ fn.rl) (hkp : ∀ i ∈ kp, 1 ≤ lvOf Γ1 i)
    (tk : Takes X W) (hr : Room n X.A) (hg : Gl X x) (c : Callee T n f fn x X) (ha : SL X T W kp q rs (a :: es) Γ ms Γ1) (h2 : (a :: es).all ns = true) (hdb : (x == ("__debug__" : Str)) = false) :
    SE X T W kp q (fun e => (rs e).bind fun xs e1 => callR (run T.P n) f as xs e1) (.Call (.Name x p) (a :: es) [] pos) Γ fn.rl Γ1 := by
  obtain ⟨ad, fd, ps, hps, F, hmg, hk, hb⟩ := c.ex
  simp only [List.all_cons, Bool.and_eq_true] at h2
  exact PE.mono (pe_callS F hr hg hmg hk hb (fun σ => passAt tk σ) ha hdb (star_cons h2.1) (star_any h2.2)) fun _ _ _ z => rd_call hf hio hm hl hrl hkp z
end
end Z

/-! Z18: isinstance, globals, and / or. -/
namespace Z
open PySem PySem.Spec L2 PyProof.Rows
section
variable {X : Cx} {T : Tb} {W : WX} {kp : List Nat} {K : PySem.W.Frag}
/-! ### isinstance -/
def isTy : B1 → Option String
  | .isInt => some "int"
  | .isBool => some "bool"
  | .isStr => some "str"
  | .isList => some "list"
  | .isTuple => some "tuple"
  | _ => none
def tyN : D → Option String
  | .non => some "NoneType"
  | .bl _ => some "bool"
  | .int _ => some "int"
  | .str _ => some "str"
  | .lst _ => some "list"
  | .tup _ => some "tuple"
  | _ => none
theorem ty_of {H : Hp} {d : D} {v : V} {t : String} (h : RF K H d v) (e : tyN d = some t) : TyX K H v (.type t) := by
  cases d <;> simp only [tyN, reduceCtorEq, Option.some.injEq] at e <;> subst e <;> simp only [RF] at h
  · subst h; exact .base .non
  · subst h; exact .base (.bl _)
  · subst h; exact .base (.int _)
  · subst h; exact .base (.str _)
  · obtain ⟨a, vs, rfl, q, _⟩ := h
    rcases q with (q | ⟨o, q⟩) | ⟨o, its, n, q, c, _⟩
    · exact .base (.tup q)
    · exact .fTuple q
    · exact .kTuple q c
  · obtain ⟨a, vs, rfl, q, _⟩ := h
    rcases q with q | ⟨o, q⟩
    · exact .base (.lst q)
    · exact .base (.frz q)
theorem isi_spec {f : B1} {t : String} {x d : D} (hf : isTy f = some t) (h : b1 f [x] = some d) : ∃ u b, tyN x = some u ∧ kitB u t = some b ∧ d = .bl b := by
  cases f <;> simp only [isTy, reduceCtorEq, Option.some.injEq] at hf <;> subst hf <;> cases x <;> simp only [b1, reduceCtorEq, Option.map_some, Option.map_none, Option.some.injEq] at h <;> subst h <;> exact ⟨_, _, rfl, by decide +kernel, rfl⟩
theorem se_isi {q : Bool} {ra : Env → R D} {p p2 pos : Pos} {a : Expr} {Γ Γ1 : Gm} {m mo : Nat} {f : B1} {t : String} {ts : Str} (hK : X.K = T.K) (hf : isTy f = some t) (hg : Gl X "isinstance") (hm : X.mg "isinstance" = none) (hg2 : Gl X ts) (hm2 : X.mg ts = none) (hv : bootBuiltins ts = some (.type t)) (hn : ts ≠ "__name__") (hdb : (ts == ("__debug__" : Str)) = false) (ha : SE X T W kp q ra a Γ m Γ1) (h2 : ns a = true) :
    SE X T W kp q (fun e => ((ra e).bind fun x e1 => .ok [x] e1).bind fun xs e1 => R.lift (b1 f xs) e1) (.Call (.Name "isinstance" p) [a, .Name ts p2] [] pos) Γ mo Γ1 := by
  refine PE.mono (pe_callB call_isi hg hm (by decide +kernel) (pa_cons ha (pa_cons (pe_bltn (v := .ty t) hg2 hm2 hv rfl hn hdb) pa_nil) (star_cons h2)) (by decide) (by decide) (star_cons h2) (star_any rfl)) fun σ H Q z => ?_
  show rdE T W kp q ra Γ m Γ1 σ H fun x H1 => rIsi X.K [x, .ty t] H1 Q
  have z' : rdE T W kp q (fun e => (ra e).bind fun x e1 => R.lift (b1 f [x]) e1) Γ mo Γ1 σ H Q := by
    obtain ⟨e, F, fp, s, z⟩ := z
    refine ⟨e, F, fp, s, ?_⟩
    dsimp only at z ⊢
    cases e1 : ra e <;> (rw [e1] at z; exact z)
  refine rd_one (rr := fun x H1 Q => rIsi X.K [x, .ty t] H1 Q) z' fun F H' x v f d s val hgd k => ?_
  obtain ⟨u, b, e1, e2, rfl⟩ := isi_spec hf hgd
  exact ⟨v, .ty t, _, _, b, rfl, .ty t, hK ▸ ty_of (val.rf s) e1, kit_ty e2, keep_flat s rfl k _ mk_bl⟩
/-! ### globals -/
/-- a constant of the module -/
structure GlOk (T : Tb) (x : Str) (d : D) (X : Cx) : Prop where
  ex : ∃ v u, X.mg x = some u ∧ RelV v u ∧ ∀ F, RF T.K F d v
theorem se_gl {q : Bool} {x : Str} {p : Pos} {d : D} {Γ : Gm} {o : Option D} (hg : Gl X x) (g : GlOk T x d X) (hdb : (x == ("__debug__" : Str)) = false) (ho : o = some d) : SE X T W kp q (fun e => R.lift o e) (.Name x p) Γ (if flat d then 100 else 1) Γ := by
  subst ho
  obtain ⟨v, u, h1, h2, h3⟩ := g.ex
  refine PE.mono (pe_glob hg h1 h2 hdb) fun σ H Q h => ?_
  obtain ⟨e, F, fp, s, h⟩ := h
  refine h F H fp v emp (Go.refl s) ?_
  cases hf : flat d with
  | true => simp only [if_true]; exact Val.flat hf (h3 H)
  | false =>
    simp only [Bool.false_eq_true, if_false]
    exact Val.of (by decide) (RO.of1 (Nat.le_refl 1) (h3 F))
/-! ### and, or -/
theorem se_and1 {op : BoolOp} {q : Bool} {ra : Env → R D} {a : Expr} {pos : Pos} {Γ Γ1 : Gm} {m : Nat} (h : SE X T W kp q ra a Γ m Γ1) : SE X T W kp q ra (.BoolOp op [a] pos) Γ m Γ1 := pe_one h
theorem se_and {q1 q2 : Bool} {ra rb : Env → R D} {a b : Expr} {rest : List Expr} {pos : Pos} {Γ Γ1 Γ2 Γ3 : Gm} {m n mo : Nat} (hK : X.K = T.K) (ha : SE X T W kp q1 ra a Γ m Γ1) (hb : SE X T W kp q2 rb (.BoolOp .And (b :: rest) pos) Γ1 n Γ2) (h1 : leG Γ3 Γ1) (h2 : leG Γ3 Γ2) (hm : mo = 0 ∨ (1 ≤ mo ∧ mo ≤ m)) (hn : mo = 0 ∨ (1 ≤ mo ∧ mo ≤ n)) :
    SE X T W kp (q1 && q2) (andD ra rb) (.BoolOp .And (a :: b :: rest) pos) Γ mo Γ3 :=
  PE.mono (pe_andT ha hb) fun σ H Q z => by rw [hK]; exact rd_and h1 h2 hm hn σ H Q z
theorem se_or {q1 q2 : Bool} {ra rb : Env → R D} {a b : Expr} {rest : List Expr} {pos : Pos} {Γ Γ1 Γ2 Γ3 : Gm} {m n mo : Nat} (hK : X.K = T.K) (ha : SE X T W kp q1 ra a Γ m Γ1) (hb : SE X T W kp q2 rb (.BoolOp .Or (b :: rest) pos) Γ1 n Γ2) (h1 : leG Γ3 Γ1) (h2 : leG Γ3 Γ2) (hm : mo = 0 ∨ (1 ≤ mo ∧ mo ≤ m)) (hn : mo = 0 ∨ (1 ≤ mo ∧ mo ≤ n)) :
    SE X T W kp (q1 && q2) (orD ra rb) (.BoolOp .Or (a :: b :: rest) pos) Γ mo Γ3 :=
  PE.mono (pe_orT ha hb) fun σ H Q z => by rw [hK]; exact rd_or h1 h2 hm hn σ H Q z
theorem sw_and1 {q : Bool} {ra : Env → R D} {a : Expr} {pos : Pos} {Γ Γ1 : Gm} (h : ST X T W kp q ra a Γ Γ1) : SW X T W kp q ra (.BoolOp .And [a] pos) Γ Γ1 := pw_and1 h
theorem sw_or1 {q : Bool} {ra : Env → R D} {a : Expr} {pos : Pos} {Γ Γ1 : Gm} (h : ST X T W kp q ra a Γ Γ1) : SW X T W kp q ra (.BoolOp .Or [a] pos) Γ Γ1 := pw_or1 h
theorem sw_and {q1 q2 : Bool} {ra rb : Env → R D} {a b : Expr} {rest : List Expr} {pos : Pos} {Γ Γ1 Γ2 Γ3 : Gm} (ha : ST X T W kp q1 ra a Γ Γ1) (hb : SW X T W kp q2 rb (.BoolOp .And (b :: rest) pos) Γ1 Γ2) (h1 : leG Γ3 Γ1) (h2 : leG Γ3 Γ2) : SW X T W kp (q1 && q2) (andD ra rb) (.BoolOp .And (a :: b :: rest) pos) Γ Γ3 :=
  PW.mono (pw_and ha hb) (rdT_and h1 h2)
theorem sw_or {q1 q2 : Bool} {ra rb : Env → R D} {a b : Expr} {rest : List Expr} {pos : Pos} {Γ Γ1 Γ2 Γ3 : Gm} (ha : ST X T W kp q1 ra a Γ Γ1) (hb : SW X T W kp q2 rb (.BoolOp .Or (b :: rest) pos) Γ1 Γ2) (h1 : leG Γ3 Γ1) (h2 : leG Γ3 Γ2) : SW X T W kp (q1 && q2) (orD ra rb) (.BoolOp .Or (a :: b :: rest) pos) Γ Γ3 :=
  PW.mono (pw_or ha hb) (rdT_or h1 h2)
theorem sw_st {q : Bool} {ra : Env → R D} {a : Expr} {Γ Γ1 : Gm} (h : SW X T W kp q ra a Γ Γ1) : ST X T W kp q ra a Γ Γ1 := h.pt
/-- a test that is a value's truth -/
def plainT : Expr → Bool
  | .UnaryOp .Not _ _ => false
  | .BoolOp .. => false
  | .IfExp .. => false
  | .Compare .. => false
  | _ => true
theorem plainT_ok {x : Expr} {env : PySem.Env} (h : plainT x = true) : ∀ whole, isTrue x env whole = (do let v ← whole; standAt x.pos; holding [v] (truthy v)) := by
  intro whole
  cases x with
  | UnaryOp op a p => cases op <;> first | rfl | (simp [plainT] at h)
  | BoolOp => simp [plainT] at h
  | IfExp => simp [plainT] at h
  | Compare => simp [plainT] at h
  | _ => rfl
/-! ### calls with arguments that are looked at only -/
/-- such an argument is the local's value -/
def BoL (σ : L2.St) (es : List D) : List C → List D → List V → Prop
  | .bo i :: as, x :: xs, v :: vs => (es[i]? = some x ∧ σ[i]? = some (some v)) ∧ BoL σ es as xs vs
  | _ :: as, _ :: xs, _ :: vs => BoL σ es as xs vs
  | _, _, _ => True
def rdB2 (T : Tb) (W : WX) (kp : List Nat) (as : List C) (r : Env → R (List D)) (Γ : Gm) (ms : List Nat) (Γ' : Gm) : TA := fun σ H Q => ∃ e F fp, St T.K Γ e.s σ F H fp ∧ match r e with
  | .ok xs e' => ∀ F' H' fp' vs f, Go T.K true Γ' σ F H fp e.s e'.s F' H' fp' f → ValL T.K F' H' ms xs vs f → BoL σ e.s as xs vs → Q vs H'
  | .exc x e' => XW T W kp σ F H fp x e'.s
  | .bad => False
def SLb (X : Cx) (T : Tb) (W : WX) (kp : List Nat) (as : List C) (r : Env → R (List D)) (xs : List Expr) (Γ : Gm) (ms : List Nat) (Γ' : Gm) : Prop := PA X xs (rdB2 T W kp as r Γ ms Γ')
def isBo : C → Bool
  | .bo _ => true
  | _ => false
theorem sb_nil {Γ : Gm} : SLb X T W kp [] (fun e => .ok [] e) [] Γ [] Γ := by
  refine PA.mono pa_nil fun σ H Q h => ?_
  obtain ⟨e, F, fp, s, h⟩ := h
  exact h F H fp [] emp (Go.refl s) ⟨rfl, rfl⟩ trivial
/-- an argument of one's own -/
theorem sb_own {c : C} {cs : List C} {r : Env → R D} {rs : Env → R (List D)} {x : Expr} {xs : List Expr} {Γ Γ1 Γ2 : Gm} {m : Nat} {ms : List Nat} (hb : isBo c = false) (ha : SE X T W kp true r x Γ m Γ1) (hs : SLb X T W kp cs rs xs Γ1 ms Γ2) (hm : own m = true) (h2 : ns x = true) :
    SLb X T W kp (c :: cs) (fun e => (r e).bind fun d e1 => (rs e1).bind fun ds e2 => .ok (d :: ds) e2) (x :: xs) Γ (m :: ms) Γ2 := by
  refine PA.mono (pa_cons ha hs (star_cons h2)) fun σ H Q h => ?_
  obtain ⟨e, F, fp, s, h⟩ := h
  refine ⟨e, F, fp, s, ?_⟩
  dsimp only at h
  cases e1 : r e with
  | bad => rw [e1] at h; exact h
  | exc y e' => rw [e1] at h; exact h
  | ok d e' =>
    rw [e1] at h
    simp only [R.bind_ok] at h
    intro F1 H1 fp1 v f g val
    refine ⟨e', F1, fp1, g.st, ?_⟩
    cases e2 : rs e' with
    | bad => rw [e2] at h; exact h
    | exc y e2' => rw [e2] at h; exact XW.back h g
    | ok ds e2' =>
      rw [e2] at h
      simp only [R.bind_ok] at h
      intro F2 H2 fp2 vs f2 g2 val2 bo
      refine h F2 H2 fp2 (v :: vs) _ (Go.trans g g2 val.cells) ?_ ?_
      · have val' := val.stay g2.ch g.dis (.inl hm) (.inl (own_ne hm))
        refine ⟨v, vs, f, f2, rfl, val', val2, fun a z1 z2 => ?_, rfl⟩
        rcases g2.grow a (.inr z2) with u | u
        · exact g.dis a z1 u
        · exact (val.cells a z1).2 u
      · rw [g.same rfl] at bo
        cases c <;> first
          | exact bo
          | (simp [isBo] at hb)
/-- a local that is looked at -/
theorem sb_bo {i : Nat} {cs : List C} {rs : Env → R (List D)} {x : Expr} {xs : List Expr} {Γ Γ2 : Gm} {ms : List Nat} (ha : PE X x (tVar i)) (h1 : 1 ≤ lvOf Γ i) (hs : SLb X T W kp cs rs xs Γ ms Γ2) (h2 : ns x = true) :
    SLb X T W kp (.bo i :: cs) (fun e => (R.lift (e.get i) e).bind fun d e1 => (rs e1).bind fun ds e2 => .ok (d :: ds) e2) (x :: xs) Γ (0 :: ms) Γ2 := by
  refine PA.mono (pa_cons ha hs (star_cons h2)) fun σ H Q h => ?_
  obtain ⟨e, F, fp, s, h⟩ := h
  obtain ⟨d, v, e1, e2, r⟩ := s.at_ i h1
  have e1' : e.get i = some d := e1
  refine ⟨v, e2, ?_⟩
  dsimp only at h
  rw [e1'] at h
  simp only [R.lift_some, R.bind_ok] at h
  refine ⟨e, F, fp, s, ?_⟩
  cases e3 : rs e with
  | bad => rw [e3] at h; exact h
  | exc y e' => rw [e3] at h; exact h
  | ok ds e' =>
    rw [e3] at h
    simp only [R.bind_ok] at h
    intro F2 H2 fp2 vs f2 g2 val2 bo
    refine h F2 H2 fp2 (v :: vs) _ g2 ⟨v, vs, emp, f2, rfl, ?_, val2, fun _ z => z.elim, by funext a; simp [emp]⟩ ⟨⟨e1, e2⟩, bo⟩
    unfold Val
    rw [if_pos rfl]
    exact ⟨RF.sub (g2.ch.subH rfl) _ _ (RO.rf s.sub d _ v _ r), rfl⟩
/-- all arguments, shared -/
theorem bo_share {Γ : Gm} {es : List D} {σ : L2.St} {F H : Hp} {fp : Nat → AS} (s : St T.K Γ es σ F H fp) : ∀ {as : List C} {ms : List Nat} {xs : List D} {vs : List V} {f : AS}, ValL T.K F H ms xs vs f → BoL σ es as xs vs → as.length = xs.length → (∀ i, .bo i ∈ as → 1 ≤ lvOf Γ i) → (∀ j : Nat, ∀ c, as[j]? = some c → isBo c = true ∨ ∃ m, ms[j]? = some m ∧ own m = true) →
    RFL T.K (frz F H fun a => f a ∨ Own fp a) xs vs
  | [], ms, xs, vs, f, val, _, hl, _, _ => by
    cases xs with
    | cons _ _ => simp at hl
    | nil =>
      cases ms with
      | cons _ _ => simp only [ValL] at val
      | nil => simp only [ValL] at val; simp only [RFL]; exact val.1
  | c :: as, ms, xs, vs, f, val, bo, hl, hΓ, hm => by
    cases xs with
    | nil => simp at hl
    | cons x xs =>
      cases ms with
      | nil => simp only [ValL] at val
      | cons m ms =>
        simp only [ValL] at val
        obtain ⟨w, ws, g1, g2, rfl, v1, v2, dd, rfl⟩ := val
        have bo2 : BoL σ es as xs ws := by
          cases c <;> first
            | exact bo
            | exact bo.2
        have hl2 : as.length = xs.length := by simpa using hl
        have rest := bo_share s v2 bo2 hl2 (fun i hi => hΓ i (List.mem_cons_of_mem _ hi)) (fun j c hc => by simpa using hm (j + 1) c (by simpa using hc))
        have big : ∀ (f1 f2 : AS), (∀ a, f1 a → f2 a) → Sub (frz F H f1) (frz F H f2) := fun f1 f2 hf a o ea => by
          by_cases h1 : f1 a
          · rw [frz_in h1] at ea; rw [frz_in (hf a h1)]; exact ea
          · rw [frz_out h1] at ea
            by_cases h2 : f2 a
            · rw [frz_in h2]; exact s.sub a o ea
            · rw [frz_out h2]; exact ea
        simp only [RFL]
        refine ⟨w, ws, rfl, ?_, RFL.sub (big _ _ fun a z => z.imp .inr id) _ _ rest⟩
        rcases hm 0 c (by simp) with hc | ⟨m', hm', ho⟩
        · cases c <;> first
            | (simp [isBo] at hc; done)
            | skip
          rename_i i
          obtain ⟨d, v, e1, e2, r⟩ := st_share s (hΓ i List.mem_cons_self)
          obtain ⟨⟨b1, b2⟩, _⟩ := bo
          rw [b1] at e1; cases e1
          rw [b2] at e2; cases e2
          exact RF.sub (big _ _ fun a z => .inr z) _ _ r
        · simp at hm'
          subst hm'
          have q : RO T.K F H x m w g1 := v1.ro ho
          obtain ⟨g, f', hs, _, r'⟩ := RO.weak s.sub x _ 1 w _ (Nat.le_refl 1) (own_pos ho) q
          obtain ⟨r1, _⟩ := RO.to1 (Nat.le_refl 1) r'
          exact RF.sub (big _ _ fun a z => .inl (.inl ((hs a).mpr (.inl z)))) _ _ r1
mutual
/-- what is one's own through and through -/
theorem ro100 {F F2 H : Hp} : ∀ (d : D) (v : V) (f : AS), (∀ a, f a → F2 a = none) → RO K F H d 100 v f → RO K F2 H d 100 v f
  | .non, _, _, _, h => h
  | .bl _, _, _, _, h => h
  | .int _, _, _, _, h => h
  | .str _, _, _, _, h => h
  | .lst xs, v, f, k, h => by
    unfold RO at h ⊢
    rw [if_neg (by decide)] at h ⊢
    obtain ⟨a, vs, g, e, q, z, na, r, rfl⟩ := h
    exact ⟨a, vs, g, e, q, k a (.inl rfl), na, rol100 xs vs g (fun b hb => k b (.inr hb)) r, rfl⟩
  | .tup xs, v, f, k, h => by
    unfold RO at h ⊢
    rw [if_neg (by decide)] at h ⊢
    obtain ⟨a, vs, g, e, q, z, na, r, rfl⟩ := h
    exact ⟨a, vs, g, e, q, k a (.inl rfl), na, rol100 xs vs g (fun b hb => k b (.inr hb)) r, rfl⟩
  | .set _, _, _, _, h => h
  | .itr _, _, _, _, h => h
  | .dct _ _, _, _, _, h => h
  | .ob _, _, _, _, h => h
  | .exc _ _, _, _, _, h => h
theorem rol100 {F F2 H : Hp} : ∀ (xs : List D) (vs : List V) (f : AS), (∀ a, f a → F2 a = none) → ROL K F H xs (dn 100) vs f → ROL K F2 H xs (dn 100) vs f
  | [], _, _, _, h => h
  | x :: xs, vs, f, k, h => by
    simp only [ROL] at h ⊢
    obtain ⟨w, ws, g1, g2, e, q, r, d, rfl⟩ := h
    exact ⟨w, ws, g1, g2, e, ro100 x w g1 (fun a ha => k a (.inl ha)) q, rol100 xs ws g2 (fun a ha => k a (.inr ha)) r, d, rfl⟩
end
theorem rd_callB {rs : Env → R (List D)} {as : List C} {Γ Γ1 : Gm} {ms : List Nat} {n f : Nat} {fn : Fn} {σ : L2.St} {H : Hp} {Q : VK} (hf : T.P.fns[f]? = some fn) (hio : fn.io = []) (hl : as.length = fn.np) (hrl : fn.rl = 100) (hkp : ∀ i ∈ kp, 1 ≤ lvOf Γ1 i)
    (hΓ : ∀ i, .bo i ∈ as → 1 ≤ lvOf Γ1 i) (hm : ∀ j : Nat, ∀ c, as[j]? = some c → isBo c = true ∨ ∃ m, ms[j]? = some m ∧ own m = true) (hrs : ∀ e xs e', rs e = .ok xs e' → xs.length = as.length)
    (z : rdE T W kp true (fun e => (rs e).bind fun xs e1 => callR (run T.P n) f as xs e1) Γ 100 Γ1 σ H Q) :
    tCallS (spF T n f) (WE W) (rdB2 T W kp as rs Γ ms Γ1) σ H Q := by
  obtain ⟨e, F, fp, s, z⟩ := z
  refine ⟨e, F, fp, s, ?_⟩
  dsimp only at z
  cases e1 : rs e with
  | bad => rw [e1] at z; exact z
  | exc y e' => rw [e1] at z; exact z
  | ok xs e' =>
    rw [e1] at z
    simp only [R.bind_ok] at z
    intro F1 H1 fp1 vs f1 g1 val bo
    have hxl := hrs e xs e' e1
    rw [← g1.same rfl] at bo
    have r1 := bo_share g1.st val bo hxl.symm hΓ hm
    have hc := val.cells
    have hc1 : ∀ a, (f1 a ∨ Own fp1 a) → F1 a = none ∧ H1 a ≠ none := fun a z => z.elim (hc a) fun z => g1.st.cells z
    refine ⟨fn, xs, frz F1 H1 fun a => f1 a ∨ Own fp1 a, emp, e'.o, hf, by rw [vall_len val, hxl, hl], frz_le g1.st.sub, ?_, ?_⟩
    · rw [alv_io0 hio]
      exact vall_of1 _ r1 (by rw [hxl, hl])
    · have sF : Sub F1 (frz F1 H1 fun a => f1 a ∨ Own fp1 a) := frz_sub fun a z => (hc1 a z).1
      unfold callR at z
      -- what is kept of the state behind the callee
      have after : ∀ H', (∀ a o, H1 a = some o → H' a = some o) → St T.K Γ1 e'.s σ F1 H' fp1 := fun H' kH => ⟨fun a o ea => kH a o (g1.st.sub a o ea), g1.st.lG, g1.st.le, fun i hi => by
        obtain ⟨d2, v2, e3, e4, r2⟩ := g1.st.at_ i hi
        refine ⟨d2, v2, e3, e4, RO.kept d2 _ v2 _ ⟨Sub.refl F1, fun a ha => ?_, fun a ha hn => hn⟩ r2⟩
        have := (g1.st.cells ⟨i, ha⟩).2
        cases eh : H1 a with
        | none => exact absurd eh this
        | some z => exact kH a z eh, g1.st.dis, g1.st.dead⟩
      cases er : run T.P n f xs e'.o with
      | bad => rw [er] at z; exact z
      | exc x o =>
        rw [er] at z
        dsimp only at z ⊢
        intro F' H' cls dx sub' ch ex
        have kH : ∀ a o, H1 a = some o → H' a = some o := fun a o ea => ch.keep a o ea fun z => z
        refine z F' H' cls dx sub' g1.st.le ?_ (fun i hi => ?_) ex
        · refine Ch.trans (g1.ch.mono (fun _ z => z) fun _ z => z.2) (fun _ z => z) (fun a z => g1.grow a z) (?_ : Ch (fun a => Own fp1 a ∨ f1 a) (fun a => Own fp1 a ∨ f1 a) F1 H1 F' H') (fun _ z => z) fun _ _ z => z
          refine ⟨sF.trans ch.sub, fun a o ea _ => kH a o ea, fun a z z' => ?_⟩
          by_cases ha : f1 a ∨ Own fp1 a
          · exact .inl ha.symm
          · exact (ch.new a (by rw [frz_out ha]; exact z) z').imp (fun z => z.elim) id
        · obtain ⟨d, v, e2, e3, r⟩ := st_share g1.st (hkp i hi)
          refine ⟨d, v, e2, e3, RF.sub (fun a o ea => ch.sub a o ?_) _ _ r⟩
          by_cases ha : Own fp1 a
          · rw [frz_in ha] at ea
            rw [frz_in (show f1 a ∨ Own fp1 a from .inr ha)]; exact ea
          · rw [frz_out ha] at ea
            by_cases hb : f1 a ∨ Own fp1 a
            · rw [frz_in hb]; exact g1.st.sub a o ea
            · rw [frz_out hb]; exact ea
      | ok r outs o =>
        rw [er] at z
        dsimp only at z ⊢
        intro F' H' v f' fo sub' ch ro ol dd gr
        have kH : ∀ a o, H1 a = some o → H' a = some o := fun a o ea => ch.keep a o ea fun z => z
        have st2 := after H' kH
        have houts : outs = [] := by
          rw [hio] at ol
          cases hil : fn.il with
          | nil =>
            rw [hil] at ol
            cases outs with
            | nil => rfl
            | cons d ds => exact ol.elim
          | cons l ls => rw [hil] at ol; exact ol.elim
        subst houts
        rw [putBack_io0] at z
        have grf : ∀ a, f' a → H1 a = none := fun a z => (gr a (.inl z)).resolve_left fun z => z
        have f1n : ∀ a, f' a → F1 a = none := fun a z => by
          cases ef : F1 a with
          | none => rfl
          | some o => have := g1.st.sub a o ef; rw [grf a z] at this; cases this
        rw [hrl] at ro
        refine z F1 H' fp1 v f' ⟨g1.same, st2, fun a z1 z2 => (g1.st.cells z2).2 (grf a z1), ⟨g1.ch.sub, fun a o ea hw => kH a o (g1.ch.keep a o ea hw), g1.ch.new⟩, fun a z => ?_⟩ (Val.of (by decide) (ro100 _ _ _ f1n ro))
        rcases z with z | z
        · exact g1.grow a (.inl z)
        · exact Grow.none (f := emp) (g := emp) g1.ch (fun _ z => z.2) (grf a z)
theorem se_callB {rs : Env → R (List D)} {as : List C} {x : Str} {p pos : Pos} {a : Expr} {es : List Expr} {Γ Γ1 : Gm} {ms : List Nat} {n f : Nat} {fn : Fn} (hf : T.P.fns[f]? = some fn) (hio : fn.io = []) (hl : as.length = fn.np) (hrl : fn.rl = 100) (hkp : ∀ i ∈ kp, 1 ≤ lvOf Γ1 i)
    (hΓ : ∀ i, .bo i ∈ as → 1 ≤ lvOf Γ1 i) (hm : ∀ j : Nat, ∀ c, as[j]? = some c → isBo c = true ∨ ∃ m, ms[j]? = some m ∧ own m = true) (hrs : ∀ e xs e', rs e = .ok xs e' → xs.length = as.length)
    (tk : Takes X W) (hr : Room n X.A) (hg : Gl X x) (c : Callee T n f fn x X) (ha : SLb X T W kp as rs (a :: es) Γ ms Γ1) (h2 : (a :: es).all ns = true) (hdb : (x == ("__debug__" : Str)) = false) :
    SE X T W kp true (fun e => (rs e).bind fun xs e1 => callR (run T.P n) f as xs e1) (.Call (.Name x p) (a :: es) [] pos) Γ 100 Γ1 := by
  obtain ⟨ad, fd, ps, hps, F, hmg, hk, hb⟩ := c.ex
  simp only [List.all_cons, Bool.and_eq_true] at h2
  exact PE.mono (pe_callS F hr hg hmg hk hb (fun σ => passAt tk σ) ha hdb (star_cons h2.1) (star_any h2.2)) fun _ _ _ z => rd_callB hf hio hl hrl hkp hΓ hm hrs z
/-! ### chains of comparisons -/
def cmp2D (o o' : Cp) (ra rb rc : Env → R D) : Env → R D := fun e => (ra e).bind fun x e1 => (rb e1).bind fun y e2 => match cp o x y with
  | some true => (rc e2).bind fun z e3 => R.lift ((cp o' y z).map .bl) e3
  | some false => .ok (.bl false) e2
  | none => .bad
end
end Z

/-! Z18a: max, min, methods that read, lists repeated. -/
namespace Z
open PySem PySem.Spec L2 PyProof.Rows
section
variable {X : Cx} {T : Tb} {W : WX} {kp : List Nat} {K : PySem.W.Frag}
theorem callR_or {f : Value} {r r' : List V → Hp → VK → Prop} (h : CallR X f r) (h' : CallR X f r') : CallR X f (fun vs H Q => r vs H Q ∨ r' vs H Q) := by
  intro pins s σ H xs us Q I r1 q
  rcases q with q | q
  · exact h pins s σ H xs us Q I r1 q
  · exact h' pins s σ H xs us Q I r1 q
theorem bi_or {g g1 g2 : List D → Option D} {r1 r2 : List V → Hp → VK → Prop} (h1 : BiF K g1 r1) (h2 : BiF K g2 r2) (hg : ∀ xs d, g xs = some d → g1 xs = some d ∨ g2 xs = some d) : BiF K g (fun vs H Q => r1 vs H Q ∨ r2 vs H Q) := by
  intro H xs vs d Q rr e
  rcases hg xs d e with e | e
  · obtain ⟨a, b⟩ := h1 H xs vs d Q rr e
    exact ⟨a, fun k => .inl (b k)⟩
  · obtain ⟨a, b⟩ := h2 H xs vs d Q rr e
    exact ⟨a, fun k => .inr (b k)⟩
theorem bi_max : BiF K (b1 .max) (fun vs H Q => rMax K vs H Q ∨ ∃ i j, vs = [.int i, .int j] ∧ Q (.int (if j > i then j else i)) H) := bi_or bi_maxL bi_max2 fun xs d e => by
  match xs, e with
  | [], e => simp [b1] at e
  | [x], e => cases x <;> simp only [b1, reduceCtorEq] at e; exact .inl e
  | [x, y], e => cases x <;> cases y <;> simp only [b1, reduceCtorEq] at e; exact .inr e
  | _ :: _ :: _ :: _, e => simp [b1] at e
theorem bi_min : BiF K (b1 .min) (fun vs H Q => rMin K vs H Q ∨ ∃ i j, vs = [.int i, .int j] ∧ Q (.int (if j < i then j else i)) H) := bi_or bi_minL bi_min2 fun xs d e => by
  match xs, e with
  | [], e => simp [b1] at e
  | [x], e => cases x <;> simp only [b1, reduceCtorEq] at e; exact .inl e
  | [x, y], e => cases x <;> cases y <;> simp only [b1, reduceCtorEq] at e; exact .inr e
  | _ :: _ :: _ :: _, e => simp [b1] at e
/-! ### methods that read, their answers flat -/
def mtTy : M1 → String
  | .index => "list"
  | _ => "str"
def MtF (K : PySem.W.Frag) (mm : M1) (r : V → List V → Hp → VK → Prop) : Prop := ∀ H x v xs vs d Q, RF K H x v → RFL K H xs vs → m1 mm x xs = some d → flat d = true ∧ ((∀ w, RF K H d w → Q w H) → r v vs H Q)
theorem ty_mt {H : Hp} {x : D} {v : V} {mm : M1} (r : RF K H x v) (h : mtOk mm x = true) : tyV K (mtTy mm) v H := by
  cases mm <;> cases x <;> simp only [mtOk, Bool.false_eq_true] at h <;> simp only [RF] at r
  · subst r; rfl
  · subst r; rfl
  · subst r; rfl
  · obtain ⟨a, vs, rfl, q, _⟩ := r
    exact .inl ⟨rfl, vs, .inl q⟩
  · subst r; rfl
  · subst r; rfl
theorem rd_mt {q1 q2 : Bool} {ra : Env → R D} {rs : Env → R (List D)} {Γ Γ1 Γ2 : Gm} {m mo : Nat} {ms : List Nat} {mm : M1} {r : V → List V → Hp → VK → Prop} {σ : L2.St} {H : Hp} {Q : VK} (hm : own m = true ∨ q2 = true) (hb : MtF T.K mm r)
    (h : rdE T W kp (q1 && q2) (fun e => (ra e).bind fun x e1 => if mtOk mm x = true then (rs e1).bind fun xs e2 => R.lift (m1 mm x xs) e2 else .bad) Γ mo Γ2 σ H Q) :
    tBM T.K (mtTy mm) r (rdE T W kp q1 ra Γ m Γ1) (rdL T W kp q2 rs Γ1 ms Γ2) σ H Q := by
  obtain ⟨e, F, fp, s, h⟩ := h
  refine ⟨e, F, fp, s, ?_⟩
  dsimp only at h
  cases e1 : ra e with
  | bad => rw [e1] at h; exact h
  | exc y e' => rw [e1] at h; exact h
  | ok x e' =>
    rw [e1] at h
    simp only [R.bind_ok] at h
    intro F1 H1 fp1 v f1 g1 val1
    by_cases hx : mtOk mm x = true
    case neg => rw [if_neg hx] at h; exact h.elim
    rw [if_pos hx] at h
    refine ⟨ty_mt (val1.rf g1.st.sub) hx, e', F1, fp1, g1.st, ?_⟩
    cases e2 : rs e' with
    | bad => rw [e2] at h; exact h
    | exc y e2' => rw [e2] at h; exact XW.back h g1
    | ok ys e2' =>
      rw [e2] at h
      simp only [R.bind_ok] at h
      intro F2 H2 fp2 us f2 g2 val2
      cases hg : m1 mm x ys with
      | none => rw [hg] at h; exact h.elim
      | some d =>
        rw [hg] at h
        simp only [R.lift_some] at h
        have gg := Go.trans g1 g2 val1.cells
        have v1 := (val1.stay g2.ch g1.dis hm (hm.imp own_ne id)).rf g2.st.sub
        obtain ⟨fl, k⟩ := hb H2 x v ys us d Q v1 (ValL.rf g2.st.sub val2) hg
        refine k fun w rw_ => h F2 H2 fp2 w emp ⟨gg.same, gg.st, fun _ z => z.elim, gg.ch, fun a z => gg.grow a (z.imp id fun z => z.elim)⟩ (Val.flat fl rw_)
theorem se_mt {q1 q2 : Bool} {ra : Env → R D} {rs : Env → R (List D)} {o a : Expr} {as : List Expr} {name : Str} {id : String} {apos cpos : Pos} {Γ Γ1 Γ2 : Gm} {m mo : Nat} {ms : List Nat} {mm : M1} {r : V → List V → Hp → VK → Prop} (hK : X.K = T.K) (hm : own m = true ∨ q2 = true) (hb : MtF T.K mm r)
    (pa : PlainAttrs (mtTy mm)) (slot : Slot (mtTy mm) name id) (hty : typeOf (.builtin id) = pure (.type "method_descriptor")) (hr : MtR X id r)
    (ho : SE X T W kp q1 ra o Γ m Γ1) (ha : SL X T W kp q2 rs (a :: as) Γ1 ms Γ2) (h2 : (a :: as).all ns = true) (h3 : nsup o = true) (h4 : (apos.endLine == cpos.line) = true) (h5 : as.length < 20) :
    SE X T W kp (q1 && q2) (fun e => (ra e).bind fun x e1 => if mtOk mm x = true then (rs e1).bind fun xs e2 => R.lift (m1 mm x xs) e2 else .bad) (.Call (.Attribute o name apos) (a :: as) [] cpos) Γ mo Γ2 := by
  have h2' := h2
  simp only [List.all_cons, Bool.and_eq_true] at h2
  refine PE.mono (pe_bm pa slot hty hr ho ha (base_ok h3) (bm_few h2' h5) h4 (star_cons h2.1) (star_any h2.2)) fun σ H Q z => ?_
  rw [hK]
  exact rd_mt hm hb z
/-! list.index -/
theorem idx_spec {x : D} : ∀ {xs : List D} {k n : Nat}, idxD x k xs = some n → k ≤ n ∧ (∃ z, xs[n - k]? = some z ∧ eqD z x = true) ∧ ∀ m z, m < n - k → xs[m]? = some z → eqD z x = false
  | [], k, n, h => by simp [idxD] at h
  | y :: r, k, n, h => by
    simp only [idxD] at h
    split at h
    · rename_i e
      cases h
      exact ⟨Nat.le_refl _, ⟨y, by simp, e⟩, fun m z hm => by omega⟩
    · rename_i e
      obtain ⟨h1, ⟨z, h2, h3⟩, h4⟩ := idx_spec h
      have e1 : n - k = (n - (k + 1)) + 1 := by omega
      refine ⟨by omega, ⟨z, by rw [e1]; simpa using h2, h3⟩, fun m z' hm hz => ?_⟩
      cases m with
      | zero =>
        simp at hz
        subst hz
        simpa using e
      | succ m => exact h4 m z' (by omega) (by simpa using hz)
theorem rfl_at {H : Hp} : ∀ {xs : List D} {vs : List V} {j : Nat} {v : V}, RFL K H xs vs → vs[j]? = some v → ∃ x, xs[j]? = some x ∧ RF K H x v
  | [], vs, j, v, h, e => by simp only [RFL] at h; subst h; simp at e
  | x :: xs, vs, j, v, h, e => by
    simp only [RFL] at h
    obtain ⟨w, ws, rfl, q, r⟩ := h
    cases j with
    | zero => simp at e; subst e; exact ⟨x, by simp, q⟩
    | succ j =>
      obtain ⟨y, h1, h2⟩ := rfl_at r (by simpa using e)
      exact ⟨y, by simpa using h1, h2⟩
theorem all_at {xs : List D} (f : xs.all flat = true) {j : Nat} {z : D} (h : xs[j]? = some z) : flat z = true := List.all_eq_true.mp f z (List.mem_of_getElem? h)
theorem mf_index : MtF K .index (rIndex K) := by
  intro H x v xs vs d Q r rs hg
  cases x <;> (match xs, hg with
    | [], hg => simp [m1] at hg
    | _ :: _ :: _, hg => simp [m1] at hg
    | [y], hg => ?_) <;> simp only [m1, reduceCtorEq] at hg
  · rename_i ys
    split at hg <;> simp only [reduceCtorEq, Option.map_eq_some_iff] at hg
    rename_i hf
    simp only [Bool.and_eq_true] at hf
    obtain ⟨n, hn, rfl⟩ := hg
    obtain ⟨h0, ⟨z, h1, h2⟩, h3⟩ := idx_spec hn
    refine ⟨rfl, fun k => ?_⟩
    obtain ⟨u, rfl, ru⟩ := rfl1 rs
    simp only [RF] at r
    obtain ⟨a, ws, rfl, q, rw_⟩ := r
    obtain ⟨zv, z1, z2⟩ := rfl_get rw_ h1
    exact ⟨a, ws, u, n - 0, zv, rfl, rfl, .inl q, flatV_of ru hf.1, flatL_of rw_ hf.2, z1, by rw [eqV_of z2 (all_at hf.2 h1) ru hf.1]; exact h2, fun m z' hm hz => by
      obtain ⟨x', y1, y2⟩ := rfl_at rw_ hz
      rw [eqV_of y2 (all_at hf.2 y1) ru hf.1]
      exact h3 m x' hm y1, k _ mk_int⟩
/-! ### lists repeated -/
theorem se_rep {q1 q2 : Bool} {ra rb : Env → R D} {a b : Expr} {pos : Pos} {Γ Γ1 Γ2 : Gm} {m n : Nat} (ha : SE X T W kp q1 ra a Γ m Γ1) (hb : SE X T W kp q2 rb b Γ1 n Γ2) (hm : 2 ≤ m) :
    SE X T W kp (q1 && q2) (fun e => (ra e).bind fun x e1 => (rb e1).bind fun y e2 => R.lift (opRep x y) e2) (.BinOp a .Mult b pos) Γ 2 Γ2 := by
  refine PE.mono (pe_op op_rep (se_weak ha (leG.refl _) (.inr ⟨by decide, hm⟩)) hb) fun σ H Q z => rd_two (.inl (by decide)) z fun F H' x y v u f d s val hg k => ?_
  obtain ⟨w1, ws, g1, g2, e1, v1, v2, _, rfl⟩ := val
  cases e1
  obtain ⟨w2, ws2, g3, g4, e2, v3, _⟩ := v2
  cases e2
  cases x <;> cases y <;> simp only [opRep, reduceCtorEq] at hg
  rename_i xs i
  split at hg <;> simp only [reduceCtorEq, Option.some.injEq] at hg
  rename_i hl
  subst hg
  have r3 := rf_int (v3.rf s)
  subst r3
  have v1' := v1.ro (by decide)
  unfold RO at v1'
  rw [if_neg (by decide)] at v1'
  obtain ⟨a', vs, g, rfl, eH, _, _, r, _⟩ := v1'
  obtain ⟨r1, _⟩ := rol_to1 r
  refine ⟨a', i, vs, rfl, rfl, eH, ?_, ?_, ?_, fun p np => new_shared (tup := false) s (rfl_rep r1 _) np k⟩
  · exact Int.le_trans (by decide) hl.2.1
  · exact Int.lt_of_le_of_lt hl.1 (by decide)
  · rw [rfl_len r1]; exact lim_line hl.2.2
end
end Z

/-! Z19: the checker of expressions. -/
namespace Z
open PySem PySem.Spec L2 PyProof.Rows
/-- a law's tables: names of the defs, of the constants -/
structure Lw where
  T : Tb
  nm : List Str
  glN : List Str
structure Kx where
  N : List Str
  names : List (Str × NameKind)
  fa : Bool
def Kx.ok (x : Str) : Bool := !(x == ("__debug__" : Str)) && !(x == ("__classdict__" : Str)) && decide (x ≠ "__name__")
def Kx.vis (κ : Kx) (i : Nat) (x : Str) : Bool := decide (κ.N[i]? = some x) && (match κ.names.lookup x with | some .local => true | some .cell => true | some .free => true | _ => false) && Kx.ok x
def Kx.loc (κ : Kx) (i : Nat) (x : Str) : Bool := decide (κ.N[i]? = some x) && (match κ.names.lookup x with | some .local => true | some .cell => κ.fa | _ => false)
def Kx.gl (κ : Kx) (x : Str) : Bool := (match κ.names.lookup x with | some .globalImplicit => true | _ => false) && Kx.ok x
def gd {α : Type} (b : Bool) (o : Option α) : Option α := if b = true then o else none
theorem gd_eq {α : Type} {b : Bool} {o : Option α} {x : α} : gd b o = some x ↔ b = true ∧ o = some x := by
  unfold gd
  cases b <;> simp
def leN : List Nat → List Nat → Bool
  | [], [] => true
  | a :: x, b :: y => decide (a ≤ b) && leN x y
  | _, _ => false
theorem leN_ok : ∀ {x y : Gm}, leN x y = true → leG x y
  | [], [], _ => leG.refl _
  | a :: x, b :: y, h => by
    simp only [leN, Bool.and_eq_true, decide_eq_true_eq] at h
    obtain ⟨h1, h2⟩ := h
    obtain ⟨k1, k2⟩ := leN_ok h2
    refine ⟨by simp [k1], fun i => ?_⟩
    cases i with
    | zero => simpa [lvOf] using h1
    | succ i => simpa [lvOf] using k2 i
  | [], _ :: _, h => by simp [leN] at h
  | _ :: _, [], h => by simp [leN] at h
def meetG (a b : Gm) : Gm := List.zipWith min a b
/-- an answer's level below both -/
def meetM (m n : Nat) : Nat := if m = 0 ∨ n = 0 then 0 else min m n
theorem meetM_l (m n : Nat) : meetM m n = 0 ∨ (1 ≤ meetM m n ∧ meetM m n ≤ m) := by unfold meetM; split <;> omega
theorem meetM_r (m n : Nat) : meetM m n = 0 ∨ (1 ≤ meetM m n ∧ meetM m n ≤ n) := by unfold meetM; split <;> omega
/-- the built-in functions by their names: a function, a class -/
def nameB : B1 → Option Str
  | .len => some "len"
  | .abs => some "abs"
  | .int => some "int"
  | .sum => some "sum"
  | .all => some "all"
  | .any => some "any"
  | .max => some "max"
  | .min => some "min"
  | _ => none
/-- the methods by their names -/
def nameM : M1 → Option Str
  | .index => some "index"
  | _ => none
def nameT : B1 → Option Str
  | .isInt => some "int"
  | .isBool => some "bool"
  | .isStr => some "str"
  | .isList => some "list"
  | .isTuple => some "tuple"
  | _ => none
def blt : List Str := ["len", "abs", "int", "sum", "all", "any", "bool", "str", "list", "tuple", "isinstance", "range", "zip", "enumerate", "max", "min", "sorted", "reversed", "set"]
def isTupE : Expr → Bool
  | .Tuple .. => true
  | _ => false
/-- a comprehension's names within -/
def relN (outer : List (Str × NameKind)) (names : List (Str × NameKind)) : List (Str × NameKind) :=
  names.map fun (n, k) => if (k == .free && outer.lookup n == some .cell) then (n, .cell) else (n, k)
/-- the names of a target, by their slots -/
def tgNames : T → Expr → List (Str × Nat)
  | .n i, .Name y _ => [(y, i)]
  | .tp is, .Tuple es _ _ => (es.zip is).filterMap fun (e, i) => match e with
    | .Name y _ => some (y, i)
    | _ => none
  | _, _ => []
def ckNames (κ : Kx) : List Nat → List Expr → Bool
  | [], [] => true
  | i :: is, .Name y _ :: es => κ.loc i y && ckNames κ is es
  | _, _ => false
def ckTg (κ : Kx) (t : T) (x : Expr) : Bool := match t with
  | .n i => (match x with
    | .Name y _ => κ.loc i y
    | _ => false)
  | .tp is => (match x with
    | .Tuple es _ _ => ckNames κ is es
    | _ => false)
def scO (names : List (Str × NameKind)) : Scope := ⟨.function, names, false, false, []⟩
def boI : C → Option Nat
  | .bo i => some i
  | _ => none
def boOk : List C → List Nat → Gm → Bool
  | [], [], _ => true
  | c :: cs, m :: ms, Γ => (match boI c with
    | some i => decide (1 ≤ lvOf Γ i)
    | none => own m) && boOk cs ms Γ
  | _, _, _ => false
section
variable (L : Lw) (kp : List Nat)
mutual
def ckE : Nat → Kx → List Nat → C → Expr → Gm → Option (Bool × Nat × Gm)
  | 0, _, _, _, _, _ => none
  | n + 1, κ, kp, c, x, Γ => match c with
    | .non => (match x with | .Constant .none _ _ => some (true, 100, Γ) | _ => none)
    | .bl b => (match x with | .Constant (.bool b') _ _ => gd (b' == b) (some (true, 100, Γ)) | _ => none)
    | .int i => (match x with | .Constant (.int j) _ _ => gd (j == i) (some (true, 100, Γ)) | _ => none)
    | .str s => (match x with | .Constant (.str y) _ _ => gd (y.cps.toList == s) (some (true, 100, Γ)) | _ => none)
    | .v i => (match x with | .Name y _ => gd (κ.vis i y && decide (1 ≤ lvOf Γ i)) (some (true, 1, Γ.set i 1)) | _ => none)
    | .mv i => (match x with | .Name y _ => gd (κ.vis i y && decide (1 ≤ lvOf Γ i)) (some (false, lvOf Γ i, Γ.set i 0)) | _ => none)
    | .pk i => (match x with | .Name y _ => gd (κ.vis i y && decide (1 ≤ lvOf Γ i)) (some (true, (if lvOf Γ i = 1 then 1 else 0), Γ)) | _ => none)
    | .gl g => (match x with | .Name y _ => (L.T.P.gl[g]?).bind fun d => gd (κ.gl y && decide (L.glN[g]? = some y)) (some (true, (if flat d then 100 else 1), Γ)) | _ => none)
    | .op o a b => (match x with
      | .BinOp xa o' xb _ => gd (decide (o' = opOf o)) ((ckE n κ kp a xa Γ).bind fun r => (ckE n κ kp b xb r.2.2).bind fun s => gd (own r.2.1 || s.1) (some (r.1 && s.1, 100, s.2.2)))
      | _ => none)
    | .cat a b => (match x with
      | .BinOp xa o' xb _ => gd (decide (o' = .Add)) ((ckE n κ kp a xa Γ).bind fun r => (ckE n κ kp b xb r.2.2).bind fun s => gd (own r.2.1 && own s.2.1) (some (r.1 && s.1, 2, s.2.2)))
      | _ => none)
    | .catT a b => (match x with
      | .BinOp xa o' xb _ => gd (decide (o' = .Add)) ((ckE n κ kp a xa Γ).bind fun r => (ckE n κ kp b xb r.2.2).bind fun s => gd (own r.2.1 && own s.2.1) (some (r.1 && s.1, 1, s.2.2)))
      | _ => none)
    | .neg a => (match x with
      | .UnaryOp .USub xa _ => (ckE n κ kp a xa Γ).bind fun r => some (r.1, 100, r.2.2)
      | _ => none)
    | .nt a => (match x with
      | .UnaryOp .Not xa _ => (ckE n κ kp a xa Γ).bind fun r => some (r.1, 100, r.2.2)
      | _ => none)
    | .and a b => (match x with
      | .BoolOp .And xs _ => ckV n κ kp true (.and a b) xs Γ
      | _ => none)
    | .or a b => (match x with
      | .BoolOp .Or xs _ => ckV n κ kp false (.or a b) xs Γ
      | _ => none)
    | .cmp o a b => (match x with
      | .Compare xa [o'] [xb] _ => gd (decide (o' = cpOf o) && !behindInMarks (cpOf o) xb) ((ckE n κ kp a xa Γ).bind fun r => (ckE n κ kp b xb r.2.2).bind fun s => gd (own r.2.1 || s.1) (some (r.1 && s.1, 100, s.2.2)))
      | _ => none)
    | .ife c a b => (match x with
      | .IfExp xc xa xb _ => (ckT n κ kp c xc Γ).bind fun r => (ckE n κ kp a xa r.2).bind fun s => (ckE n κ kp b xb r.2).bind fun t =>
        gd (leN (meetG s.2.2 t.2.2) s.2.2 && leN (meetG s.2.2 t.2.2) t.2.2) (some (r.1 && (s.1 && t.1), meetM s.2.1 t.2.1, meetG s.2.2 t.2.2))
      | _ => none)
    | .call f as => (match x with
      | .Call (.Name y _) (e :: es) [] _ => (L.T.P.fns[f]?).bind fun fn => gd (decide (L.nm[f]? = some y) && κ.gl y && fn.io.isEmpty && decide (1 ≤ fn.rl)) (if as.any isBo = true then (ckLb n κ kp as (e :: es) Γ).bind fun r =>
        gd (decide (fn.rl = 100) && decide (as.length = fn.np) && kp.all (fun i => decide (1 ≤ lvOf r.2 i)) && boOk as r.1 r.2) (some (true, 100, r.2))
        else (ckL n κ kp as (e :: es) Γ).bind fun r =>
        gd (r.2.1.all own && decide (r.2.1.length = fn.np) && kp.all (fun i => decide (1 ≤ lvOf r.2.2 i))) (some (r.1, fn.rl, r.2.2)))
      | _ => none)
    | .bi f as => (match x with
      | .Call (.Name y _) (e :: es) [] _ => gd (κ.gl y) (match nameT f with
        | some t => (match as, es with
          | [a], [.Name ty _] => gd (y == ("isinstance" : Str) && ns e && (ty == t) && κ.gl ty) ((ckE n κ kp a e Γ).bind fun r => some (r.1, 100, r.2.2))
          | _, _ => none)
        | none => (match nameB f with
          | some t => gd (y == t) ((ckL n κ kp as (e :: es) Γ).bind fun r => some (r.1, 100, r.2.2))
          | none => (match f, as, es with
            | .list, [a], [] => gd (y == ("list" : Str) && ns e) ((ckE n κ kp a e Γ).bind fun r => gd (own r.2.1) (some (r.1, 2, r.2.2)))
            | .tuple, [a], [] => gd (y == ("tuple" : Str) && ns e) ((ckE n κ kp a e Γ).bind fun r => gd (own r.2.1) (some (r.1, 1, r.2.2)))
            | _, _, _ => none)))
      | _ => none)
    | .rep a b => (match x with
      | .BinOp xa o' xb _ => gd (decide (o' = .Mult)) ((ckE n κ kp a xa Γ).bind fun r => (ckE n κ kp b xb r.2.2).bind fun s => gd (decide (2 ≤ r.2.1)) (some (r.1 && s.1, 2, s.2.2)))
      | _ => none)
    | .mt mm o as => (match x with
      | .Call (.Attribute xo nm apos) (e :: es) [] cpos => gd (decide (nameM mm = some nm) && nsup xo && (apos.endLine == cpos.line) && decide (es.length < 20))
        ((ckE n κ kp o xo Γ).bind fun r => (ckL n κ kp as (e :: es) r.2.2).bind fun s => gd (own r.2.1 || s.1) (some (r.1 && s.1, 100, s.2.2)))
      | _ => none)
    | .ix a i => (match x with
      | .Subscript xa xi _ => gd (nsl xi) ((ckE n κ kp a xa Γ).bind fun r => (ckE n κ kp i xi r.2.2).bind fun s => gd (own r.2.1 || s.1) (some (r.1 && s.1, child r.2.1, s.2.2)))
      | _ => none)
    | .sl a lo hi => (match x with
      | .Subscript xa (.Slice xl xh none _) _ => (ckE n κ kp a xa Γ).bind fun r => (ckO n κ kp lo xl r.2.2).bind fun s => (ckO n κ kp hi xh s.2).bind fun t => gd (own r.2.1) (some (r.1 && (s.1 && t.1), 2, t.2))
      | _ => none)
    | .slT a lo hi => (match x with
      | .Subscript xa (.Slice xl xh none _) _ => (ckE n κ kp a xa Γ).bind fun r => (ckO n κ kp lo xl r.2.2).bind fun s => (ckO n κ kp hi xh s.2).bind fun t => gd (own r.2.1) (some (r.1 && (s.1 && t.1), 1, t.2))
      | _ => none)
    | .lst as => (match x with
      | .List es _ => (ckL n κ kp as es Γ).bind fun r => gd (r.2.1.all (fun m => decide (1 ≤ m)) && decide (as.length ≤ 1000)) (some (r.1, lvD r.2.1, r.2.2))
      | _ => none)
    | .tup as => (match x with
      | .Tuple es _ _ => (ckL n κ kp as es Γ).bind fun r => gd (r.2.1.all (fun m => decide (1 ≤ m)) && decide (as.length ≤ 1000)) (some (r.1, lvD r.2.1, r.2.2))
      | _ => none)
    | .fl a => (ckE n κ kp a x Γ).bind fun r => some (r.1, 100, r.2.2)
    | .lc e t it cs => (match x with
      | .ListComp xe [⟨tg, xi, ifs, 0⟩] scope _ => gd (nset xi && blkC κ.N (scO κ.names) scope (tgNames t tg) && decide ((tgNames t tg).map (·.2) = t.is) && ckTg ⟨κ.N, relN κ.names scope.names, false⟩ t tg)
        ((ckI n κ kp it xi tg Γ).bind fun r => 
          (ckTs n ⟨κ.N, relN κ.names scope.names, false⟩ [] cs ifs (tgtG t 1 (setG t.is 0 r.2))).bind fun s => (ckE n ⟨κ.N, relN κ.names scope.names, false⟩ [] e xe s.2).bind fun u =>
          (ckTs n ⟨κ.N, relN κ.names scope.names, false⟩ [] cs ifs (tgtG t 1 (setG t.is 0 (meetG r.2 u.2.2)))).bind fun s2 => (ckE n ⟨κ.N, relN κ.names scope.names, false⟩ [] e xe s2.2).bind fun u2 =>
          gd (t.is.all (fun i => decide (i < (setG t.is 0 (meetG r.2 u.2.2)).length)) && leN (setG t.is 0 (meetG r.2 u.2.2)) r.2 && leN (setG t.is 0 (meetG r.2 u.2.2)) (setG t.is 0 s2.2) && leN (setG t.is 0 (meetG r.2 u.2.2)) (setG t.is 0 u2.2.2)
            && t.is.all (fun i => decide (lvOf (setG t.is 0 (meetG r.2 u.2.2)) i = 0)) && own u2.2.1 && decide (u2.2.1 ≠ 99))
          (some (r.1 && (s2.1 && u2.1), up u2.2.1, setG t.is 0 (meetG r.2 u.2.2))))
      | _ => none)
    | _ => none
def ckL : Nat → Kx → List Nat → List C → List Expr → Gm → Option (Bool × List Nat × Gm)
  | 0, _, _, _, _, _ => none
  | n + 1, κ, kp, cs, xs, Γ => match cs, xs with
    | [], [] => some (true, [], Γ)
    | c :: cs, x :: xs => (ckE n κ kp c x Γ).bind fun r => (ckL n κ kp cs xs r.2.2).bind fun s => gd (ns x && (own r.2.1 || s.1)) (some (r.1 && s.1, r.2.1 :: s.2.1, s.2.2))
    | _, _ => none
/-- arguments, some of them looked at only -/
def ckLb : Nat → Kx → List Nat → List C → List Expr → Gm → Option (List Nat × Gm)
  | 0, _, _, _, _, _ => none
  | n + 1, κ, kp, cs, xs, Γ => match cs, xs with
    | [], [] => some ([], Γ)
    | c :: cs, x :: xs => (match boI c with
      | some i => (match x with
        | .Name y _ => gd (κ.vis i y && decide (1 ≤ lvOf Γ i)) ((ckLb n κ kp cs xs Γ).bind fun s => some (0 :: s.1, s.2))
        | _ => none)
      | none => (ckE n κ kp c x Γ).bind fun r => (ckLb n κ kp cs xs r.2.2).bind fun s => gd (ns x && r.1 && own r.2.1) (some (r.2.1 :: s.1, s.2)))
    | _, _ => none
def ckO : Nat → Kx → List Nat → Option C → Option Expr → Gm → Option (Bool × Gm)
  | 0, _, _, _, _, _ => none
  | n + 1, κ, kp, c, x, Γ => match c, x with
    | none, none => some (true, Γ)
    | some c, some x => (ckE n κ kp c x Γ).bind fun r => some (r.1, r.2.2)
    | _, _ => none
/-- a chain of and, or: its values -/
def ckV : Nat → Kx → List Nat → Bool → C → List Expr → Gm → Option (Bool × Nat × Gm)
  | 0, _, _, _, _, _, _ => none
  | n + 1, κ, kp, a, c, xs, Γ => match xs with
    | [] => none
    | [x] => ckE n κ kp c x Γ
    | x :: y :: rest => match a, c with
      | true, .and c1 c2 => (ckE n κ kp c1 x Γ).bind fun r => (ckV n κ kp a c2 (y :: rest) r.2.2).bind fun s => gd (leN (meetG r.2.2 s.2.2) r.2.2 && leN (meetG r.2.2 s.2.2) s.2.2) (some (r.1 && s.1, meetM r.2.1 s.2.1, meetG r.2.2 s.2.2))
      | false, .or c1 c2 => (ckE n κ kp c1 x Γ).bind fun r => (ckV n κ kp a c2 (y :: rest) r.2.2).bind fun s => gd (leN (meetG r.2.2 s.2.2) r.2.2 && leN (meetG r.2.2 s.2.2) s.2.2) (some (r.1 && s.1, meetM r.2.1 s.2.1, meetG r.2.2 s.2.2))
      | _, _ => none
/-- .. as a test -/
def ckW : Nat → Kx → List Nat → Bool → C → List Expr → Gm → Option (Bool × Gm)
  | 0, _, _, _, _, _, _ => none
  | n + 1, κ, kp, a, c, xs, Γ => match xs with
    | [] => none
    | [x] => ckT n κ kp c x Γ
    | x :: y :: rest => match a, c with
      | true, .and c1 c2 => (ckT n κ kp c1 x Γ).bind fun r => (ckW n κ kp a c2 (y :: rest) r.2).bind fun s => gd (leN (meetG r.2 s.2) r.2 && leN (meetG r.2 s.2) s.2) (some (r.1 && s.1, meetG r.2 s.2))
      | false, .or c1 c2 => (ckT n κ kp c1 x Γ).bind fun r => (ckW n κ kp a c2 (y :: rest) r.2).bind fun s => gd (leN (meetG r.2 s.2) r.2 && leN (meetG r.2 s.2) s.2) (some (r.1 && s.1, meetG r.2 s.2))
      | _, _ => none
def ckT : Nat → Kx → List Nat → C → Expr → Gm → Option (Bool × Gm)
  | 0, _, _, _, _, _ => none
  | n + 1, κ, kp, c, x, Γ => match x with
    | .BoolOp op xs _ => ckW n κ kp (decide (op = .And)) c xs Γ
    | .UnaryOp .Not y _ => (match c with
      | .nt a => ckT n κ kp a y Γ
      | _ => none)
    | .Compare xa [o'] [xb] _ => (match c with
      | .cmp o a b => gd (decide (o' = cpOf o) && !behindInMarks (cpOf o) xb) ((ckE n κ kp a xa Γ).bind fun r => (ckE n κ kp b xb r.2.2).bind fun s => gd (own r.2.1 || s.1) (some (r.1 && s.1, s.2.2)))
      | _ => none)
    | _ => gd (plainT x) ((ckE n κ kp c x Γ).bind fun r => some (r.1, r.2.2))
/-- the tests of a clause -/
def ckTs : Nat → Kx → List Nat → List C → List Expr → Gm → Option (Bool × Gm)
  | 0, _, _, _, _, _ => none
  | n + 1, κ, kp, cs, xs, Γ => match cs, xs with
    | [], [] => some (true, Γ)
    | [c], [x] => ckT n κ kp c x Γ
    | _, _ => none
/-- what is walked -/
def ckI : Nat → Kx → List Nat → C → Expr → Expr → Gm → Option (Bool × Gm)
  | 0, _, _, _, _, _, _ => none
  | n + 1, κ, kp, c, x, tg, Γ => match c with
    | .rg a => (match x with
      | .Call (.Name y _) [xa] [] _ => gd (y == ("range" : Str) && κ.gl y && ns xa) ((ckE n κ kp a xa Γ).bind fun r => some (r.1, r.2.2))
      | _ => none)
    | .rg2 a b => (match x with
      | .Call (.Name y _) [xa, xb] [] _ => gd (y == ("range" : Str) && κ.gl y && ns xa && ns xb) ((ckE n κ kp a xa Γ).bind fun r => (ckE n κ kp b xb r.2.2).bind fun s => gd (own r.2.1 || s.1) (some (r.1 && s.1, s.2.2)))
      | _ => none)
    | .zp a b => (match x with
      | .Call (.Name y _) [xa, xb] [] _ => gd (isTupE tg && y == ("zip" : Str) && κ.gl y && ns xa && ns xb) ((ckE n κ kp a xa Γ).bind fun r => (ckE n κ kp b xb r.2.2).bind fun s => gd (own r.2.1 && own s.2.1) (some (r.1 && s.1, s.2.2)))
      | _ => none)
    | .en a => (match x with
      | .Call (.Name y _) [xa] [] _ => gd (isTupE tg && y == ("enumerate" : Str) && κ.gl y && ns xa) ((ckE n κ kp a xa Γ).bind fun r => gd (own r.2.1) (some (r.1, r.2.2)))
      | _ => none)
    | _ => (ckE n κ kp c x Γ).bind fun r => gd (own r.2.1) (some (r.1, r.2.2))
end
end
end Z

/-! Z20: what the checker of expressions takes is right. -/
namespace Z
open PySem PySem.Spec L2 PyProof.Rows
/-- a context that the checker's tables tell of -/
structure XOk (L : Lw) (d : Nat) (κ : Kx) (X : Cx) (W : WX) : Prop where
  K : X.K = L.T.K
  N : X.N = κ.N
  nd : X.N.Nodup
  kind : X.env.scope.kind = .function
  names : X.env.scope.names = κ.names
  calm : X.calm = true
  fn : κ.fa = true → ∀ x, X.fn x = true
  room : Room d X.A
  tk : Takes X W
  bl : ∀ x ∈ blt, X.mg x = none
  cal : ∀ (f : Nat) (fn : Fn), L.T.P.fns[f]? = some fn → ∃ x, L.nm[f]? = some x ∧ Callee L.T d f fn x X
  gl : ∀ (g : Nat) (v : D), L.T.P.gl[g]? = some v → ∃ x, L.glN[g]? = some x ∧ GlOk L.T x v X
section
variable {L : Lw} {d : Nat} {κ : Kx} {X : Cx} {W : WX} {kp : List Nat}
theorem XOk.hu (ok : XOk L d κ X W) : X.A.units + 64 < cLine := by have := ok.room.un; omega
theorem Kx.ok_db {x : Str} (h : Kx.ok x = true) : (x == ("__debug__" : Str)) = false ∧ (x == ("__classdict__" : Str)) = false ∧ x ≠ "__name__" := by
  simp only [Kx.ok, Bool.and_eq_true, Bool.not_eq_true', decide_eq_true_eq] at h
  exact ⟨h.1.1, h.1.2, h.2⟩
theorem XOk.var (ok : XOk L d κ X W) {i : Nat} {x : Str} {pos : Pos} (h : κ.vis i x = true) : PE X (.Name x pos) (tVar i) := by
  simp only [Kx.vis, Bool.and_eq_true, decide_eq_true_eq] at h
  obtain ⟨⟨h1, h2⟩, h3⟩ := h
  obtain ⟨k1, k2, _⟩ := Kx.ok_db h3
  refine pe_var (by rw [ok.N]; exact h1) ?_ k1 k2
  unfold Vis
  rw [ok.names]
  split at h2 <;> first
    | (rename_i e; exact .inl e)
    | (rename_i e; exact .inr (.inl e))
    | (rename_i e; exact .inr (.inr e))
    | cases h2
theorem XOk.glob (ok : XOk L d κ X W) {x : Str} (h : κ.gl x = true) : Gl X x ∧ (x == ("__debug__" : Str)) = false ∧ x ≠ "__name__" := by
  simp only [Kx.gl, Bool.and_eq_true] at h
  obtain ⟨h1, h2⟩ := h
  obtain ⟨k1, _, k2⟩ := Kx.ok_db h2
  refine ⟨?_, k1, k2⟩
  show X.env.scope.names.lookup x = _
  rw [ok.names]
  split at h1 <;> first
    | assumption
    | cases h1
theorem XOk.name (ok : XOk L d κ X W) {i : Nat} {x : Str} {pos : Pos} (h : κ.loc i x = true) : PG X (.Name x pos) (gName i) := by
  simp only [Kx.loc, Bool.and_eq_true, decide_eq_true_eq] at h
  obtain ⟨h1, h2⟩ := h
  have hN : X.N[i]? = some x := by rw [ok.N]; exact h1
  have hl : X.env.scope.names.lookup x = κ.names.lookup x := by rw [ok.names]
  split at h2
  · rename_i e
    exact pg_name ok.nd hN (.inl (hl.trans e)) (.inr (hl.trans e))
  · rename_i e
    exact pg_name ok.nd hN (.inr (hl.trans e)) (.inl (ok.fn h2 x))
  · cases h2
theorem eq_str {x y : Str} (h : (x == y) = true) : x = y := by simpa using h
theorem pgs_ok (ok : XOk L d κ X W) : ∀ {is : List Nat} {es : List Expr}, ckNames κ is es = true → PGs X es (gAll is) ∧ es.length = is.length ∧ ∀ env, (assignEach es env).map (·.2) = es.map (fun e => assign e env)
  | [], [], _ => ⟨pgs_nil, rfl, fun _ => rfl⟩
  | i :: is, e :: es, h => by
    cases e <;> simp only [ckNames, Bool.and_eq_true, Bool.false_eq_true] at h
    obtain ⟨p1, p2, p3⟩ := pgs_ok ok h.2
    exact ⟨pgs_cons (ok.name h.1) p1 rfl, by simp [p2], fun env => by simp only [assignEach, List.map_cons, p3 env]⟩
  | [], _ :: _, h => by simp [ckNames] at h
  | _ :: _, [], h => by simp [ckNames] at h
theorem asg_len {κ : Kx} : ∀ {is : List Nat} {es : List Expr}, ckNames κ is es = true → ∀ env, (assignEach es env).length = is.length ∧ (assignEach es env).findIdx? (·.1) = none
  | [], [], _, _ => ⟨rfl, rfl⟩
  | i :: is, e :: es, h, env => by
    cases e <;> simp only [ckNames, Bool.and_eq_true, Bool.false_eq_true] at h
    obtain ⟨p1, p2⟩ := asg_len h.2 env
    refine ⟨by simp only [assignEach, List.length_cons, p1], ?_⟩
    simp only [assignEach, List.findIdx?_cons, p2, Bool.false_eq_true, if_false, Option.map_none]
  | [], _ :: _, h, _ => by simp [ckNames] at h
  | _ :: _, [], h, _ => by simp [ckNames] at h
theorem XOk.tg (ok : XOk L d κ X W) {t : Z.T} {x : Expr} (h : ckTg κ t x = true) : PG X x (gT L.T.K t) := by
  cases t with
  | n i =>
    cases x <;> simp only [ckTg, Bool.false_eq_true] at h
    exact ok.name h
  | tp is =>
    cases x <;> simp only [ckTg, Bool.false_eq_true] at h
    rename_i es k pos
    obtain ⟨p1, _, _⟩ := pgs_ok ok h
    obtain ⟨p2, p3⟩ := asg_len h X.env
    have := pg_tup (X := X) (pos := pos) (k := k) (n := is.length) ok.calm p1 p2 p3
    rw [ok.K] at this
    exact this
theorem blk_names {scope : Scope} {env : PySem.Env} {names : List (Str × NameKind)} (hk : env.scope.kind = .function) (hn : env.scope.names = names) (cl : List (Str × Addr)) (C : Addr) : (compEnvC scope cl C env).scope.names = relN names scope.names := by
  show (relabel scope env).names = _
  unfold relabel relN
  dsimp only
  refine List.map_congr_left fun p _ => ?_
  obtain ⟨x, k⟩ := p
  have : env.kindOf x = names.lookup x := by show env.scope.names.lookup x = _; rw [hn]
  rw [this, hk]
  simp
theorem XOk.blk (ok : XOk L d κ X W) {scope : Scope} (hs : scope.kind = .function) (s : Shared) (H : Hp) (C : Addr) (cl : List (Str × Addr)) (fp : List Addr) : XOk L d ⟨κ.N, relN κ.names scope.names, false⟩ (X.blk s H scope (compEnvC scope cl C X.env) fp) W0 where
  K := ok.K
  N := ok.N
  nd := ok.nd
  kind := hs
  names := blk_names ok.kind ok.names cl C
  calm := ok.calm
  fn := fun h => by simp at h
  room := ok.room
  tk := fun u s' ⟨a, B, sI, pins, σ, H, cls, d, e, I, nb, up, sky, na, os, ag, w⟩ => w.elim
  bl := ok.bl
  cal := fun f fn h => by
    obtain ⟨x, h1, ⟨c⟩⟩ := ok.cal f fn h
    exact ⟨x, h1, ⟨c⟩⟩
  gl := fun g v h => by
    obtain ⟨x, h1, ⟨c⟩⟩ := ok.gl g v h
    exact ⟨x, h1, ⟨c⟩⟩
theorem blkOk_of {N : List Str} {sc scope : Scope} {names : List (Str × NameKind)} {own : List (Str × Nat)} (hn : sc.names = names) (h : blkC N (scO names) scope own = true) : BlkOk N sc scope own := by
  have b := blkOk_by h
  exact ⟨b.kind, b.uniq, b.ix, fun y hy e => by rw [hn]; exact b.free y hy e, b.own⟩
/-! ### the theorem -/
structure CkOk (L : Lw) (d n : Nat) : Prop where
  eE : ∀ {κ kp c x Γ q m Γ'}, ckE L n κ kp c x Γ = some (q, m, Γ') → ∀ {X W}, XOk L d κ X W → SE X L.T W kp q (ev L.T.P.gl (run L.T.P d) c) x Γ m Γ'
  eL : ∀ {κ kp cs xs Γ q ms Γ'}, ckL L n κ kp cs xs Γ = some (q, ms, Γ') → ∀ {X W}, XOk L d κ X W → SL X L.T W kp q (evL L.T.P.gl (run L.T.P d) cs) xs Γ ms Γ' ∧ xs.all ns = true ∧ cs.length = xs.length
  eLb : ∀ {κ kp cs xs Γ ms Γ'}, ckLb L n κ kp cs xs Γ = some (ms, Γ') → ∀ {X W}, XOk L d κ X W → SLb X L.T W kp cs (evL L.T.P.gl (run L.T.P d) cs) xs Γ ms Γ' ∧ xs.all ns = true ∧ cs.length = xs.length
  eO : ∀ {κ kp c x Γ q Γ'}, ckO L n κ kp c x Γ = some (q, Γ') → ∀ {X W}, XOk L d κ X W → SO X L.T W kp q (evO L.T.P.gl (run L.T.P d) c) x Γ Γ'
  eV : ∀ {κ kp a c xs Γ q m Γ'}, ckV L n κ kp a c xs Γ = some (q, m, Γ') → ∀ {X W}, XOk L d κ X W → ∀ pos, SE X L.T W kp q (ev L.T.P.gl (run L.T.P d) c) (.BoolOp (if a then .And else .Or) xs pos) Γ m Γ'
  eW : ∀ {κ kp a c xs Γ q Γ'}, ckW L n κ kp a c xs Γ = some (q, Γ') → ∀ {X W}, XOk L d κ X W → ∀ pos, SW X L.T W kp q (ev L.T.P.gl (run L.T.P d) c) (.BoolOp (if a then .And else .Or) xs pos) Γ Γ'
  eT : ∀ {κ kp c x Γ q Γ'}, ckT L n κ kp c x Γ = some (q, Γ') → ∀ {X W}, XOk L d κ X W → ST X L.T W kp q (ev L.T.P.gl (run L.T.P d) c) x Γ Γ'
  eTs : ∀ {κ kp cs xs Γ q Γ'}, ckTs L n κ kp cs xs Γ = some (q, Γ') → ∀ {X W}, XOk L d κ X W → STs X L.T W kp q (evT L.T.P.gl (run L.T.P d) cs) xs Γ Γ'
  eI : ∀ {κ kp c x tg Γ q Γ'}, ckI L n κ kp c x tg Γ = some (q, Γ') → ∀ {X W}, XOk L d κ X W → SI X L.T W kp q (ev L.T.P.gl (run L.T.P d) c) tg x Γ Γ'
theorem or_own {m : Nat} {q : Bool} (h : (own m || q) = true) : own m = true ∨ q = true := by simpa using h
theorem le_len {G : List D} {k : Oracle} : ∀ {cs : List C} {e e' : Env} {xs : List D}, evL G k cs e = .ok xs e' → xs.length = cs.length
  | [], e, e', xs, h => by simp only [evL] at h; injection h with h1 h2; subst h1; rfl
  | c :: cs, e, e', xs, h => by
    simp only [evL] at h
    cases e1 : ev G k c e with
    | bad => rw [e1] at h; cases h
    | exc y e2 => rw [e1] at h; cases h
    | ok x e2 =>
      rw [e1] at h
      simp only [R.bind_ok] at h
      cases e3 : evL G k cs e2 with
      | bad => rw [e3] at h; cases h
      | exc y e4 => rw [e3] at h; cases h
      | ok ys e4 =>
        rw [e3] at h
        simp only [R.bind_ok] at h
        injection h with h1 h2
        subst h1
        simp [le_len e3]
end
section
variable {L : Lw} {d n : Nat}
theorem ck_L (ih : CkOk L d n) : ∀ {κ kp cs xs Γ q ms Γ'}, ckL L (n + 1) κ kp cs xs Γ = some (q, ms, Γ') → ∀ {X W}, XOk L d κ X W → SL X L.T W kp q (evL L.T.P.gl (run L.T.P d) cs) xs Γ ms Γ' ∧ xs.all ns = true ∧ cs.length = xs.length := by
  intro κ kp cs xs Γ q ms Γ' h X W ok
  simp only [ckL] at h
  split at h
  · cases h
    exact ⟨sl_nil, rfl, rfl⟩
  · rename_i c cs x xs
    simp only [Option.bind_eq_some_iff, gd_eq, Bool.and_eq_true, Option.some.injEq, Prod.mk.injEq] at h
    obtain ⟨⟨q1, m1, Γ1⟩, h1, ⟨q2, ms2, Γ2⟩, h2, ⟨hn, hm⟩, rfl, rfl, rfl⟩ := h
    obtain ⟨i2, i3, i4⟩ := ih.eL h2 ok
    exact ⟨sl_cons (ih.eE h1 ok) i2 (or_own hm) (star_cons hn), by simp [hn, i3], by simp [i4]⟩
  · cases h
theorem boI_eq {c : C} {i : Nat} (h : boI c = some i) : c = .bo i := by
  cases c <;> simp only [boI, reduceCtorEq, Option.some.injEq] at h
  rw [h]
theorem boI_no {c : C} (h : boI c = none) : isBo c = false := by
  cases c <;> first
    | rfl
    | (simp [boI] at h)
theorem ck_Lb (ih : CkOk L d n) : ∀ {κ kp cs xs Γ ms Γ'}, ckLb L (n + 1) κ kp cs xs Γ = some (ms, Γ') → ∀ {X W}, XOk L d κ X W → SLb X L.T W kp cs (evL L.T.P.gl (run L.T.P d) cs) xs Γ ms Γ' ∧ xs.all ns = true ∧ cs.length = xs.length := by
  intro κ kp cs xs Γ ms Γ' h X W ok
  simp only [ckLb] at h
  split at h
  · cases h
    exact ⟨sb_nil, rfl, rfl⟩
  · rename_i c cs x xs
    split at h
    · rename_i i hi
      split at h
      · simp only [Option.bind_eq_some_iff, gd_eq, Bool.and_eq_true, decide_eq_true_eq, Option.some.injEq, Prod.mk.injEq] at h
        obtain ⟨⟨hv, h1⟩, ⟨ms2, Γ2⟩, h2, rfl, rfl⟩ := h
        obtain ⟨i2, i3, i4⟩ := ih.eLb h2 ok
        cases boI_eq hi
        exact ⟨sb_bo (ok.var hv) h1 i2 rfl, by simpa [ns] using i3, by simp [i4]⟩
      · cases h
    · rename_i hi
      simp only [Option.bind_eq_some_iff, gd_eq, Bool.and_eq_true, Option.some.injEq, Prod.mk.injEq] at h
      obtain ⟨⟨q1, m1, Γ1⟩, h1, ⟨ms2, Γ2⟩, h2, ⟨⟨hn, hq⟩, hm⟩, rfl, rfl⟩ := h
      obtain ⟨i2, i3, i4⟩ := ih.eLb h2 ok
      have hq' : q1 = true := hq
      subst hq'
      exact ⟨sb_own (boI_no hi) (ih.eE h1 ok) i2 hm hn, by simp [hn, i3], by simp [i4]⟩
  · cases h
theorem boOk_ok : ∀ {cs : List C} {ms : List Nat} {Γ : Gm}, boOk cs ms Γ = true → (∀ i, .bo i ∈ cs → 1 ≤ lvOf Γ i) ∧ ∀ j : Nat, ∀ c, cs[j]? = some c → isBo c = true ∨ ∃ m, ms[j]? = some m ∧ own m = true
  | [], [], _, _ => ⟨fun i h => by simp at h, fun j c h => by simp at h⟩
  | c :: cs, m :: ms, Γ, h => by
    simp only [boOk, Bool.and_eq_true] at h
    obtain ⟨h1, h2⟩ := h
    obtain ⟨k1, k2⟩ := boOk_ok h2
    refine ⟨fun i hi => ?_, fun j c' hc => ?_⟩
    · rcases List.mem_cons.mp hi with e | hi
      · subst e
        simpa [boI] using h1
      · exact k1 i hi
    · cases j with
      | zero =>
        simp at hc
        subst hc
        split at h1
        · rename_i i hi
          cases boI_eq hi
          exact .inl rfl
        · exact .inr ⟨m, rfl, h1⟩
      | succ j => simpa using k2 j c' (by simpa using hc)
  | [], _ :: _, _, h => by simp [boOk] at h
  | _ :: _, [], _, h => by simp [boOk] at h
theorem ck_O (ih : CkOk L d n) : ∀ {κ kp c x Γ q Γ'}, ckO L (n + 1) κ kp c x Γ = some (q, Γ') → ∀ {X W}, XOk L d κ X W → SO X L.T W kp q (evO L.T.P.gl (run L.T.P d) c) x Γ Γ' := by
  intro κ kp c x Γ q Γ' h X W ok
  simp only [ckO] at h
  split at h
  · cases h; exact so_none
  · simp only [Option.bind_eq_some_iff, Option.some.injEq, Prod.mk.injEq] at h
    obtain ⟨⟨q1, m1, Γ1⟩, h1, rfl, rfl⟩ := h
    exact so_some (ih.eE h1 ok)
  · cases h
theorem ck_V (ih : CkOk L d n) : ∀ {κ kp a c xs Γ q m Γ'}, ckV L (n + 1) κ kp a c xs Γ = some (q, m, Γ') → ∀ {X W}, XOk L d κ X W → ∀ pos, SE X L.T W kp q (ev L.T.P.gl (run L.T.P d) c) (.BoolOp (if a then .And else .Or) xs pos) Γ m Γ' := by
  intro κ kp a c xs Γ q m Γ' h X W ok pos
  simp only [ckV] at h
  split at h
  · cases h
  · exact se_and1 (ih.eE h ok)
  · split at h
    · simp only [Option.bind_eq_some_iff, gd_eq, Bool.and_eq_true, Option.some.injEq, Prod.mk.injEq] at h
      obtain ⟨⟨q1, m1, Γ1⟩, h1, ⟨q2, m2, Γ2⟩, h2, ⟨l1, l2⟩, rfl, rfl, rfl⟩ := h
      exact se_and ok.K (ih.eE h1 ok) (ih.eV h2 ok pos) (leN_ok l1) (leN_ok l2) (meetM_l _ _) (meetM_r _ _)
    · simp only [Option.bind_eq_some_iff, gd_eq, Bool.and_eq_true, Option.some.injEq, Prod.mk.injEq] at h
      obtain ⟨⟨q1, m1, Γ1⟩, h1, ⟨q2, m2, Γ2⟩, h2, ⟨l1, l2⟩, rfl, rfl, rfl⟩ := h
      exact se_or ok.K (ih.eE h1 ok) (ih.eV h2 ok pos) (leN_ok l1) (leN_ok l2) (meetM_l _ _) (meetM_r _ _)
    · cases h
theorem ck_W (ih : CkOk L d n) : ∀ {κ kp a c xs Γ q Γ'}, ckW L (n + 1) κ kp a c xs Γ = some (q, Γ') → ∀ {X W}, XOk L d κ X W → ∀ pos, SW X L.T W kp q (ev L.T.P.gl (run L.T.P d) c) (.BoolOp (if a then .And else .Or) xs pos) Γ Γ' := by
  intro κ kp a c xs Γ q Γ' h X W ok pos
  simp only [ckW] at h
  split at h
  · cases h
  · cases a
    · exact sw_or1 (ih.eT h ok)
    · exact sw_and1 (ih.eT h ok)
  · split at h
    · simp only [Option.bind_eq_some_iff, gd_eq, Bool.and_eq_true, Option.some.injEq, Prod.mk.injEq] at h
      obtain ⟨⟨q1, Γ1⟩, h1, ⟨q2, Γ2⟩, h2, ⟨l1, l2⟩, rfl, rfl⟩ := h
      exact sw_and (ih.eT h1 ok) (ih.eW h2 ok pos) (leN_ok l1) (leN_ok l2)
    · simp only [Option.bind_eq_some_iff, gd_eq, Bool.and_eq_true, Option.some.injEq, Prod.mk.injEq] at h
      obtain ⟨⟨q1, Γ1⟩, h1, ⟨q2, Γ2⟩, h2, ⟨l1, l2⟩, rfl, rfl⟩ := h
      exact sw_or (ih.eT h1 ok) (ih.eW h2 ok pos) (leN_ok l1) (leN_ok l2)
    · cases h
theorem ck_Ts (ih : CkOk L d n) : ∀ {κ kp cs xs Γ q Γ'}, ckTs L (n + 1) κ kp cs xs Γ = some (q, Γ') → ∀ {X W}, XOk L d κ X W → STs X L.T W kp q (evT L.T.P.gl (run L.T.P d) cs) xs Γ Γ' := by
  intro κ kp cs xs Γ q Γ' h X W ok
  simp only [ckTs] at h
  split at h
  · cases h; exact sts_nil
  · exact sts_one (ih.eT h ok)
  · cases h
theorem ck_I (ih : CkOk L d n) : ∀ {κ kp c x tg Γ q Γ'}, ckI L (n + 1) κ kp c x tg Γ = some (q, Γ') → ∀ {X W}, XOk L d κ X W → SI X L.T W kp q (ev L.T.P.gl (run L.T.P d) c) tg x Γ Γ' := by
  intro κ kp c x tg Γ q Γ' h X W ok
  have val : ∀ {c}, ((ckE L n κ kp c x Γ).bind fun r => gd (own r.2.1) (some (r.1, r.2.2))) = some (q, Γ') → SI X L.T W kp q (ev L.T.P.gl (run L.T.P d) c) tg x Γ Γ' := by
    intro c h
    simp only [Option.bind_eq_some_iff, gd_eq, Option.some.injEq, Prod.mk.injEq] at h
    obtain ⟨⟨q1, m1, Γ1⟩, h1, hm, rfl, rfl⟩ := h
    exact si_val ok.K (ih.eE h1 ok) hm
  cases c <;> first | (simp only [ckI] at h; exact val h) | skip
  case rg a =>
    simp only [ckI] at h
    split at h
    · simp only [Option.bind_eq_some_iff, gd_eq, Bool.and_eq_true, Option.some.injEq, Prod.mk.injEq] at h
      obtain ⟨⟨⟨hy, hg⟩, hn⟩, ⟨q1, m1, Γ1⟩, h1, rfl, rfl⟩ := h
      cases eq_str hy
      exact si_rg (ok.glob hg).1 (ok.bl _ (by simp [blt])) (ih.eE h1 ok) hn
    · cases h
  case rg2 a b =>
    simp only [ckI] at h
    split at h
    · simp only [Option.bind_eq_some_iff, gd_eq, Bool.and_eq_true, Option.some.injEq, Prod.mk.injEq] at h
      obtain ⟨⟨⟨⟨hy, hg⟩, hn⟩, hn2⟩, ⟨q1, m1, Γ1⟩, h1, ⟨q2, m2, Γ2⟩, h2, hm, rfl, rfl⟩ := h
      cases eq_str hy
      exact si_rg2 (ok.glob hg).1 (ok.bl _ (by simp [blt])) (ih.eE h1 ok) (ih.eE h2 ok) (or_own hm) hn hn2
    · cases h
  case zp a b =>
    simp only [ckI] at h
    split at h
    · simp only [Option.bind_eq_some_iff, gd_eq, Bool.and_eq_true, Option.some.injEq, Prod.mk.injEq] at h
      obtain ⟨⟨⟨⟨⟨ht, hy⟩, hg⟩, hn⟩, hn2⟩, ⟨q1, m1, Γ1⟩, h1, ⟨q2, m2, Γ2⟩, h2, ⟨hm, hm2⟩, rfl, rfl⟩ := h
      cases eq_str hy
      cases tg <;> simp only [isTupE, Bool.false_eq_true] at ht
      exact si_zp ok.K (ok.glob hg).1 (ok.bl _ (by simp [blt])) (ih.eE h1 ok) (ih.eE h2 ok) hm hm2 hn hn2
    · cases h
  case en a =>
    simp only [ckI] at h
    split at h
    · simp only [Option.bind_eq_some_iff, gd_eq, Bool.and_eq_true, Option.some.injEq, Prod.mk.injEq] at h
      obtain ⟨⟨⟨⟨ht, hy⟩, hg⟩, hn⟩, ⟨q1, m1, Γ1⟩, h1, hm, rfl, rfl⟩ := h
      cases eq_str hy
      cases tg <;> simp only [isTupE, Bool.false_eq_true] at ht
      exact si_en ok.K (ok.glob hg).1 (ok.bl _ (by simp [blt])) (ih.eE h1 ok) hm hn
    · cases h
theorem ck_T (ih : CkOk L d n) : ∀ {κ kp c x Γ q Γ'}, ckT L (n + 1) κ kp c x Γ = some (q, Γ') → ∀ {X W}, XOk L d κ X W → ST X L.T W kp q (ev L.T.P.gl (run L.T.P d) c) x Γ Γ' := by
  intro κ kp c x Γ q Γ' h X W ok
  simp only [ckT] at h
  split at h
  · rename_i op xs pos
    have := ih.eW h ok pos
    cases op <;> exact sw_st this
  · split at h
    · exact st_not (ih.eT h ok)
    · cases h
  · split at h
    · simp only [Option.bind_eq_some_iff, gd_eq, Bool.and_eq_true, Option.some.injEq, Prod.mk.injEq, decide_eq_true_eq, Bool.not_eq_true'] at h
      obtain ⟨⟨rfl, hk⟩, ⟨q1, m1, Γ1⟩, h1, ⟨q2, m2, Γ2⟩, h2, hm, rfl, rfl⟩ := h
      exact st_cmp ok.hu ok.K (ih.eE h1 ok) (ih.eE h2 ok) (or_own hm) hk
    · cases h
  · simp only [Option.bind_eq_some_iff, gd_eq, Option.some.injEq, Prod.mk.injEq] at h
    obtain ⟨hp, ⟨q1, m1, Γ1⟩, h1, rfl, rfl⟩ := h
    exact st_val ok.K (ih.eE h1 ok) (plainT_ok hp)
end
end Z

/-! Z21: what the checker of expressions takes is right: expressions. -/
namespace Z
open PySem PySem.Spec L2 PyProof.Rows
section
variable {L : Lw} {d n : Nat}
theorem one_L {G : List D} {k : Oracle} {a : C} : evL G k [a] = fun e => (ev G k a e).bind fun x e1 => .ok [x] e1 := by
  funext e; simp only [evL, R.bind_ok]
theorem b1_list : b1 .list = listD := by
  funext xs
  match xs with
  | [] => rfl
  | [x] => cases x <;> rfl
  | x :: y :: r => simp [b1, listD]
theorem b1_tuple : b1 .tuple = tupleD := by
  funext xs
  match xs with
  | [] => rfl
  | [x] => cases x <;> rfl
  | x :: y :: r => simp [b1, tupleD]
theorem all_pos {ms : List Nat} (h : ms.all (fun m => decide (1 ≤ m)) = true) : ∀ m ∈ ms, 1 ≤ m := fun m hm => by simpa using List.all_eq_true.mp h m hm
theorem lst_len {G : List D} {k : Oracle} {as : List C} (h : as.length ≤ 1000) : ∀ e xs e', evL G k as e = .ok xs e' → xs.length ≤ LIM := fun e xs e' h' => by
  rw [le_len h']; exact Nat.le_trans h (by decide)
theorem bi_nm {f : B1} {t : Str} {L : Lw} (h : nameB f = some t) (h2 : nameT f = none) {κ : Kx} {X : Cx} {W : WX} {d : Nat} (ok : XOk L d κ X W) {q : Bool} {rs : Env → R (List D)} {p pos : Pos} {a : Expr} {as : List Expr} {Γ Γ1 : Gm} {ms : List Nat} {mo : Nat} {kp : List Nat} (hg : κ.gl t = true)
    (ha : SL X L.T W kp q rs (a :: as) Γ ms Γ1) (hn : (a :: as).all ns = true) : SE X L.T W kp q (fun e => (rs e).bind fun xs e1 => R.lift (b1 f xs) e1) (.Call (.Name t p) (a :: as) [] pos) Γ mo Γ1 := by
  obtain ⟨g1, g2, g3⟩ := ok.glob hg
  cases f <;> simp only [nameB, reduceCtorEq, Option.some.injEq] at h <;> subst h
  · exact se_biF bi_len (ok.K ▸ call_len) g1 (ok.bl _ (by simp [blt])) (by decide +kernel) g3 g2 ha hn
  · exact se_biF bi_abs call_abs g1 (ok.bl _ (by simp [blt])) (by decide +kernel) g3 g2 ha hn
  · exact se_tyF bi_int call_int1 g1 (ok.bl _ (by simp [blt])) (by decide +kernel) g3 g2 ha hn
  · exact se_biF bi_sum (ok.K ▸ cr_sum ok.calm) g1 (ok.bl _ (by simp [blt])) (by decide +kernel) g3 g2 ha hn
  · exact se_biF bi_all (ok.K ▸ cr_all ok.calm) g1 (ok.bl _ (by simp [blt])) (by decide +kernel) g3 g2 ha hn
  · exact se_biF bi_any (ok.K ▸ cr_any ok.calm) g1 (ok.bl _ (by simp [blt])) (by decide +kernel) g3 g2 ha hn
  · exact se_biF bi_max (callR_or (ok.K ▸ cr_max ok.calm) (call_max2 ok.calm)) g1 (ok.bl _ (by simp [blt])) (by decide +kernel) g3 g2 ha hn
  · exact se_biF bi_min (callR_or (ok.K ▸ cr_min ok.calm) (call_min2 ok.calm)) g1 (ok.bl _ (by simp [blt])) (by decide +kernel) g3 g2 ha hn
theorem mt_nm {mm : M1} {t : Str} {L : Lw} (h : nameM mm = some t) {κ : Kx} {X : Cx} {W : WX} {d : Nat} (ok : XOk L d κ X W) {q1 q2 : Bool} {ra : Env → R D} {rs : Env → R (List D)} {apos pos : Pos} {o a : Expr} {as : List Expr} {Γ Γ1 Γ2 : Gm} {m : Nat} {ms : List Nat} {mo : Nat} {kp : List Nat}
    (hm : own m = true ∨ q2 = true) (ho : SE X L.T W kp q1 ra o Γ m Γ1) (ha : SL X L.T W kp q2 rs (a :: as) Γ1 ms Γ2) (hn : (a :: as).all ns = true) (h3 : nsup o = true) (h4 : (apos.endLine == pos.line) = true) (h5 : as.length < 20) :
    SE X L.T W kp (q1 && q2) (fun e => (ra e).bind fun x e1 => if mtOk mm x = true then (rs e1).bind fun xs e2 => R.lift (m1 mm x xs) e2 else .bad) (.Call (.Attribute o t apos) (a :: as) [] pos) Γ mo Γ2 := by
  cases mm <;> simp only [nameM, reduceCtorEq, Option.some.injEq] at h
  subst h
  exact se_mt ok.K hm mf_index PySem.F.plainAttrs_list PySem.F.slot_list_index PySem.F.type_list_index (ok.K ▸ mt_index) ho ha hn h3 h4 h5
theorem isi_nm {f : B1} {t : Str} (h : nameT f = some t) : ∃ u, isTy f = some u ∧ bootBuiltins t = some (.type u) ∧ t ∈ blt := by
  cases f <;> simp only [nameT, reduceCtorEq, Option.some.injEq] at h <;> subst h
  · exact ⟨_, rfl, by decide +kernel, by simp [blt]⟩
  · exact ⟨_, rfl, by decide +kernel, by simp [blt]⟩
  · exact ⟨_, rfl, by decide +kernel, by simp [blt]⟩
  · exact ⟨_, rfl, by decide +kernel, by simp [blt]⟩
  · exact ⟨_, rfl, by decide +kernel, by simp [blt]⟩
theorem ck_E (ih : CkOk L d n) : ∀ {κ kp c x Γ q m Γ'}, ckE L (n + 1) κ kp c x Γ = some (q, m, Γ') → ∀ {X W}, XOk L d κ X W → SE X L.T W kp q (ev L.T.P.gl (run L.T.P d) c) x Γ m Γ' := by
  intro κ kp c x Γ q m Γ' h X W ok
  cases c <;> try (simp only [ckE, reduceCtorEq] at h; done)
  case non =>
    simp only [ckE] at h
    split at h <;> cases h
    exact se_const pe_non rfl fun _ => mk_non
  case bl b =>
    simp only [ckE] at h
    split at h <;> simp only [gd_eq, reduceCtorEq, beq_iff_eq, Option.some.injEq, Prod.mk.injEq] at h
    obtain ⟨rfl, rfl, rfl, rfl⟩ := h
    exact se_const pe_bl rfl fun _ => mk_bl
  case int b =>
    simp only [ckE] at h
    split at h <;> simp only [gd_eq, reduceCtorEq, beq_iff_eq, Option.some.injEq, Prod.mk.injEq] at h
    obtain ⟨rfl, rfl, rfl, rfl⟩ := h
    exact se_const pe_int rfl fun _ => mk_int
  case str b =>
    simp only [ckE] at h
    split at h <;> simp only [gd_eq, reduceCtorEq, beq_iff_eq, Option.some.injEq, Prod.mk.injEq] at h
    obtain ⟨rfl, rfl, rfl, rfl⟩ := h
    refine se_const pe_str rfl fun _ => ?_
    simp only [RF, txt, Array.toArray_toList]
  case v i =>
    simp only [ckE] at h
    split at h <;> simp only [gd_eq, reduceCtorEq, Bool.and_eq_true, decide_eq_true_eq, Option.some.injEq, Prod.mk.injEq] at h
    obtain ⟨⟨h1, h2⟩, rfl, rfl, rfl⟩ := h
    exact se_v (ok.var h1) h2
  case mv i =>
    simp only [ckE] at h
    split at h <;> simp only [gd_eq, reduceCtorEq, Bool.and_eq_true, decide_eq_true_eq, Option.some.injEq, Prod.mk.injEq] at h
    obtain ⟨⟨h1, h2⟩, rfl, rfl, rfl⟩ := h
    exact se_mv (ok.var h1) h2
  case pk i =>
    simp only [ckE] at h
    split at h <;> simp only [gd_eq, reduceCtorEq, Bool.and_eq_true, decide_eq_true_eq, Option.some.injEq, Prod.mk.injEq] at h
    obtain ⟨⟨h1, h2⟩, rfl, hm, rfl⟩ := h
    exact se_pk (ok.var h1) h2 hm.symm
  case gl g =>
    simp only [ckE] at h
    split at h <;> simp only [Option.bind_eq_some_iff, gd_eq, reduceCtorEq, Bool.and_eq_true, decide_eq_true_eq, Option.some.injEq, Prod.mk.injEq] at h
    obtain ⟨v, hv, ⟨h1, h2⟩, rfl, rfl, rfl⟩ := h
    obtain ⟨y, hy, g2⟩ := ok.gl g v hv
    rw [h2] at hy; cases hy
    obtain ⟨k1, k2, _⟩ := ok.glob h1
    exact se_gl k1 g2 k2 hv
  case op o a b =>
    simp only [ckE] at h
    split at h <;> simp only [Option.bind_eq_some_iff, gd_eq, reduceCtorEq, Bool.and_eq_true, decide_eq_true_eq, Option.some.injEq, Prod.mk.injEq] at h
    obtain ⟨rfl, ⟨q1, m1, Γ1⟩, h1, ⟨q2, m2, Γ2⟩, h2, hm, rfl, rfl, rfl⟩ := h
    exact se_op ok.K (ih.eE h1 ok) (ih.eE h2 ok) (or_own hm)
  case cat a b =>
    simp only [ckE] at h
    split at h <;> simp only [Option.bind_eq_some_iff, gd_eq, reduceCtorEq, Bool.and_eq_true, decide_eq_true_eq, Option.some.injEq, Prod.mk.injEq] at h
    obtain ⟨rfl, ⟨q1, m1, Γ1⟩, h1, ⟨q2, m2, Γ2⟩, h2, ⟨hm, hm2⟩, rfl, rfl, rfl⟩ := h
    exact se_cat (ih.eE h1 ok) (ih.eE h2 ok) hm hm2
  case catT a b =>
    simp only [ckE] at h
    split at h <;> simp only [Option.bind_eq_some_iff, gd_eq, reduceCtorEq, Bool.and_eq_true, decide_eq_true_eq, Option.some.injEq, Prod.mk.injEq] at h
    obtain ⟨rfl, ⟨q1, m1, Γ1⟩, h1, ⟨q2, m2, Γ2⟩, h2, ⟨hm, hm2⟩, rfl, rfl, rfl⟩ := h
    exact se_catT ok.K (ih.eE h1 ok) (ih.eE h2 ok) hm hm2
  case rep a b =>
    simp only [ckE] at h
    split at h <;> simp only [Option.bind_eq_some_iff, gd_eq, reduceCtorEq, Bool.and_eq_true, decide_eq_true_eq, Option.some.injEq, Prod.mk.injEq] at h
    obtain ⟨rfl, ⟨q1, m1, Γ1⟩, h1, ⟨q2, m2, Γ2⟩, h2, hm, rfl, rfl, rfl⟩ := h
    exact se_rep (ih.eE h1 ok) (ih.eE h2 ok) hm
  case mt mm o as =>
    simp only [ckE] at h
    split at h <;> simp only [Option.bind_eq_some_iff, gd_eq, reduceCtorEq, Bool.and_eq_true, decide_eq_true_eq, Option.some.injEq, Prod.mk.injEq] at h
    obtain ⟨⟨⟨⟨hnm, hs⟩, hp⟩, hl⟩, ⟨q1, m1, Γ1⟩, h1, ⟨q2, ms2, Γ2⟩, h2, hm, rfl, rfl, rfl⟩ := h
    obtain ⟨a1, a2, _⟩ := ih.eL h2 ok
    exact mt_nm hnm ok (or_own hm) (ih.eE h1 ok) a1 a2 hs hp hl
  case neg a =>
    simp only [ckE] at h
    split at h <;> simp only [Option.bind_eq_some_iff, reduceCtorEq, Option.some.injEq, Prod.mk.injEq] at h
    obtain ⟨⟨q1, m1, Γ1⟩, h1, rfl, rfl, rfl⟩ := h
    have e : ev L.T.P.gl (run L.T.P d) (.neg a) = fun e => (ev L.T.P.gl (run L.T.P d) a e).bind fun x e1 => R.lift (negD x) e1 := by
      funext e; simp only [ev]; congr 1; funext x e1; cases x <;> rfl
    rw [e]
    exact se_neg (ih.eE h1 ok)
  case nt a =>
    simp only [ckE] at h
    split at h <;> simp only [Option.bind_eq_some_iff, reduceCtorEq, Option.some.injEq, Prod.mk.injEq] at h
    obtain ⟨⟨q1, m1, Γ1⟩, h1, rfl, rfl, rfl⟩ := h
    exact se_not ok.K (ih.eE h1 ok)
  case and a b =>
    simp only [ckE] at h
    split at h
    · exact ih.eV h ok _
    · cases h
  case or a b =>
    simp only [ckE] at h
    split at h
    · exact ih.eV h ok _
    · cases h
  case cmp o a b =>
    simp only [ckE] at h
    split at h <;> simp only [Option.bind_eq_some_iff, gd_eq, reduceCtorEq, Bool.and_eq_true, decide_eq_true_eq, Bool.not_eq_true', Option.some.injEq, Prod.mk.injEq] at h
    obtain ⟨⟨rfl, hk⟩, ⟨q1, m1, Γ1⟩, h1, ⟨q2, m2, Γ2⟩, h2, hm, rfl, rfl, rfl⟩ := h
    exact se_cmp ok.hu ok.K (ih.eE h1 ok) (ih.eE h2 ok) (or_own hm) hk
  case ife c a b =>
    simp only [ckE] at h
    split at h <;> simp only [Option.bind_eq_some_iff, gd_eq, reduceCtorEq, Bool.and_eq_true, Option.some.injEq, Prod.mk.injEq] at h
    obtain ⟨⟨q1, Γ1⟩, h1, ⟨q2, m2, Γ2⟩, h2, ⟨q3, m3, Γ3⟩, h3, ⟨l1, l2⟩, rfl, rfl, rfl⟩ := h
    exact se_if (ih.eT h1 ok) (ih.eE h2 ok) (ih.eE h3 ok) (leN_ok l1) (leN_ok l2) (meetM_l _ _) (meetM_r _ _)
  case call f as =>
    simp only [ckE] at h
    split at h <;> simp only [Option.bind_eq_some_iff, gd_eq, reduceCtorEq, Bool.and_eq_true, decide_eq_true_eq, Option.some.injEq, Prod.mk.injEq] at h
    obtain ⟨fn, hf, ⟨⟨⟨hnm, hg⟩, hio⟩, hrl⟩, h⟩ := h
    obtain ⟨y, hy, c⟩ := ok.cal f fn hf
    rw [hnm] at hy; cases hy
    obtain ⟨k1, k2, _⟩ := ok.glob hg
    split at h
    · simp only [Option.bind_eq_some_iff, gd_eq, Bool.and_eq_true, decide_eq_true_eq, Option.some.injEq, Prod.mk.injEq] at h
      obtain ⟨⟨ms, Γ1⟩, h1, ⟨⟨⟨hr, hl⟩, hkp⟩, hbo⟩, rfl, rfl, rfl⟩ := h
      obtain ⟨i1, i2, i3⟩ := ih.eLb h1 ok
      obtain ⟨b1, b2⟩ := boOk_ok hbo
      exact se_callB hf (List.isEmpty_iff.mp hio) hl hr (fun i hi => by simpa using List.all_eq_true.mp hkp i hi) b1 b2 (fun e xs e' h => le_len h) ok.tk ok.room k1 c i1 i2 k2
    · simp only [Option.bind_eq_some_iff, gd_eq, Bool.and_eq_true, decide_eq_true_eq, Option.some.injEq, Prod.mk.injEq] at h
      obtain ⟨⟨q1, ms, Γ1⟩, h1, ⟨⟨hm, hl⟩, hkp⟩, rfl, rfl, rfl⟩ := h
      obtain ⟨i1, i2, i3⟩ := ih.eL h1 ok
      exact se_call hf (List.isEmpty_iff.mp hio) hm hl hrl (fun i hi => by simpa using List.all_eq_true.mp hkp i hi) ok.tk ok.room k1 c i1 i2 k2
  case bi f as =>
    simp only [ckE] at h
    split at h
    · simp only [gd_eq] at h
      obtain ⟨hg, h⟩ := h
      split at h
      · rename_i t ht
        split at h
        · simp only [Option.bind_eq_some_iff, gd_eq, Bool.and_eq_true, Option.some.injEq, Prod.mk.injEq] at h
          obtain ⟨⟨⟨⟨hy, hn⟩, hty⟩, hg2⟩, ⟨q1, m1, Γ1⟩, h1, rfl, rfl, rfl⟩ := h
          cases eq_str hy
          cases eq_str hty
          obtain ⟨u, hu, hb, hmem⟩ := isi_nm ht
          obtain ⟨k1, k2, k3⟩ := ok.glob hg2
          show SE X L.T W kp _ (fun e => (evL L.T.P.gl (run L.T.P d) [_] e).bind fun xs e1 => R.lift (b1 f xs) e1) _ _ _ _
          rw [one_L]
          exact se_isi ok.K hu (ok.glob hg).1 (ok.bl _ (by simp [blt])) k1 (ok.bl _ hmem) hb k3 k2 (ih.eE h1 ok) hn
        · cases h
      · rename_i ht
        split at h
        · rename_i t hb
          simp only [Option.bind_eq_some_iff, gd_eq, Option.some.injEq, Prod.mk.injEq] at h
          obtain ⟨hy, ⟨q1, ms, Γ1⟩, h1, rfl, rfl, rfl⟩ := h
          cases eq_str hy
          obtain ⟨i1, i2, i3⟩ := ih.eL h1 ok
          exact bi_nm hb ht ok hg i1 i2
        · split at h
          · simp only [Option.bind_eq_some_iff, gd_eq, Bool.and_eq_true, Option.some.injEq, Prod.mk.injEq] at h
            obtain ⟨⟨hy, hn⟩, ⟨q1, m1, Γ1⟩, h1, hm, rfl, rfl, rfl⟩ := h
            cases eq_str hy
            show SE X L.T W kp _ (fun e => (evL L.T.P.gl (run L.T.P d) [_] e).bind fun xs e1 => R.lift (b1 .list xs) e1) _ _ _ _
            rw [one_L, b1_list]
            exact se_list ok.K (ok.glob hg).1 (ok.bl _ (by simp [blt])) (ih.eE h1 ok) hm hn
          · simp only [Option.bind_eq_some_iff, gd_eq, Bool.and_eq_true, Option.some.injEq, Prod.mk.injEq] at h
            obtain ⟨⟨hy, hn⟩, ⟨q1, m1, Γ1⟩, h1, hm, rfl, rfl, rfl⟩ := h
            cases eq_str hy
            show SE X L.T W kp _ (fun e => (evL L.T.P.gl (run L.T.P d) [_] e).bind fun xs e1 => R.lift (b1 .tuple xs) e1) _ _ _ _
            rw [one_L, b1_tuple]
            exact se_tuple ok.K (ok.glob hg).1 (ok.bl _ (by simp [blt])) (ih.eE h1 ok) hm hn
          · cases h
    · cases h
  case ix a i =>
    simp only [ckE] at h
    split at h <;> simp only [Option.bind_eq_some_iff, gd_eq, reduceCtorEq, Bool.and_eq_true, decide_eq_true_eq, Option.some.injEq, Prod.mk.injEq] at h
    obtain ⟨hn, ⟨q1, m1, Γ1⟩, h1, ⟨q2, m2, Γ2⟩, h2, hm, rfl, rfl, rfl⟩ := h
    exact se_ix ok.K (ih.eE h1 ok) (ih.eE h2 ok) (or_own hm) (plainIx hn)
  case sl a lo hi =>
    simp only [ckE] at h
    split at h <;> simp only [Option.bind_eq_some_iff, gd_eq, reduceCtorEq, Option.some.injEq, Prod.mk.injEq] at h
    obtain ⟨⟨q1, m1, Γ1⟩, h1, ⟨q2, Γ2⟩, h2, ⟨q3, Γ3⟩, h3, hm, rfl, rfl, rfl⟩ := h
    exact se_sl ok.K (ih.eE h1 ok) hm (ih.eO h2 ok) (ih.eO h3 ok)
  case slT a lo hi =>
    simp only [ckE] at h
    split at h <;> simp only [Option.bind_eq_some_iff, gd_eq, reduceCtorEq, Option.some.injEq, Prod.mk.injEq] at h
    obtain ⟨⟨q1, m1, Γ1⟩, h1, ⟨q2, Γ2⟩, h2, ⟨q3, Γ3⟩, h3, hm, rfl, rfl, rfl⟩ := h
    exact se_slT ok.K (ih.eE h1 ok) hm (ih.eO h2 ok) (ih.eO h3 ok)
  case lst as =>
    simp only [ckE] at h
    split at h <;> simp only [Option.bind_eq_some_iff, gd_eq, reduceCtorEq, Bool.and_eq_true, decide_eq_true_eq, Option.some.injEq, Prod.mk.injEq] at h
    obtain ⟨⟨q1, ms, Γ1⟩, h1, ⟨hm, hl⟩, rfl, rfl, rfl⟩ := h
    exact se_lst (ih.eL h1 ok).1 (all_pos hm) (lst_len hl)
  case tup as =>
    simp only [ckE] at h
    split at h <;> simp only [Option.bind_eq_some_iff, gd_eq, reduceCtorEq, Bool.and_eq_true, decide_eq_true_eq, Option.some.injEq, Prod.mk.injEq] at h
    obtain ⟨⟨q1, ms, Γ1⟩, h1, ⟨hm, hl⟩, rfl, rfl, rfl⟩ := h
    exact se_tup (ih.eL h1 ok).1 (all_pos hm) (lst_len hl)
  case fl a =>
    simp only [ckE, Option.bind_eq_some_iff, Option.some.injEq, Prod.mk.injEq] at h
    obtain ⟨⟨q1, m1, Γ1⟩, h1, rfl, rfl, rfl⟩ := h
    have e : ev L.T.P.gl (run L.T.P d) (.fl a) = fun e => (ev L.T.P.gl (run L.T.P d) a e).bind fun x e1 => R.lift (if flat x = true then some x else none) e1 := by
      funext e; simp only [ev]; congr 1; funext x e1; split <;> rfl
    rw [e]
    exact se_fl (ih.eE h1 ok)
  case lc e t it cs =>
    simp only [ckE] at h
    split at h <;> simp only [Option.bind_eq_some_iff, gd_eq, reduceCtorEq, Bool.and_eq_true, decide_eq_true_eq, Option.some.injEq, Prod.mk.injEq] at h
    obtain ⟨⟨⟨⟨hset, hblk⟩, hown⟩, htg⟩, ⟨q1, Γ1⟩, h1, ⟨q2, Γ2⟩, h2, ⟨q3, m3, Γ3⟩, h3, ⟨q4, Γ4⟩, h4, ⟨q5, m5, Γ5⟩, h5, ⟨⟨⟨⟨⟨⟨k1, k2⟩, k3⟩, k4⟩, k5⟩, k6⟩, k7⟩, rfl, rfl, rfl⟩ := h
    have bo := blkOk_of (N := X.N) (sc := X.env.scope) ok.names (by rw [ok.N]; exact hblk)
    have lo : LcOk t ((tgNames t _).map (·.2)) Γ1 _ Γ4 Γ5 m5 := ⟨fun i hi => by simpa using List.all_eq_true.mp k1 i hi, fun i hi => by rw [hown]; exact hi, leN_ok k2, fun i hi => by rw [hown] at hi; simpa using List.all_eq_true.mp k5 i hi, leN_ok k3, leN_ok k4, k6, k7⟩
    exact se_lc ok.calm ok.nd bo lo (ih.eI h1 ok) (fun s H C cl fp => (ok.blk bo.kind s H C cl fp).tg htg) (fun s H C cl fp => ih.eTs h4 (ok.blk bo.kind s H C cl fp)) (fun s H C cl fp => ih.eE h5 (ok.blk bo.kind s H C cl fp)) hset
end
end Z

/-! Z22: the checker of statements. -/
namespace Z
open PySem PySem.Spec L2 PyProof.Rows
def leOb (o' o : Option Gm) : Bool := match o with
  | none => true
  | some Γ => match o' with
    | none => false
    | some Γ' => leN Γ' Γ
theorem leOb_ok {o' o : Option Gm} (h : leOb o' o = true) : leO o' o := by
  intro Γ e
  subst e
  cases o' with
  | none => simp [leOb] at h
  | some Γ' => exact ⟨Γ', rfl, leN_ok h⟩
def outLe (O' O : Out) : Bool := leOb O'.nx O.nx && leOb O'.bk O.bk && leOb O'.ct O.ct
theorem outLe_ok {O' O : Out} (h : outLe O' O = true) : O'.le O := by
  simp only [outLe, Bool.and_eq_true] at h
  exact ⟨leOb_ok h.1.1, leOb_ok h.1.2, leOb_ok h.2⟩
def meetO : Option Gm → Option Gm → Option Gm
  | none, b => b
  | some a, none => some a
  | some a, some b => some (meetG a b)
/-- what a loop keeps: the levels come down until the body keeps them -/
def fixG : Nat → (Gm → Option (Gm × Out)) → Gm → Option (Gm × Gm × Out)
  | 0, _, _ => none
  | k + 1, f, Γ => (f Γ).bind fun r => if leOb (some Γ) r.2.nx && leOb (some Γ) r.2.ct then some (Γ, r) else match meetO (some Γ) (meetO r.2.nx r.2.ct) with
    | some Γ' => fixG k f Γ'
    | none => none
theorem fixG_ok : ∀ {k : Nat} {f : Gm → Option (Gm × Out)} {Γ Γ' : Gm} {r : Gm × Out}, fixG k f Γ = some (Γ', r) → f Γ' = some r ∧ leO (some Γ') r.2.nx ∧ leO (some Γ') r.2.ct
  | 0, _, _, _, _, h => by simp [fixG] at h
  | k + 1, f, Γ, Γ', r, h => by
    simp only [fixG, Option.bind_eq_some_iff] at h
    obtain ⟨r0, h0, h⟩ := h
    split at h
    · rename_i hc
      simp only [Bool.and_eq_true] at hc
      simp only [Option.some.injEq, Prod.mk.injEq] at h
      obtain ⟨rfl, rfl⟩ := h
      exact ⟨h0, leOb_ok hc.1, leOb_ok hc.2⟩
    · split at h
      · exact fixG_ok h
      · cases h
def isLcC : C → Bool
  | .lc .. => true
  | _ => false
def isTL : Expr → Bool
  | .Tuple .. => true
  | .List .. => true
  | _ => false
def swNone (tg v : Expr) : Bool := nlc v && (!(isTupE v) || !(isTL tg))
theorem swNone_ok {tg v : Expr} (h : swNone tg v = true) (l : Nat) (env : PySem.Env) : swapsWithSole [tg] v l env = pure false ∧ swappedStores [tg] v env = pure none := by
  simp only [swNone, Bool.and_eq_true, Bool.or_eq_true, Bool.not_eq_true'] at h
  refine ⟨swaps_ok h.1, ?_⟩
  unfold swappedStores
  rcases h.2 with h2 | h2
  · cases v <;> first
      | (simp [isTupE] at h2; done)
      | (cases tg <;> rfl)
  · cases tg <;> first
      | (simp [isTL] at h2; done)
      | rfl
/-- a comprehension kept under a name that a block within reads -/
def swCell (names : List (Str × NameKind)) (tg v : Expr) : Bool := match tg, v with
  | .Name y _, .ListComp .. => (match names.lookup y with | some .cell => true | _ => false)
  | _, _ => false
theorem swCell_ok {names : List (Str × NameKind)} {tg v : Expr} (h : swCell names tg v = true) (l : Nat) (env : PySem.Env) (hn : env.scope.names = names) : swapsWithSole [tg] v l env = pure false ∧ swappedStores [tg] v env = pure none := by
  unfold swCell at h
  split at h
  · rename_i y p e g s q
    split at h
    · rename_i hc
      have hk : env.kindOf y = some .cell := by show env.scope.names.lookup y = _; rw [hn]; exact hc
      refine ⟨?_, rfl⟩
      show (pure _ : Sem Bool) = _
      rw [hk]
      congr 1
      simp
    · cases h
  · cases h
theorem ns_asg {tg : Expr} (h : ns tg = true) (env : PySem.Env) : (assignEach [tg] env).map (·.2) = [assign tg env] := by
  cases tg <;> first
    | rfl
    | (simp [ns] at h)
/-- a place: its local, the number of its subscripts -/
def plc : C → Option (Nat × Nat)
  | .pk x => some (x, 0)
  | .ix p _ => (plc p).map fun r => (r.1, r.2 + 1)
  | _ => none
theorem plc_ok {G : List D} {k : Oracle} : ∀ {p : C} {x n : Nat}, plc p = some (x, n) → ∀ e ps e', evP G k p e = .ok ps e' → ps.1 = x ∧ ps.2.length = n ∧ e'.s = e.s
  | .pk y, x, n, h, e, ps, e', h' => by
    simp only [plc, Option.some.injEq, Prod.mk.injEq] at h
    simp only [evP] at h'
    injection h' with h1 h2
    subst h1 h2
    exact ⟨h.1, by simpa using h.2, rfl⟩
  | .ix p i, x, n, h, e, ps, e', h' => by
    simp only [plc, Option.map_eq_some_iff, Prod.mk.injEq] at h
    obtain ⟨⟨x0, n0⟩, h0, rfl, rfl⟩ := h
    simp only [evP] at h'
    cases e1 : evP G k p e with
    | bad => rw [e1] at h'; cases h'
    | exc y e2 => rw [e1] at h'; cases h'
    | ok ps1 e2 =>
      rw [e1] at h'
      simp only [R.bind_ok] at h'
      obtain ⟨k1, k2, k3⟩ := plc_ok h0 e ps1 e2 e1
      cases e3 : ev G k i e2 with
      | bad => rw [e3] at h'; cases h'
      | exc y e4 => rw [e3] at h'; cases h'
      | ok j e4 =>
        rw [e3] at h'
        simp only [R.nox_ok, R.bind_ok] at h'
        injection h' with h1 h2
        subst h1 h2
        exact ⟨k1, by simp [k2], k3⟩
  | .non, _, _, h, _, _, _, _ => by simp [plc] at h
  | .bl _, _, _, h, _, _, _, _ => by simp [plc] at h
  | .int _, _, _, h, _, _, _, _ => by simp [plc] at h
  | .str _, _, _, h, _, _, _, _ => by simp [plc] at h
  | .v _, _, _, h, _, _, _, _ => by simp [plc] at h
  | .mv _, _, _, h, _, _, _, _ => by simp [plc] at h
  | .io _, _, _, h, _, _, _, _ => by simp [plc] at h
  | .bo _, _, _, h, _, _, _, _ => by simp [plc] at h
  | .gl _, _, _, h, _, _, _, _ => by simp [plc] at h
  | .op .., _, _, h, _, _, _, _ => by simp [plc] at h
  | .cat .., _, _, h, _, _, _, _ => by simp [plc] at h
  | .rep .., _, _, h, _, _, _, _ => by simp [plc] at h
  | .catT .., _, _, h, _, _, _, _ => by simp [plc] at h
  | .neg .., _, _, h, _, _, _, _ => by simp [plc] at h
  | .nt .., _, _, h, _, _, _, _ => by simp [plc] at h
  | .and .., _, _, h, _, _, _, _ => by simp [plc] at h
  | .or .., _, _, h, _, _, _, _ => by simp [plc] at h
  | .cmp .., _, _, h, _, _, _, _ => by simp [plc] at h
  | .cmp2 .., _, _, h, _, _, _, _ => by simp [plc] at h
  | .ife .., _, _, h, _, _, _, _ => by simp [plc] at h
  | .call .., _, _, h, _, _, _, _ => by simp [plc] at h
  | .bi .., _, _, h, _, _, _, _ => by simp [plc] at h
  | .mt .., _, _, h, _, _, _, _ => by simp [plc] at h
  | .ixv .., _, _, h, _, _, _, _ => by simp [plc] at h
  | .sl .., _, _, h, _, _, _, _ => by simp [plc] at h
  | .slT .., _, _, h, _, _, _, _ => by simp [plc] at h
  | .rev .., _, _, h, _, _, _, _ => by simp [plc] at h
  | .lst .., _, _, h, _, _, _, _ => by simp [plc] at h
  | .tup .., _, _, h, _, _, _, _ => by simp [plc] at h
  | .rg .., _, _, h, _, _, _, _ => by simp [plc] at h
  | .rg2 .., _, _, h, _, _, _, _ => by simp [plc] at h
  | .en .., _, _, h, _, _, _, _ => by simp [plc] at h
  | .zp .., _, _, h, _, _, _, _ => by simp [plc] at h
  | .lc .., _, _, h, _, _, _, _ => by simp [plc] at h
  | .lc2 .., _, _, h, _, _, _, _ => by simp [plc] at h
  | .fst .., _, _, h, _, _, _, _ => by simp [plc] at h
  | .fl .., _, _, h, _, _, _, _ => by simp [plc] at h
  | .pop .., _, _, h, _, _, _, _ => by simp [plc] at h
/-- the level that a changed local keeps -/
def chM (lx n m : Nat) : Nat := if 100 ≤ m then lx else min lx (n + 1 + m)
def chgB (lx n m : Nat) : Bool := decide (n + 2 ≤ chM lx n m) && decide (chM lx n m ≤ lx) && decide (n ≤ 50) && decide (1 ≤ dn (dnk n (chM lx n m))) && decide (dn (dnk n (chM lx n m)) ≤ m)
theorem chgB_ok {lx n m : Nat} (h : chgB lx n m = true) : Chg lx n m (chM lx n m) := by
  simp only [chgB, Bool.and_eq_true, decide_eq_true_eq] at h
  exact ⟨h.1.1.1.1, h.1.1.1.2, h.1.1.2, h.1.2, h.2⟩
section
variable (L : Lw) (E : Nat)
/-- places -/
def ckP (κ : Kx) (kp : List Nat) : C → Expr → Gm → Bool
  | .pk x, .Name y _, Γ => κ.vis x y
  | .ix p i, .Subscript xp xi _, Γ => ckP κ kp p xp Γ && nsl xi && (match ckE L E κ kp i xi Γ with
    | some r => r.1 && decide (r.2.2 = Γ)
    | none => false)
  | _, _, _ => false
mutual
def ckS : Nat → Kx → List Nat → RT → S → Stmt → Gm → Option Out
  | 0, _, _, _, _, _, _ => none
  | n + 1, κ, kp, ρ, s, x, Γ => match s with
    | .pass => (match x with
      | .Pass _ => some ⟨some Γ, none, none⟩
      | .Expr (.Constant (.str _) _ _) _ => some ⟨some Γ, none, none⟩
      | _ => none)
    | .brk => (match x with | .Break _ => some ⟨none, some Γ, none⟩ | _ => none)
    | .ct => (match x with | .Continue _ => some ⟨none, none, some Γ⟩ | _ => none)
    | .asg t e => (match x with
      | .Assign [tg] v _ => (ckE L E κ kp e v Γ).bind fun r => gd (decide (1 ≤ r.2.1) && ckTg κ t tg && ns tg && t.is.all (fun i => decide (i < r.2.2.length)) && t.is.all (fun i => !ρ.ro.contains i) && (swNone tg v || swCell κ.names tg v || (match t, tg, v with
        | .n i, .Name y py, .ListComp _ [⟨_, _, _, 0⟩] scope pos => isLcC e && (match κ.names.lookup y with | some .local => true | _ => false) && (py.line == pos.line) && !(scope.names.any fun (n, k) => n == y && (k == .local || k == .cell))
        | _, _, _ => false))) (some ⟨some (tgtG t r.2.1 r.2.2), none, none⟩)
      | _ => none)
    | .aug i o e => (match x with
      | .AugAssign (.Name y _) o' v _ => gd (κ.loc i y && decide (o' = opOf o) && decide (o = .add ∨ o = .sub)) ((ckE L E κ kp e v Γ).bind fun r => gd (r.1 && decide (1 ≤ lvOf Γ i) && decide (1 ≤ lvOf r.2.2 i) && !ρ.ro.contains i) (some ⟨some (r.2.2.set i 100), none, none⟩))
      | _ => none)
    | .app p e => (match x with
      | .Expr (.Call (.Attribute xp a apos) [xe] [] cpos) _ => gd (a == ("append" : Str) && ckP L E κ kp p xp Γ && ns xe && nsup xp && (apos.endLine == cpos.line)) ((plc p).bind fun q => (ckE L E κ kp e xe Γ).bind fun r =>
        gd (r.1 && decide (q.2 + 2 ≤ lvOf Γ q.1) && chgB (lvOf r.2.2 q.1) q.2 r.2.1 && !ρ.ro.contains q.1) (some ⟨some (r.2.2.set q.1 (chM (lvOf r.2.2 q.1) q.2 r.2.1)), none, none⟩))
      | _ => none)
    | .ext p e => (match x with
      | .Expr (.Call (.Attribute xp a apos) [xe] [] cpos) _ => gd (a == ("extend" : Str) && ckP L E κ kp p xp Γ && ns xe && nsup xp && (apos.endLine == cpos.line)) ((plc p).bind fun q => (ckE L E κ kp e xe Γ).bind fun r =>
        gd (r.1 && decide (1 ≤ r.2.1) && decide (q.2 + 2 ≤ lvOf Γ q.1) && chgB (lvOf r.2.2 q.1) q.2 (dn r.2.1) && !ρ.ro.contains q.1) (some ⟨some (r.2.2.set q.1 (chM (lvOf r.2.2 q.1) q.2 (dn r.2.1))), none, none⟩))
      | _ => none)
    | .six p i e => (match x with
      | .Assign [.Subscript xp xi _] v _ => gd (nsl xi && nlc v) ((plc p).bind fun q => (ckE L E κ kp e v Γ).bind fun r => (ckE L E κ kp i xi r.2.2).bind fun s =>
        gd (ckP L E κ kp p xp r.2.2 && s.1 && decide (s.2.2 = r.2.2) && own r.2.1 && decide (q.2 + 2 ≤ lvOf r.2.2 q.1) && chgB (lvOf r.2.2 q.1) q.2 r.2.1 && !ρ.ro.contains q.1) (some ⟨some (r.2.2.set q.1 (chM (lvOf r.2.2 q.1) q.2 r.2.1)), none, none⟩))
      | _ => none)
    | .aix p i o e => (match x with
      | .AugAssign (.Subscript xp xi _) o' v _ => gd (nsl xi && decide (o' = opOf o) && decide (o = .add ∨ o = .sub)) ((plc p).bind fun q => (ckE L E κ kp i xi Γ).bind fun s => (ckE L E κ kp e v Γ).bind fun r =>
        gd (ckP L E κ kp p xp Γ && s.1 && decide (s.2.2 = Γ) && own s.2.1 && r.1 && decide (r.2.2 = Γ) && decide (q.2 + 2 ≤ lvOf Γ q.1) && chgB (lvOf Γ q.1) q.2 100 && !ρ.ro.contains q.1) (some ⟨some (Γ.set q.1 (chM (lvOf Γ q.1) q.2 100)), none, none⟩))
      | _ => none)
    | .ex e => (match x with
      | .Expr v _ => gd (nlc v) ((ckE L E κ kp e v Γ).bind fun r => some ⟨some r.2.2, none, none⟩)
      | _ => none)
    | .ite c a b => (match x with
      | .If xc xa xb _ => (ckT L E κ kp c xc Γ).bind fun r => (ckB n κ kp ρ a xa r.2).bind fun O1 => (ckB n κ kp ρ b xb r.2).bind fun O2 =>
        gd (outLe ⟨meetO O1.nx O2.nx, meetO O1.bk O2.bk, meetO O1.ct O2.ct⟩ O1 && outLe ⟨meetO O1.nx O2.nx, meetO O1.bk O2.bk, meetO O1.ct O2.ct⟩ O2) (some ⟨meetO O1.nx O2.nx, meetO O1.bk O2.bk, meetO O1.ct O2.ct⟩)
      | _ => none)
    | .fr t it b => (match x with
      | .For tg xi xb [] _ => gd (nset xi && ckTg κ t tg && t.is.all (fun i => !ρ.ro.contains i)) ((ckI L E κ kp it xi tg Γ).bind fun r => (fixG 5 (fun Γi => (ckB n κ kp ρ b xb (tgtG t 1 Γi)).map fun O => (Γi, O)) r.2).bind fun f =>
        gd (leN f.1 r.2 && t.is.all (fun i => decide (i < f.1.length)) && leOb (meetO (some f.1) f.2.2.bk) f.2.2.bk && leOb (meetO (some f.1) f.2.2.bk) (some f.1)) (some ⟨meetO (some f.1) f.2.2.bk, none, none⟩))
      | _ => none)
    | .wl c b => (match x with
      | .While xc xb [] _ => (fixG 5 (fun Γi => (ckT L E κ kp c xc Γi).bind fun r => (ckB n κ kp ρ b xb r.2).map fun O => (r.2, O)) Γ).bind fun f =>
        gd (leN f.1 Γ && leOb (meetO (some f.1) (meetO (some f.2.1) f.2.2.bk)) f.2.2.bk && leOb (meetO (some f.1) (meetO (some f.2.1) f.2.2.bk)) (some f.1) && leOb (meetO (some f.1) (meetO (some f.2.1) f.2.2.bk)) (some f.2.1)) (some ⟨meetO (some f.1) (meetO (some f.2.1) f.2.2.bk), none, none⟩)
      | _ => none)
    | .ret e => (match x with
      | .Return (some v) _ => (ckE L E κ kp e v Γ).bind fun r => gd (leN ρ.Γr r.2.2 && decide (1 ≤ ρ.rl) && decide (ρ.rl ≤ r.2.1)) (some ⟨none, none, none⟩)
      | _ => none)
    | .retN => (match x with
      | .Return none _ => gd (leN ρ.Γr Γ) (some ⟨none, none, none⟩)
      | _ => none)
    | _ => none
def ckB : Nat → Kx → List Nat → RT → List S → List Stmt → Gm → Option Out
  | 0, _, _, _, _, _, _ => none
  | n + 1, κ, kp, ρ, ss, xs, Γ => match ss, xs with
    | [], [] => some ⟨some Γ, none, none⟩
    | s :: ss, x :: xs => (ckS n κ kp ρ s x Γ).bind fun O1 => (match O1.nx with
      | none => some O1
      | some Γ1 => (ckB n κ kp ρ ss xs Γ1).bind fun O2 => gd (outLe ⟨O2.nx, meetO O1.bk O2.bk, meetO O1.ct O2.ct⟩ ⟨none, O1.bk, O1.ct⟩ && outLe ⟨O2.nx, meetO O1.bk O2.bk, meetO O1.ct O2.ct⟩ O2) (some ⟨O2.nx, meetO O1.bk O2.bk, meetO O1.ct O2.ct⟩))
    | _, _ => none
end
end
end Z

/-! Z23: what the checker of statements takes is right. -/
namespace Z
open PySem PySem.Spec L2 PyProof.Rows
section
variable {L : Lw} {d : Nat}
theorem ck_all : ∀ n, CkOk L d n
  | 0 => ⟨fun h => by simp [ckE] at h, fun h => by simp [ckL] at h, fun h => by simp [ckLb] at h, fun h => by simp [ckO] at h, fun h => by simp [ckV] at h, fun h => by simp [ckW] at h, fun h => by simp [ckT] at h, fun h => by simp [ckTs] at h, fun h => by simp [ckI] at h⟩
  | n + 1 => have ih := ck_all n; ⟨ck_E ih, ck_L ih, ck_Lb ih, ck_O ih, ck_V ih, ck_W ih, ck_T ih, ck_Ts ih, ck_I ih⟩
theorem ckP_ok {E : Nat} {κ : Kx} {kp : List Nat} {X : Cx} {W : WX} (ok : XOk L d κ X W) : ∀ {p : C} {x : Expr} {Γ : Gm}, ckP L E κ kp p x Γ = true → SP X L.T W kp (evP L.T.P.gl (run L.T.P d) p) x Γ := by
  intro p
  induction p using C.rec (motive_2 := fun _ => True) (motive_3 := fun _ => True) with
  | pk x0 =>
    intro x Γ h
    cases x <;> simp only [ckP, Bool.false_eq_true] at h
    exact sp_var (ok.var h)
  | ix p i ihp ihi =>
    intro x Γ h
    cases x <;> simp only [ckP, Bool.false_eq_true, Bool.and_eq_true] at h
    obtain ⟨⟨h1, h2⟩, h3⟩ := h
    split at h3
    · rename_i r hr
      simp only [Bool.and_eq_true, decide_eq_true_eq] at h3
      obtain ⟨q, m, Γ2⟩ := r
      obtain ⟨rfl, rfl⟩ := h3
      exact sp_ix ok.K (ihp h1) ((ck_all E).eE hr ok) (plainIx h2)
    · cases h3
  | _ => first
    | trivial
    | (intro x Γ h; simp [ckP] at h)
/-- the contexts of statements -/
structure SOk (L : Lw) (d : Nat) (κ : Kx) (X : Cx) (W : WX) : Prop where
  x : XOk L d κ X W
  hp : PassesOwn (model X.prog X.w) X.A X.env X.xe
structure CkSOk (L : Lw) (E d n : Nat) : Prop where
  eS : ∀ {κ kp ρ s x Γ O}, ckS L E n κ kp ρ s x Γ = some O → ∀ {X W}, SOk L d κ X W → SS X L.T W kp ρ (ex L.T.P.gl (run L.T.P d) L.T.P.sub s) x Γ O
  eB : ∀ {κ kp ρ ss xs Γ O}, ckB L E n κ kp ρ ss xs Γ = some O → ∀ {X W}, SOk L d κ X W → SSs X L.T W kp ρ (exs L.T.P.gl (run L.T.P d) L.T.P.sub ss) xs Γ O
theorem not_ro {is ro : List Nat} (h : is.all (fun i => !ro.contains i) = true) : ∀ i ∈ is, i ∉ ro := fun i hi => by simpa using List.all_eq_true.mp h i hi
theorem all_lt {is : List Nat} {n : Nat} (h : is.all (fun i => decide (i < n)) = true) : ∀ i ∈ is, i < n := fun i hi => by simpa using List.all_eq_true.mp h i hi
theorem ck_B {E n : Nat} (ih : CkSOk L E d n) : ∀ {κ kp ρ ss xs Γ O}, ckB L E (n + 1) κ kp ρ ss xs Γ = some O → ∀ {X W}, SOk L d κ X W → SSs X L.T W kp ρ (exs L.T.P.gl (run L.T.P d) L.T.P.sub ss) xs Γ O := by
  intro κ kp ρ ss xs Γ O h X W ok
  simp only [ckB] at h
  split at h
  · cases h; exact sss_nil
  · simp only [Option.bind_eq_some_iff] at h
    obtain ⟨O1, h1, h⟩ := h
    split at h
    · rename_i hn
      cases h
      exact sss_end (ih.eS h1 ok) hn ⟨leO.refl _, leO.refl _, leO.refl _⟩
    · rename_i Γ1 hn
      simp only [Option.bind_eq_some_iff, gd_eq, Bool.and_eq_true, Option.some.injEq] at h
      obtain ⟨O2, h2, ⟨l1, l2⟩, rfl⟩ := h
      exact sss_cons (ih.eS h1 ok) (ih.eB h2 ok) hn (outLe_ok l1) (outLe_ok l2)
  · cases h
theorem ck_S {E n : Nat} (ih : CkSOk L E d n) : ∀ {κ kp ρ s x Γ O}, ckS L E (n + 1) κ kp ρ s x Γ = some O → ∀ {X W}, SOk L d κ X W → SS X L.T W kp ρ (ex L.T.P.gl (run L.T.P d) L.T.P.sub s) x Γ O := by
  intro κ kp ρ s x Γ O h X W ok
  have eE := fun {κ kp c x Γ q m Γ'} (h : ckE L E κ kp c x Γ = some (q, m, Γ')) {X W} (ok : XOk L d κ X W) => (ck_all (d := d) E).eE h ok
  cases s <;> try (simp only [ckS, reduceCtorEq] at h; done)
  case pass =>
    simp only [ckS] at h
    split at h <;> cases h
    · exact ss_pass
    · exact ss_doc
  case brk =>
    simp only [ckS] at h
    split at h <;> cases h
    exact ss_brk
  case ct =>
    simp only [ckS] at h
    split at h <;> cases h
    exact ss_ct
  case asg t e =>
    simp only [ckS] at h
    split at h <;> simp only [Option.bind_eq_some_iff, gd_eq, reduceCtorEq, Bool.and_eq_true, Bool.or_eq_true, decide_eq_true_eq, Option.some.injEq] at h
    rename_i tg v pos
    obtain ⟨⟨q, m, Γ1⟩, h1, ⟨⟨⟨⟨⟨hm, htg⟩, hns⟩, hlt⟩, hro⟩, hsw⟩, rfl⟩ := h
    rcases hsw with (hsw | hsw) | hsw
    · obtain ⟨s1, s2⟩ := swNone_ok hsw pos.line X.env
      exact ss_asgT (ps_asg (eE h1 ok.x) (ok.x.tg htg) s1 s2 (ns_asg hns _)) hm (all_lt hlt) (not_ro hro)
    · obtain ⟨s1, s2⟩ := swCell_ok hsw pos.line X.env ok.x.names
      exact ss_asgT (ps_asg (eE h1 ok.x) (ok.x.tg htg) s1 s2 (ns_asg hns _)) hm (all_lt hlt) (not_ro hro)
    · split at hsw
      · rename_i i y py elt tg2 it2 ifs2 scope pos2
        simp only [Bool.and_eq_true, Bool.not_eq_true'] at hsw
        obtain ⟨⟨⟨hlc, hy⟩, hl⟩, ha⟩ := hsw
        cases e <;> try (simp [isLcC] at hlc; done)
        rename_i e t it cs
        cases E with
        | zero => simp [ckE] at h1
        | succ E =>
          have ihE := ck_all (L := L) (d := d) E
          simp only [ckE, Option.bind_eq_some_iff, gd_eq, Bool.and_eq_true, decide_eq_true_eq, Option.some.injEq, Prod.mk.injEq] at h1
          obtain ⟨⟨⟨⟨hset, hblk⟩, hown⟩, htg2⟩, ⟨q1, Γ1⟩, h1, ⟨q2, Γ2⟩, h2, ⟨q3, m3, Γ3⟩, h3, ⟨q4, Γ4⟩, h4, ⟨q5, m5, Γ5⟩, h5, ⟨⟨⟨⟨⟨⟨k1, k2⟩, k3⟩, k4⟩, k5⟩, k6⟩, k7⟩, rfl, rfl, rfl⟩ := h1
          have bo := blkOk_of (N := X.N) (sc := X.env.scope) ok.x.names (by rw [ok.x.N]; exact hblk)
          have lo : LcOk t ((tgNames t _).map (·.2)) Γ1 _ Γ4 Γ5 m5 := ⟨fun i hi => by simpa using List.all_eq_true.mp k1 i hi, fun i hi => by rw [hown]; exact hi, leN_ok k2, fun i hi => by rw [hown] at hi; simpa using List.all_eq_true.mp k5 i hi, leN_ok k3, leN_ok k4, k6, k7⟩
          have hyl : X.env.scope.names.lookup y = some .local := by
            rw [ok.x.names]
            split at hy
            · assumption
            · cases hy
          have hN : X.N[i]? = some y := by
            simp only [ckTg, Kx.loc, Bool.and_eq_true, decide_eq_true_eq] at htg
            rw [ok.x.N]; exact htg.1
          exact ss_setLc ok.x.calm ok.x.nd hN hyl (sw_true ok.x.kind hyl hl ha) bo lo (ihE.eI h1 ok.x) (fun s H C cl fp => (ok.x.blk bo.kind s H C cl fp).tg htg2) (fun s H C cl fp => ihE.eTs h4 (ok.x.blk bo.kind s H C cl fp)) (fun s H C cl fp => ihE.eE h5 (ok.x.blk bo.kind s H C cl fp)) hset (all_lt hlt i (by simp [Z.T.is])) (not_ro hro i (by simp [Z.T.is]))
      · cases hsw
  case aug i o e =>
    simp only [ckS] at h
    split at h <;> simp only [Option.bind_eq_some_iff, gd_eq, reduceCtorEq, Bool.and_eq_true, decide_eq_true_eq, Bool.not_eq_true', Option.some.injEq] at h
    rename_i y _ _ v _
    obtain ⟨⟨⟨hloc, rfl⟩, ho⟩, ⟨q, m, Γ1⟩, h1, ⟨⟨⟨hq, l0⟩, l1⟩, hro⟩, rfl⟩ := h
    have hl2 := hloc
    simp only [Kx.loc, Bool.and_eq_true, decide_eq_true_eq] at hl2
    have hN : X.N[i]? = some y := by rw [ok.x.N]; exact hl2.1
    have hlk : X.env.scope.names.lookup y = κ.names.lookup y := by rw [ok.x.names]
    have hL : Loc X.env.scope y ∧ (X.fn y = true ∨ X.env.scope.names.lookup y = some .local) := by
      have h2 := hl2.2
      split at h2
      · rename_i e; exact ⟨.inl (hlk.trans e), .inr (hlk.trans e)⟩
      · rename_i e; exact ⟨.inr (hlk.trans e), .inl (ok.x.fn h2 y)⟩
      · cases h2
    exact ss_aug ok.x.K (ps_aug ok.x.nd hN hL.1 (eE h1 ok.x) (g_iop ho) hL.2) hq l0 l1 (by simpa using hro)
  case six p i e =>
    simp only [ckS] at h
    split at h <;> simp only [Option.bind_eq_some_iff, gd_eq, reduceCtorEq, Bool.and_eq_true, decide_eq_true_eq, Bool.not_eq_true', Option.some.injEq] at h
    rename_i xp xi ppos v pos
    obtain ⟨⟨hns, hnl⟩, ⟨x0, n0⟩, hp, ⟨q, m, Γ1⟩, h1, ⟨q2, m2, Γ2⟩, h2, ⟨⟨⟨⟨⟨⟨hP, hq⟩, rfl⟩, hm⟩, hn⟩, hc⟩, hro⟩, rfl⟩ := h
    subst hq
    obtain ⟨s1, s2⟩ := swNone_ok (tg := .Subscript xp xi ppos) (v := v) (by simp [swNone, hnl, isTL]) pos.line X.env
    exact ss_six ok.x.K (eE h1 ok.x) (ckP_ok ok.x hP) (eE h2 ok.x) (plc_ok hp) hn hm (chgB_ok hc) (by simpa using hro) hns s1 s2
  case aix p i o e =>
    simp only [ckS] at h
    split at h <;> simp only [Option.bind_eq_some_iff, gd_eq, reduceCtorEq, Bool.and_eq_true, decide_eq_true_eq, Bool.not_eq_true', Option.some.injEq] at h
    obtain ⟨⟨⟨hns, rfl⟩, ho⟩, ⟨x0, n0⟩, hp, ⟨q2, m2, Γ2⟩, h2, ⟨q, m, Γ1⟩, h1, ⟨⟨⟨⟨⟨⟨⟨⟨hP, hq⟩, rfl⟩, hm⟩, hq2⟩, rfl⟩, hn⟩, hc⟩, hro⟩, rfl⟩ := h
    subst hq hq2
    exact ss_aix ok.x.K (ckP_ok ok.x hP) (eE h2 ok.x) hm (eE h1 ok.x) ho (plc_ok hp) hn (chgB_ok hc) (by simpa using hro) hns
  case app p e =>
    simp only [ckS] at h
    split at h <;> simp only [Option.bind_eq_some_iff, gd_eq, reduceCtorEq, Bool.and_eq_true, decide_eq_true_eq, Bool.not_eq_true', Option.some.injEq] at h
    obtain ⟨⟨⟨⟨⟨ha, hP⟩, hns⟩, hsup⟩, hpos⟩, ⟨x0, n0⟩, hp, ⟨q, m, Γ1⟩, h1, ⟨⟨⟨hq, hn⟩, hc⟩, hro⟩, rfl⟩ := h
    subst hq
    cases eq_str ha
    exact ss_app ok.x.K (ckP_ok ok.x hP) (eE h1 ok.x) (plc_ok hp) hn (chgB_ok hc) (by simpa using hro) hns hsup hpos
  case ext p e =>
    simp only [ckS] at h
    split at h <;> simp only [Option.bind_eq_some_iff, gd_eq, reduceCtorEq, Bool.and_eq_true, decide_eq_true_eq, Bool.not_eq_true', Option.some.injEq] at h
    obtain ⟨⟨⟨⟨⟨ha, hP⟩, hns⟩, hsup⟩, hpos⟩, ⟨x0, n0⟩, hp, ⟨q, m, Γ1⟩, h1, ⟨⟨⟨⟨hq, hm⟩, hn⟩, hc⟩, hro⟩, rfl⟩ := h
    subst hq
    cases eq_str ha
    exact ss_ext ok.x.K (ckP_ok ok.x hP) (eE h1 ok.x) (plc_ok hp) hn hm (chgB_ok hc) (by simpa using hro) hns hsup hpos
  case ex e =>
    simp only [ckS] at h
    split at h <;> simp only [Option.bind_eq_some_iff, gd_eq, reduceCtorEq, Option.some.injEq] at h
    obtain ⟨hnl, ⟨q, m, Γ1⟩, h1, rfl⟩ := h
    exact ss_ex (eE h1 ok.x) (swaps_ok hnl)
  case ite c a b =>
    simp only [ckS] at h
    split at h <;> simp only [Option.bind_eq_some_iff, gd_eq, reduceCtorEq, Bool.and_eq_true, Option.some.injEq] at h
    obtain ⟨⟨q, Γ1⟩, h1, O1, h2, O2, h3, ⟨l1, l2⟩, rfl⟩ := h
    exact ss_if ((ck_all E).eT h1 ok.x) (ih.eB h2 ok) (ih.eB h3 ok) (outLe_ok l1) (outLe_ok l2)
  case fr t it b =>
    simp only [ckS] at h
    split at h <;> simp only [Option.bind_eq_some_iff, gd_eq, reduceCtorEq, Bool.and_eq_true, Option.some.injEq] at h
    obtain ⟨⟨⟨hset, htg⟩, hro⟩, ⟨q, Γ1⟩, h1, ⟨Γi, Γ0, Ob⟩, hf, ⟨⟨⟨l1, hlt⟩, l2⟩, l3⟩, rfl⟩ := h
    obtain ⟨h2, h3, h4⟩ := fixG_ok hf
    simp only [Option.map_eq_some_iff, Prod.mk.injEq] at h2
    obtain ⟨Ob', h2, _, rfl⟩ := h2
    exact ss_for ok.hp ok.x.calm ((ck_all E).eI h1 ok.x) (ok.x.tg htg) (ih.eB h2 ok) (leN_ok l1) ⟨h3, h4, leOb_ok l2, leOb_ok l3⟩ (all_lt hlt) (not_ro hro) hset
  case wl c b =>
    simp only [ckS] at h
    split at h <;> simp only [Option.bind_eq_some_iff, gd_eq, reduceCtorEq, Bool.and_eq_true, Option.some.injEq] at h
    obtain ⟨⟨Γi, Γ0, Ob⟩, hf, ⟨⟨⟨l1, l2⟩, l3⟩, l4⟩, rfl⟩ := h
    obtain ⟨h2, h3, h4⟩ := fixG_ok hf
    simp only [Option.bind_eq_some_iff, Option.map_eq_some_iff, Prod.mk.injEq] at h2
    obtain ⟨⟨q, Γc⟩, h1, Ob', h2, rfl, rfl⟩ := h2
    exact ss_while ok.hp ((ck_all E).eT h1 ok.x) (ih.eB h2 ok) (leN_ok l1) ⟨h3, h4, leOb_ok l2, leOb_ok l3⟩ (leOb_ok l4)
  case ret e =>
    simp only [ckS] at h
    split at h <;> simp only [Option.bind_eq_some_iff, gd_eq, reduceCtorEq, Bool.and_eq_true, decide_eq_true_eq, Option.some.injEq] at h
    obtain ⟨⟨q, m, Γ1⟩, h1, ⟨⟨l1, l2⟩, l3⟩, rfl⟩ := h
    exact ss_ret (eE h1 ok.x) (leN_ok l1) ⟨l2, l3⟩
  case retN =>
    simp only [ckS] at h
    split at h <;> simp only [gd_eq, reduceCtorEq, Option.some.injEq] at h
    obtain ⟨l1, rfl⟩ := h
    exact ss_retN (leN_ok l1)
theorem ckS_all {E : Nat} : ∀ n, CkSOk L E d n
  | 0 => ⟨fun h => by simp [ckS] at h, fun h => by simp [ckB] at h⟩
  | n + 1 => have ih := ckS_all n; ⟨ck_S ih, ck_B ih⟩
end
end Z

/-! Z24: defs. -/
namespace Z
open PySem PySem.Spec L2 PyProof.Rows
structure Df where
  d : He.DefD
  N : List Str
  ps : List Str
  fn : Fn
/-- the levels at a def's entry -/
def Df.g0 (D : Df) : Gm := D.fn.alv ++ List.replicate (D.fn.ns - D.fn.np) 0
def Df.rt (D : Df) : RT := ⟨List.replicate D.fn.ns 0, D.fn.rl, []⟩
def Df.kx (D : Df) : Kx := ⟨D.N, D.d.scope.names, true⟩
def ckD (L : Lw) (m : Nat) (D : Df) : Bool := decide (D.ps.length = D.fn.np) && decide (D.N.length = D.fn.ns) && decide (D.fn.np ≤ D.fn.ns) && D.fn.io.isEmpty && D.fn.il.isEmpty && decide (1 ≤ D.fn.rl) &&
  (match ckB L m m D.kx [] D.rt D.fn.body D.d.body D.g0 with
    | some O => (match O.nx with
      | none => true
      | some Γ => decide (Γ.length = D.fn.ns))
    | none => false)
def scB (N P : List Str) (sc : Scope) : Bool := decide (sc.kind = .function) && !sc.isCoroutine && !sc.isGenerator && decide N.Nodup && decide (N.take P.length = P) && P.all (fun x => decide (sc.names.lookup x = some .local ∨ sc.names.lookup x = some .cell)) && sc.names.all (fun y => decide (y.2 ≠ .free))
theorem scB_ok {N P : List Str} {sc : Scope} (h : scB N P sc = true) : FnScope N P sc := by
  simp only [scB, Bool.and_eq_true, decide_eq_true_eq, Bool.not_eq_true', List.all_eq_true] at h
  obtain ⟨⟨⟨⟨⟨⟨h1, h2⟩, h3⟩, h4⟩, h5⟩, h6⟩, h7⟩ := h
  exact ⟨h1, h2, h3, h4, h5, h6, h7⟩
theorem leG_zero {n : Nat} {Γ : Gm} (h : Γ.length = n) : leG (List.replicate n 0) Γ := by
  refine ⟨by simp [h], fun i => ?_⟩
  have : lvOf (List.replicate n 0) i = 0 := by
    unfold lvOf
    rw [List.getD_eq_getElem?_getD, List.getElem?_replicate]
    split <;> rfl
  omega
/-- the state at a def's entry -/
theorem st_start {K : PySem.W.Frag} {F H : Hp} {np ns : Nat} {xs : List D} {vs : List V} (s : Sub F H) (r : RFL K F xs vs) (hl : xs.length = np) (hn : np ≤ ns) :
    St K (List.replicate np 1 ++ List.replicate (ns - np) 0) (xs ++ List.replicate (ns - np) .non) (vs.map some ++ List.replicate (ns - vs.length) none) F H fun _ => emp := by
  have hv := rfl_len r
  have e0 : ns - vs.length = ns - np := by omega
  rw [e0]
  refine ⟨s, by simp; omega, by simp; omega, fun i hi => ?_, fun _ _ _ _ z => z.elim, fun _ _ => rfl⟩
  have hlt : i < np := by
    refine Classical.byContradiction fun n => ?_
    unfold lvOf at hi
    rw [List.getD_eq_getElem?_getD, List.getElem?_append_right (by simp; omega), List.getElem?_replicate] at hi
    split at hi <;> simp at hi
  have hx : xs[i]? = some xs[i] := List.getElem?_eq_getElem (by omega)
  obtain ⟨v, ev, rv⟩ := rfl_get r hx
  refine ⟨xs[i], v, ?_, ?_, ?_⟩
  · rw [List.getElem?_append_left (by omega)]; exact hx
  · rw [List.getElem?_append_left (by simp; omega)]; simp [ev]
  · have : lvOf (List.replicate np 1 ++ List.replicate (ns - np) 0) i = 1 := by
      unfold lvOf
      rw [List.getD_eq_getElem?_getD, List.getElem?_append_left (by simp; omega), List.getElem?_replicate, if_pos hlt]; rfl
    rw [this]
    exact RO.of1 (Nat.le_refl 1) rv
theorem vall_to1 {K : PySem.W.Frag} {F H : Hp} : ∀ {n : Nat} {xs : List D} {vs : List V} {f : AS}, ValL K F H (List.replicate n 1) xs vs f → RFL K F xs vs ∧ xs.length = n ∧ f = emp
  | 0, [], vs, f, h => by simp only [List.replicate, ValL] at h; simp only [RFL]; exact ⟨h.1, rfl, h.2⟩
  | n + 1, x :: xs, vs, f, h => by
    simp only [List.replicate_succ, ValL] at h
    obtain ⟨w, ws, g1, g2, rfl, q, r, _, rfl⟩ := h
    unfold Val at q
    rw [if_neg (by decide)] at q
    obtain ⟨q1, rfl⟩ := RO.to1 (Nat.le_refl 1) q
    obtain ⟨r1, r2, rfl⟩ := vall_to1 r
    simp only [RFL]
    exact ⟨⟨w, ws, rfl, q1, r1⟩, by simp [r2], by funext a; simp [emp]⟩
  | 0, _ :: _, _, _, h => by simp only [List.replicate, ValL] at h
  | n + 1, [], _, _, h => by simp only [List.replicate_succ, ValL] at h
/-- a law's defs, as they stand behind the top -/
structure LawOk (L : Lw) (ds : List Df) (m : Nat) (K : PySem.W.Frag) (mg : Str → Option Value) : Prop where
  hK : L.T.K = K
  fns : L.T.P.fns = ds.map (·.fn)
  nm : L.nm = ds.map (·.d.name)
  ck : ∀ D ∈ ds, ckD L m D = true
  sc : ∀ D ∈ ds, scB D.N D.ps D.d.scope = true
  fd : ∀ D ∈ ds, ∃ fd, FunD K D.d.name D.d.qual D.d.params D.d.body D.d.scope [] [] (He.fAd K D.d.at_) fd ∧ L2.Binds K fd D.ps []
  hmg : ∀ D ∈ ds, mg D.d.name = some (.ref (He.fAd K D.d.at_))
  bl : ∀ x ∈ blt, mg x = none
  gl : ∀ (g : Nat) (v : D), L.T.P.gl[g]? = some v → ∃ x, L.glN[g]? = some x ∧ ∃ u w, mg x = some w ∧ RelV u w ∧ ∀ F, RF K F v u
theorem law_ok {L : Lw} {ds : List Df} {m : Nat} {P : Program} {w : World} {K : PySem.W.Frag} {mg : Str → Option Value} {base : Heap} (h : LawOk L ds m K mg) :
    ∀ (n f : Nat) (D : Df), ds[f]? = some D → ∀ fd, FunD K D.d.name D.d.qual D.d.params D.d.body D.d.scope [] [] (He.fAd K D.d.at_) fd → FnOk P w K mg base (L2.CX P w) n (He.fAd K D.d.at_) fd D.ps (spF L.T n f) := by
  intro n
  induction n with
  | zero =>
    intro f D hD fd F
    have hfn : L.T.P.fns[f]? = some D.fn := by rw [h.fns, List.getElem?_map, hD]; rfl
    have hck := h.ck D (List.mem_of_getElem? hD)
    simp only [ckD, Bool.and_eq_true, decide_eq_true_eq] at hck
    refine ⟨fun vs H Q E z => (spF_len hfn vs H Q E z).trans hck.1.1.1.1.1.1.symm, fun A outer s H args us vs Q E _ _ _ _ z => ?_⟩
    obtain ⟨fn, xs, F, g, o, _, _, _, _, z⟩ := z
    exact z.elim
  | succ n ih =>
    intro f D hD fd F
    have hmem := List.mem_of_getElem? hD
    have hfn : L.T.P.fns[f]? = some D.fn := by rw [h.fns, List.getElem?_map, hD]; rfl
    have hck := h.ck D hmem
    simp only [ckD, Bool.and_eq_true, decide_eq_true_eq, List.isEmpty_iff] at hck
    obtain ⟨⟨⟨⟨⟨⟨c1, c2⟩, c3⟩, c4⟩, c5⟩, c6⟩, c7⟩ := hck
    split at c7
    · rename_i O hO
      have S := scB_ok (h.sc D hmem)
      refine F.ok S (fun vs H Q E z => (spF_len hfn vs H Q E z).trans c1.symm) fun cdv A outer s H vs Q E hr z => ?_
      let X := cxOf (L2.CX P w) P w K mg base D.N D.d.qual D.d.scope (He.fAd K D.d.at_) cdv A outer s H E
      have ok : SOk L n D.kx X (fun cls d _ H => E cls d H) := by
        refine ⟨⟨h.hK.symm, rfl, S.nd, S.kind, rfl, rfl, fun _ _ => rfl, hr, takes_of rfl rfl rfl rfl, h.bl, fun f2 fn2 hf2 => ?_, fun g v hg => ?_⟩, passes_of rfl⟩
        · rw [h.fns, List.getElem?_map, Option.map_eq_some_iff] at hf2
          obtain ⟨D2, hD2, rfl⟩ := hf2
          have hm2 := List.mem_of_getElem? hD2
          obtain ⟨fd2, F2, B2⟩ := h.fd D2 hm2
          have hck2 := h.ck D2 hm2
          simp only [ckD, Bool.and_eq_true, decide_eq_true_eq] at hck2
          exact ⟨D2.d.name, by rw [h.nm, List.getElem?_map, hD2]; rfl, ⟨⟨_, fd2, D2.ps, hck2.1.1.1.1.1.1, ih f2 D2 hD2 fd2 F2, h.hmg D2 hm2, F2.kp, B2⟩⟩⟩
        · obtain ⟨x, h1, u, w2, h2, h3, h4⟩ := h.gl g v hg
          exact ⟨x, h1, ⟨⟨u, w2, h2, h3, fun F => h.hK ▸ h4 F⟩⟩⟩
      refine ⟨_, (ckS_all m).eB hO ok, ?_⟩
      obtain ⟨fn, xs, F0, g, o, hfn', hvl, sub, val, z⟩ := z
      rw [hfn] at hfn'; cases hfn'
      rw [alv_io0 c4] at val
      obtain ⟨r, hxl, rfl⟩ := vall_to1 val
      have st := st_start (ns := D.fn.ns) sub r hxl c3
      refine ⟨⟨xs ++ List.replicate (D.fn.ns - D.fn.np) .non, o⟩, F0, fun _ => emp, ?_, ?_⟩
      · have e0 : D.g0 = List.replicate D.fn.np 1 ++ List.replicate (D.fn.ns - D.fn.np) 0 := by unfold Df.g0; rw [alv_io0 c4]
        rw [e0]
        show St L.T.K _ _ (L2.start D.N vs) F0 H _
        unfold L2.start
        rw [c2]
        exact st
      · rw [run_eq hfn] at z
        unfold callFn at z
        rw [if_pos hxl] at z
        have own0 : Own (fun _ : Nat => emp) = emp := by
          funext a; exact propext ⟨fun ⟨_, z⟩ => z, fun z => z.elim⟩
        cases hb : exs L.T.P.gl (run L.T.P n) L.T.P.sub D.fn.body ⟨xs ++ List.replicate (D.fn.ns - D.fn.np) .non, o⟩ with
        | bad => rw [hb] at z; exact z.elim
        | bk e' => rw [hb] at z; exact z.elim
        | ct e' => rw [hb] at z; exact z.elim
        | nx e' =>
          rw [hb] at z
          simp only [ends] at z
          show EndO _ _ O.nx _ _ _ _ _ _
          cases hnx : O.nx with
          | none => exact True.intro
          | some Γ =>
            rw [hnx] at c7
            intro σ' F' H' fp' g
            have gr := g.ch
            rw [own0] at gr
            refine z F' H' .non emp emp g.st.sub gr (by simp only [RO]; exact ⟨trivial, trivial⟩) ?_ (fun _ z => z.elim) (fun a z => by rcases z with z | z <;> exact z.elim)
            rw [c4, c5]; simp [OutL, outsOf]
        | rt d e' =>
          rw [hb] at z
          simp only [ends] at z
          intro σ' F' H' fp' v f' g ro
          have gr := g.ch
          rw [own0] at gr
          refine z F' H' v f' emp g.st.sub gr ro ?_ (fun _ _ z => z.elim) (fun a z => ?_)
          · rw [c4, c5]; simp [OutL, outsOf]
          · rcases z with z | z
            · rcases g.grow a (.inr z) with u | u
              · rw [own0] at u; exact u.elim
              · exact .inr u
            · exact z.elim
        | exc x e' =>
          rw [hb] at z
          simp only [ends] at z
          intro σ' F' H' cls dx _ _ sub' _ ch _ ex
          rw [own0] at ch
          exact z F' H' cls dx sub' ch ex
    · cases c7
end Z

/-! Z25: a law's end. -/
namespace Z
open PySem PySem.Spec L2 PyProof.Rows
/-! ### the head's facts, over a part of the heap without lists -/
def isLO (o : Obj) : Bool := match o.cls with
  | .type c => c == "list"
  | _ => false
def asZ (g : Addr → Option Obj) (n : Nat) : List Addr := (He.asD g n).filter fun a => match g a with
  | some o => !isLO o
  | none => false
theorem frG_mem {g : Addr → Option Obj} {a : Addr} {o : Obj} : ∀ {as : List Addr}, (He.frG g as).lookup a = some o → a ∈ as ∧ g a = some o := by
  intro as
  induction as with
  | nil => intro e; cases (show (none : Option Obj) = some o from e)
  | cons b r ih =>
    intro e
    refine ⟨?_, He.frG_at _ e⟩
    by_cases h : a = b
    · rw [h]; exact List.mem_cons_self
    · refine List.mem_cons_of_mem _ (ih ?_).1
      unfold He.frG at e ⊢
      cases hb : g b with
      | none => rw [List.filterMap_cons, hb] at e; exact e
      | some ob =>
        rw [List.filterMap_cons, hb] at e
        have e2 : (match a == b with | true => some ob | false => (List.filterMap (fun a => (g a).map fun o => (a, o)) r).lookup a) = some o := e
        have hf : (a == b) = false := by simpa using h
        rw [hf] at e2
        exact e2
def NoL (K : PySem.W.Frag) : Prop := ∀ a o, K.lookup a = some o → isLO o = false
theorem frG_nol {g : Addr → Option Obj} {n : Nat} : NoL (He.frG g (asZ g n)) := fun a o e => by
  obtain ⟨h1, h2⟩ := frG_mem e
  have := (List.mem_filter.mp h1).2
  rw [h2] at this
  simpa using this
def obsZ (n : Nat) (fa : List He.Fa) (fn : List He.DefD) (g : Addr → Option Obj) : He.AlD := He.obsD fa fn (He.frG g (asZ g n))
def hookZ (n : Nat) (fa : List He.Fa) (fn : List He.DefD) : PySem.W.Hook where
  α := He.AlD
  obs := fun s => obsZ n fa fn s.heap.get?
  val := fun _ => He.valD fn
  says := fun _ h => ∃ K : PySem.W.Frag, K.In h ∧ He.SaysD fa fn K ∧ NoL K
  of := fun _ _ e => ⟨_, He.frG_in, e, frG_nol⟩
  keeps := fun _ _ _ ⟨K, hK, c⟩ k => ⟨K, PySem.W.Frag.In.keeps hK k, c⟩
theorem obsZ_eq {n : Nat} {fa : List He.Fa} {fn : List He.DefD} {g : Addr → Option Obj} {s : Shared} (h : ∀ a, g a = s.heap.get? a) : obsZ n fa fn g = (hookZ n fa fn).obs s := by
  have e : g = s.heap.get? := funext h
  rw [e]
  rfl
/-! ### the law's own facts -/
def BindB (D : Df) : Prop := ∀ (kV doc pm : Value) (an : Option Addr) (cdv ct : Value) (us : List Value), us.length = D.ps.length → bindArgs (PySem.W.fnOf D.d.name D.d.qual D.d.params D.d.body D.d.scope .none kV doc pm an cdv ct) ⟨us, []⟩ = pure (D.ps.zip us)
def plainD (D : Df) : Bool := (match D.d.at_.2 with | none => true | _ => false) && D.d.dfl.isEmpty && D.d.kwd.isEmpty
theorem fd_of {K : PySem.W.Frag} {fa : List He.Fa} {ds : List Df} (c : He.SaysD fa (ds.map (·.d)) K) (hp : ds.all plainD = true) (hb : ∀ D ∈ ds, BindB D) :
    ∀ D ∈ ds, ∃ fd, FunD K D.d.name D.d.qual D.d.params D.d.body D.d.scope [] [] (He.fAd K D.d.at_) fd ∧ L2.Binds K fd D.ps [] := by
  intro D hD
  obtain ⟨i, hi, e⟩ := List.mem_iff_getElem.mp hD
  obtain ⟨fd, F⟩ := c.def_ i (d := D.d) (by rw [List.getElem?_map, List.getElem?_eq_getElem hi, e]; rfl)
  have hpD := List.all_eq_true.mp hp D hD
  simp only [plainD, Bool.and_eq_true, List.isEmpty_iff] at hpD
  unfold He.DefD.dvs He.DefD.kws at F
  rw [hpD.1.2, hpD.2] at F
  exact ⟨fd, F, F.bindsN (hb D hD)⟩
theorem mg_of' {K : PySem.W.Frag} {fa : List He.Fa} {fn : List He.DefD} {h : Heap} {mg : Str → Option Value} {ds : List Df} (KX : K.In h) (G : h.Ns mainGlobals mg) (c : He.SaysD fa fn K) (hp : ds.all plainD = true) (hd : ds.all (fun D => decide (D.d.at_.1 = D.d.name)) = true) (hf : ∀ D ∈ ds, He.Fa.glo D.d.name ∈ fa) :
    ∀ D ∈ ds, mg D.d.name = some (.ref (He.fAd K D.d.at_)) := by
  intro D hD
  obtain ⟨i, hi, e⟩ := List.mem_iff_getElem.mp (hf D hD)
  have h1 := He.glo_ok KX G (c.fact i (f := .glo D.d.name) (by rw [List.getElem?_eq_getElem hi, e]))
  have hpD := List.all_eq_true.mp hp D hD
  have hdD : D.d.at_.1 = D.d.name := by simpa using List.all_eq_true.mp hd D hD
  simp only [plainD, Bool.and_eq_true] at hpD
  have : He.fAd K D.d.at_ = He.ga K D.d.name := by
    unfold He.fAd
    split at hpD
    · rename_i e2; rw [e2, hdD]
    · exact absurd hpD.1.1 (by simp)
  rw [this]; exact h1
theorem free_of' {K : PySem.W.Frag} {fa : List He.Fa} {fn : List He.DefD} {h : Heap} {mg : Str → Option Value} (KX : K.In h) (G : h.Ns mainGlobals mg) (c : He.SaysD fa fn K) (hf : ∀ x ∈ blt, He.Fa.free x ∈ fa) : ∀ x ∈ blt, mg x = none := by
  intro x hx
  obtain ⟨i, hi, e⟩ := List.mem_iff_getElem.mp (hf x hx)
  exact He.free_ok KX G (c.fact i (f := .free x) (by rw [List.getElem?_eq_getElem hi, e]))
theorem sq_rd {K : PySem.W.Frag} {H : Hp} {a : Addr} {xs : List V} (n : NoL K) (h : SqL K H a xs) : Rd H a (.lst xs) := by
  rcases h with h | ⟨o, its, k, e, hc, _⟩
  · exact h
  · have := n a o e
    unfold isLO at this
    rw [hc] at this
    simp at this
theorem ints_d {K : PySem.W.Frag} {H : Hp} : ∀ ns : List Int, RFL K H (ns.map D.int) (ns.map V.int)
  | [] => by simp [RFL]
  | n :: ns => by simp only [List.map_cons, RFL]; exact ⟨_, _, rfl, mk_int, ints_d ns⟩
/-- THE END: the law's walk, from its own facts and the plain law -/
theorem walk_Z {l : PySem.W.OpenLaw} {n k : Nat} {q : Program} {loose : List Str} {XP : (Str → Option Value) → Heap → Prop} {YP : World → Heap → Prop} {d : DefRec} {ds : List Df} {lw : PySem.W.Frag → Lw} {m iL : Nat} {DL : Df}
    (hn : l.most = some n) (hn2 : n ≤ sizeLine) (hdf : d.params.defaults = []) (hr : Room k callerA) (hDL : ds[iL]? = some DL) (hps : DL.ps.length = 1) (hnm : d.name = DL.d.name) (hio : DL.fn.io = []) (hnp : DL.fn.np = 1) (hbL : BindB DL)
    (F : ∀ (w : World) (mg : Str → Option Value) (fa : Addr) (h : Heap), YP w h → h.Ns mainGlobals mg → ∃ K : PySem.W.Frag, K.In h ∧ NoL K ∧ LawOk (lw K) ds m K mg)
    (hP : ∀ (K : PySem.W.Frag) (ns : List Int), ns.length ≤ n → (∀ z ∈ ns, Builtin.Int.intBits z ≤ 1048576) → ∃ o, run (lw K).T.P k iL [.lst (ns.map .int)] [] = .ok (.bl true) [] o) :
    PySem.W.WalkO q loose XP YP l.row.toRowW d [] (fun f vs => PySem.call f vs) := by
  refine Att.attach_callB hn hdf fun w s₀ s₁ mg mb fa o pm cd doc a vs ns G Y ho hd hcd hmg hobj hints hlen hbits hg => ?_
  obtain ⟨K, KX, nl, ok⟩ := F w mg fa _ Y G.T.g
  have hmem := List.mem_of_getElem? hDL
  obtain ⟨fd, FD, _⟩ := ok.fd DL hmem
  have hm2 := ok.hmg DL hmem
  rw [← hnm, hmg] at hm2
  cases hm2
  obtain ⟨x, hx⟩ : ∃ x, DL.ps = [x] := List.length_eq_one_iff.mp hps
  have hb : ∀ (s : Shared) (u : Value), BindsTo s fd ⟨[u], []⟩ [(x, u)] := fun s u => by
    have := FunD.bindsA FD hbL s [u] (by rw [hx]; rfl)
    rw [hx] at this
    exact this
  refine law_call (x := x) (sp := spF (lw K).T k iL) (CX := L2.CX l.prog w) (k := k) KX G.T.g G.T.b G.T.builtins G.T.nolimit hg hobj hints (Nat.le_trans hlen hn2) hr (fun base _ _ => ?_) hb (fun H hO hS => ?_) fun H e s' c => ?_
  · have := law_ok (P := l.prog) (w := w) (base := base) ok k iL DL hDL fd FD
    rw [hx] at this
    exact this
  · have hfn : (lw K).T.P.fns[iL]? = some DL.fn := by rw [ok.fns, List.getElem?_map, hDL]; rfl
    have rd := sq_rd nl hS
    obtain ⟨o, hrun⟩ := hP K ns hlen hbits
    refine ⟨DL.fn, [.lst (ns.map .int)], H, emp, [], hfn, by rw [hnp]; rfl, Sub.refl H, ?_, ?_⟩
    · rw [alv_io0 hio, hnp]
      refine vall_of1 1 ?_ rfl
      simp only [RFL, RF]
      exact ⟨_, [], rfl, ⟨a, ns.map V.int, rfl, rd, ints_d ns⟩, rfl⟩
    · rw [hrun]
      dsimp only
      intro F' H' v f' fo _ _ ro _ _ _
      simp only [RO] at ro
      exact ro.1
  · obtain ⟨a', B, H', cls, d', rfl, _, _, _, _, _, _, h⟩ := c
    exact h.elim
end Z

/-! Z26: how the evaluator computes. Plain Lean. -/
namespace Z
theorem compL_pure {f : D → Env → R (List D)} {g : D → List D} {e : Env} : ∀ {xs : List D}, (∀ x ∈ xs, f x e = .ok (g x) e) → compL f xs e = .ok (xs.flatMap g) e
  | [], _ => by simp [compL]
  | x :: xs, h => by
    simp only [compL, h x List.mem_cons_self, R.bind_ok, compL_pure (fun y hy => h y (List.mem_cons_of_mem _ hy)), List.flatMap_cons]
theorem env_restore {e : Env} {i : Nat} {y : D} (hi : i < e.s.length) : restore [i] e (e.set i y) = e := by
  obtain ⟨s, o⟩ := e
  simp only [restore, Env.set, List.set_set]
  have : (s[i]?).getD D.non = s[i]'hi := by rw [List.getElem?_eq_getElem hi]; rfl
  rw [this, List.set_getElem_self]
theorem turn_n {f : Env → R (List D)} {i : Nat} {y : D} {e : Env} {zs : List D} (hi : i < e.s.length) (h : f (e.set i y) = .ok zs (e.set i y)) : turnD (.n i) f y e = .ok zs e := by
  simp only [turnD, asgT, h, R.bind_ok, T.is, env_restore hi]
theorem env_restore2 {e : Env} {i j : Nat} {y z : D} (hi : i < e.s.length) (hj : j < e.s.length) (hij : i ≠ j) : restore [i, j] e ((e.set i y).set j z) = e := by
  obtain ⟨s, o⟩ := e
  simp only [restore, Env.set]
  have h1 : (s[i]?).getD D.non = s[i]'hi := by rw [List.getElem?_eq_getElem hi]; rfl
  have h2 : (s[j]?).getD D.non = s[j]'hj := by rw [List.getElem?_eq_getElem hj]; rfl
  rw [h1, h2]
  congr 1
  refine List.ext_getElem (by simp) fun k k1 k2 => ?_
  simp only [List.getElem_set]
  by_cases a : j = k
  · subst a; simp
  · by_cases b : i = k
    · subst b; simp [a]
    · simp [a, b]
theorem turn_2 {f : Env → R (List D)} {i j : Nat} {y z : D} {e : Env} {zs : List D} (hi : i < e.s.length) (hj : j < e.s.length) (hij : i ≠ j) (h : f ((e.set i y).set j z) = .ok zs ((e.set i y).set j z)) : turnD (.tp [i, j]) f (.tup [y, z]) e = .ok zs e := by
  simp only [turnD, asgT, List.length_cons, List.length_nil, if_true, setAll, h, R.bind_ok, T.is, env_restore2 hi hj hij]
/-- [f x for x in xs], the names put back -/
theorem lc_map0 {t : T} {f : Env → R (List D)} {g : D → D} {xs : List D} {e : Env} (h : ∀ x ∈ xs, turnD t f x e = .ok [g x] e) : compL (turnD t f) xs e = .ok (xs.map g) e := by
  rw [compL_pure (g := fun x => [g x]) h]
  congr 1
  induction xs with
  | nil => rfl
  | cons x xs ih => simp only [List.flatMap_cons, List.map_cons, List.cons_append, List.nil_append, ih fun y hy => h y (List.mem_cons_of_mem _ hy)]
theorem lc_map {α : Type} {t : T} {f : Env → R (List D)} {F g : α → D} {l : List α} {e : Env} (h : ∀ a ∈ l, turnD t f (F a) e = .ok [g a] e) : compL (turnD t f) (l.map F) e = .ok (l.map g) e := by
  induction l with
  | nil => rfl
  | cons x l ih =>
    simp only [List.map_cons, compL, h x List.mem_cons_self, R.bind_ok, ih fun y hy => h y (List.mem_cons_of_mem _ hy)]
    rfl
theorem lc_filter {α : Type} {t : T} {f : Env → R (List D)} {F g : α → D} {p : α → Bool} {l : List α} {e : Env} (h : ∀ a ∈ l, turnD t f (F a) e = .ok (if p a = true then [g a] else []) e) : compL (turnD t f) (l.map F) e = .ok ((l.filter p).map g) e := by
  induction l with
  | nil => rfl
  | cons x l ih =>
    simp only [List.map_cons, compL, h x List.mem_cons_self, R.bind_ok, ih fun y hy => h y (List.mem_cons_of_mem _ hy)]
    by_cases hp : p x = true
    · rw [if_pos hp, List.filter_cons_of_pos hp]; rfl
    · rw [if_neg hp, List.filter_cons_of_neg hp]; rfl
/-- a for that goes through -/
theorem for_inv {t : T} {b : Env → RS} (P : Nat → Env → Prop) : ∀ {xs : List D} {k : Nat} {e : Env}, P k e → (∀ (i : Nat) (x : D) (e : Env), xs[i]? = some x → P (k + i) e → ∃ e1 e2, asgT t x e = some e1 ∧ (b e1 = .nx e2 ∨ b e1 = .ct e2) ∧ P (k + i + 1) e2) →
    ∃ e', forL t b xs e = .nx e' ∧ P (k + xs.length) e'
  | [], k, e, h0, _ => ⟨e, by simp [forL], by simpa using h0⟩
  | x :: xs, k, e, h0, h => by
    obtain ⟨e1, e2, h1, h2, h3⟩ := h 0 x e (by simp) (by simpa using h0)
    obtain ⟨e', g1, g2⟩ := for_inv (xs := xs) (k := k + 1) (e := e2) P (by simpa using h3) (fun i y e hy hp => by
      have := h (i + 1) y e (by simpa using hy) (by rw [show k + (i + 1) = k + 1 + i by omega]; exact hp)
      rw [show k + (i + 1) = k + 1 + i by omega] at this
      exact this)
    refine ⟨e', ?_, by rw [List.length_cons, show k + (xs.length + 1) = k + 1 + xs.length by omega]; exact g2⟩
    simp only [forL, h1]
    rcases h2 with h2 | h2 <;> simp only [h2, g1]
theorem ints_map (l : List Int) : ints? (l.map D.int) = some l := by
  induction l with
  | nil => rfl
  | cons x l ih => simp [ints?, ih]
theorem ixn_nat {n k : Nat} (h : k < n) : ixn n (k : Int) = some k := by
  unfold ixn
  rw [if_pos (by omega), if_pos (by omega)]; simp
theorem getI_nat {α : Type} {xs : List α} {k : Nat} (h : k < xs.length) : getI xs (k : Int) = some xs[k] := by
  unfold getI
  rw [ixn_nat h]
  simp [h]
@[simp] theorem ev_non {G : List D} {k : Oracle} {e : Env} : ev G k .non e = .ok .non e := by simp only [ev, evL, evT, evO, evP, ex, exs, hnd] <;> rfl
@[simp] theorem ev_bl {G : List D} {k : Oracle} {b : Bool} {e : Env} : ev G k (.bl b) e = .ok (.bl b) e := by simp only [ev, evL, evT, evO, evP, ex, exs, hnd] <;> rfl
@[simp] theorem ev_int {G : List D} {k : Oracle} {b : Int} {e : Env} : ev G k (.int b) e = .ok (.int b) e := by simp only [ev, evL, evT, evO, evP, ex, exs, hnd] <;> rfl
@[simp] theorem ev_str {G : List D} {k : Oracle} {b : Txt} {e : Env} : ev G k (.str b) e = .ok (.str b) e := by simp only [ev, evL, evT, evO, evP, ex, exs, hnd] <;> rfl
@[simp] theorem ev_v {G : List D} {k : Oracle} {i : Nat} {e : Env} : ev G k (.v i) e = R.lift (e.get i) e := by simp only [ev, evL, evT, evO, evP, ex, exs, hnd] <;> rfl
@[simp] theorem ev_mv {G : List D} {k : Oracle} {i : Nat} {e : Env} : ev G k (.mv i) e = R.lift (e.get i) e := by simp only [ev, evL, evT, evO, evP, ex, exs, hnd] <;> rfl
@[simp] theorem ev_pk {G : List D} {k : Oracle} {i : Nat} {e : Env} : ev G k (.pk i) e = R.lift (e.get i) e := by simp only [ev, evL, evT, evO, evP, ex, exs, hnd] <;> rfl
@[simp] theorem ev_io {G : List D} {k : Oracle} {i : Nat} {e : Env} : ev G k (.io i) e = R.lift (e.get i) e := by simp only [ev, evL, evT, evO, evP, ex, exs, hnd] <;> rfl
@[simp] theorem ev_bo {G : List D} {k : Oracle} {i : Nat} {e : Env} : ev G k (.bo i) e = R.lift (e.get i) e := by simp only [ev, evL, evT, evO, evP, ex, exs, hnd] <;> rfl
@[simp] theorem ev_gl {G : List D} {k : Oracle} {i : Nat} {e : Env} : ev G k (.gl i) e = R.lift (G[i]?) e := by simp only [ev, evL, evT, evO, evP, ex, exs, hnd] <;> rfl
@[simp] theorem ev_op {G : List D} {k : Oracle} {o : O2} {a b : C} {e : Env} : ev G k (.op o a b) e = (ev G k a e).bind fun x e1 => (ev G k b e1).bind fun y e2 => R.lift (op2 o x y) e2 := by simp only [ev, evL, evT, evO, evP, ex, exs, hnd] <;> rfl
@[simp] theorem ev_cat {G : List D} {k : Oracle} {a b : C} {e : Env} : ev G k (.cat a b) e = (ev G k a e).bind fun x e1 => (ev G k b e1).bind fun y e2 => R.lift (opCat x y) e2 := by simp only [ev, evL, evT, evO, evP, ex, exs, hnd] <;> rfl
@[simp] theorem ev_catT {G : List D} {k : Oracle} {a b : C} {e : Env} : ev G k (.catT a b) e = (ev G k a e).bind fun x e1 => (ev G k b e1).bind fun y e2 => R.lift (opCatT x y) e2 := by simp only [ev, evL, evT, evO, evP, ex, exs, hnd] <;> rfl
@[simp] theorem ev_rep {G : List D} {k : Oracle} {a b : C} {e : Env} : ev G k (.rep a b) e = (ev G k a e).bind fun x e1 => (ev G k b e1).bind fun y e2 => R.lift (opRep x y) e2 := by simp only [ev, evL, evT, evO, evP, ex, exs, hnd] <;> rfl
@[simp] theorem ev_neg {G : List D} {k : Oracle} {a : C} {e : Env} : ev G k (.neg a) e = (ev G k a e).bind fun x e1 => match x with | .int i => .ok (.int (-i)) e1 | _ => .bad := by simp only [ev, evL, evT, evO, evP, ex, exs, hnd] <;> rfl
@[simp] theorem ev_nt {G : List D} {k : Oracle} {a : C} {e : Env} : ev G k (.nt a) e = (ev G k a e).bind fun x e1 => R.lift ((truth x).map fun b => .bl (!b)) e1 := by simp only [ev, evL, evT, evO, evP, ex, exs, hnd] <;> rfl
@[simp] theorem ev_and {G : List D} {k : Oracle} {a b : C} {e : Env} : ev G k (.and a b) e = (ev G k a e).bind fun x e1 => match truth x with | some true => ev G k b e1 | some false => .ok x e1 | none => .bad := by simp only [ev, evL, evT, evO, evP, ex, exs, hnd] <;> rfl
@[simp] theorem ev_or {G : List D} {k : Oracle} {a b : C} {e : Env} : ev G k (.or a b) e = (ev G k a e).bind fun x e1 => match truth x with | some true => .ok x e1 | some false => ev G k b e1 | none => .bad := by simp only [ev, evL, evT, evO, evP, ex, exs, hnd] <;> rfl
@[simp] theorem ev_cmp {G : List D} {k : Oracle} {o : Cp} {a b : C} {e : Env} : ev G k (.cmp o a b) e = (ev G k a e).bind fun x e1 => (ev G k b e1).bind fun y e2 => R.lift ((cp o x y).map .bl) e2 := by simp only [ev, evL, evT, evO, evP, ex, exs, hnd] <;> rfl
@[simp] theorem ev_ife {G : List D} {k : Oracle} {c a b : C} {e : Env} : ev G k (.ife c a b) e = (ev G k c e).bind fun x e1 => match truth x with | some true => ev G k a e1 | some false => ev G k b e1 | none => .bad := by simp only [ev, evL, evT, evO, evP, ex, exs, hnd] <;> rfl
@[simp] theorem ev_call {G : List D} {k : Oracle} {f : Nat} {as : List C} {e : Env} : ev G k (.call f as) e = (evL G k as e).bind fun xs e1 => callR k f as xs e1 := by simp only [ev, evL, evT, evO, evP, ex, exs, hnd] <;> rfl
@[simp] theorem ev_bi {G : List D} {k : Oracle} {f : B1} {as : List C} {e : Env} : ev G k (.bi f as) e = (evL G k as e).bind fun xs e1 => R.lift (b1 f xs) e1 := by simp only [ev, evL, evT, evO, evP, ex, exs, hnd] <;> rfl
@[simp] theorem ev_ix {G : List D} {k : Oracle} {a i : C} {e : Env} : ev G k (.ix a i) e = (ev G k a e).bind fun x e1 => (ev G k i e1).bind fun y e2 => R.lift (opIx x y) e2 := by simp only [ev, evL, evT, evO, evP, ex, exs, hnd] <;> rfl
@[simp] theorem ev_sl {G : List D} {k : Oracle} {a : C} {lo hi : Option C} {e : Env} : ev G k (.sl a lo hi) e = (ev G k a e).bind fun x e1 => (evO G k lo e1).bind fun l e2 => (evO G k hi e2).bind fun h e3 => R.lift (opSl l h x) e3 := by simp only [ev, evL, evT, evO, evP, ex, exs, hnd] <;> rfl
@[simp] theorem ev_slT {G : List D} {k : Oracle} {a : C} {lo hi : Option C} {e : Env} : ev G k (.slT a lo hi) e = (ev G k a e).bind fun x e1 => (evO G k lo e1).bind fun l e2 => (evO G k hi e2).bind fun h e3 => R.lift (opSlT l h x) e3 := by simp only [ev, evL, evT, evO, evP, ex, exs, hnd] <;> rfl
@[simp] theorem ev_lst {G : List D} {k : Oracle} {as : List C} {e : Env} : ev G k (.lst as) e = (evL G k as e).bind fun xs e1 => .ok (.lst xs) e1 := by simp only [ev, evL, evT, evO, evP, ex, exs, hnd] <;> rfl
@[simp] theorem ev_tup {G : List D} {k : Oracle} {as : List C} {e : Env} : ev G k (.tup as) e = (evL G k as e).bind fun xs e1 => .ok (.tup xs) e1 := by simp only [ev, evL, evT, evO, evP, ex, exs, hnd] <;> rfl
@[simp] theorem ev_rg {G : List D} {k : Oracle} {a : C} {e : Env} : ev G k (.rg a) e = (ev G k a e).bind fun x e1 => R.lift (rgD x) e1 := by simp only [ev, evL, evT, evO, evP, ex, exs, hnd] <;> rfl
@[simp] theorem ev_rg2 {G : List D} {k : Oracle} {a b : C} {e : Env} : ev G k (.rg2 a b) e = (ev G k a e).bind fun x e1 => (ev G k b e1).bind fun y e2 => R.lift (rg2D x y) e2 := by simp only [ev, evL, evT, evO, evP, ex, exs, hnd] <;> rfl
@[simp] theorem ev_en {G : List D} {k : Oracle} {a : C} {e : Env} : ev G k (.en a) e = (ev G k a e).bind fun x e1 => R.lift ((items x).map fun xs => .itr (enumD 0 xs)) e1 := by simp only [ev, evL, evT, evO, evP, ex, exs, hnd] <;> rfl
@[simp] theorem ev_zp {G : List D} {k : Oracle} {a b : C} {e : Env} : ev G k (.zp a b) e = (ev G k a e).bind fun x e1 => (ev G k b e1).bind fun y e2 => R.lift ((items x).bind fun xs => (items y).map fun ys => .itr (zipD xs ys)) e2 := by simp only [ev, evL, evT, evO, evP, ex, exs, hnd] <;> rfl
@[simp] theorem ev_lc {G : List D} {k : Oracle} {x it : C} {t : T} {cs : List C} {env : Env} : ev G k (.lc x t it cs) env = (ev G k it env).bind fun x1 e1 => match items x1 with | none => .bad | some xs => (compL (turnD t fun e3 => (evT G k cs e3).bind fun b e4 => if b = true then (ev G k x e4).bind fun z e5 => .ok [z] e5 else .ok [] e4) xs e1).nox.bind fun zs e6 => R.lift (guardL zs.length (.lst zs)) e6 := by simp only [ev, evL, evT, evO, evP, ex, exs, hnd] <;> rfl
@[simp] theorem ev_fl {G : List D} {k : Oracle} {a : C} {e : Env} : ev G k (.fl a) e = (ev G k a e).bind fun x e1 => if flat x = true then .ok x e1 else .bad := by simp only [ev, evL, evT, evO, evP, ex, exs, hnd] <;> rfl
@[simp] theorem evL_nil {G : List D} {k : Oracle} {e : Env} : evL G k [] e = .ok [] e := by simp only [ev, evL, evT, evO, evP, ex, exs, hnd] <;> rfl
@[simp] theorem evL_cons {G : List D} {k : Oracle} {a : C} {as : List C} {e : Env} : evL G k (a :: as) e = (ev G k a e).bind fun x e1 => (evL G k as e1).bind fun xs e2 => .ok (x :: xs) e2 := by simp only [ev, evL, evT, evO, evP, ex, exs, hnd] <;> rfl
@[simp] theorem evT_nil {G : List D} {k : Oracle} {e : Env} : evT G k [] e = .ok true e := by simp only [ev, evL, evT, evO, evP, ex, exs, hnd] <;> rfl
@[simp] theorem evT_cons {G : List D} {k : Oracle} {a : C} {as : List C} {e : Env} : evT G k (a :: as) e = (ev G k a e).bind fun x e1 => match truth x with | some true => evT G k as e1 | some false => .ok false e1 | none => .bad := by simp only [ev, evL, evT, evO, evP, ex, exs, hnd] <;> rfl
@[simp] theorem evO_none {G : List D} {k : Oracle} {e : Env} : evO G k none e = .ok none e := by simp only [ev, evL, evT, evO, evP, ex, exs, hnd] <;> rfl
@[simp] theorem evO_some {G : List D} {k : Oracle} {a : C} {e : Env} : evO G k (some a) e = (ev G k a e).bind fun x e1 => R.lift (optI x) e1 := by simp only [ev, evL, evT, evO, evP, ex, exs, hnd] <;> rfl
@[simp] theorem evP_pk {G : List D} {k : Oracle} {x : Nat} {e : Env} : evP G k (.pk x) e = .ok (x, []) e := by simp only [ev, evL, evT, evO, evP, ex, exs, hnd] <;> rfl
@[simp] theorem evP_ix {G : List D} {k : Oracle} {p i : C} {e : Env} : evP G k (.ix p i) e = (evP G k p e).bind fun ps e1 => (ev G k i e1).nox.bind fun j e2 => .ok (ps.1, ps.2 ++ [j]) { e2 with s := e1.s } := by simp only [ev, evL, evT, evO, evP, ex, exs, hnd] <;> rfl
@[simp] theorem ex_pass {G : List D} {k : Oracle} {sub : Nat → Nat → Bool} {e : Env} : ex G k sub .pass e = .nx e := by simp only [ev, evL, evT, evO, evP, ex, exs, hnd] <;> rfl
@[simp] theorem ex_brk {G : List D} {k : Oracle} {sub : Nat → Nat → Bool} {e : Env} : ex G k sub .brk e = .bk e := by simp only [ev, evL, evT, evO, evP, ex, exs, hnd] <;> rfl
@[simp] theorem ex_ct {G : List D} {k : Oracle} {sub : Nat → Nat → Bool} {e : Env} : ex G k sub .ct e = .ct e := by simp only [ev, evL, evT, evO, evP, ex, exs, hnd] <;> rfl
@[simp] theorem ex_asg {G : List D} {k : Oracle} {sub : Nat → Nat → Bool} {t : T} {a : C} {e : Env} : ex G k sub (.asg t a) e = (ev G k a e).st fun x e1 => match asgT t x e1 with | some e2 => .nx e2 | none => .bad := by simp only [ev, evL, evT, evO, evP, ex, exs, hnd] <;> rfl
@[simp] theorem ex_aug {G : List D} {k : Oracle} {sub : Nat → Nat → Bool} {i : Nat} {o : O2} {a : C} {e : Env} : ex G k sub (.aug i o a) e = match e.get i with | none => .bad | some x => (ev G k a e).st fun y e1 => match op2i o x y with | some z => .nx (e1.set i z) | none => .bad := by simp only [ev, evL, evT, evO, evP, ex, exs, hnd] <;> rfl
@[simp] theorem ex_six {G : List D} {k : Oracle} {sub : Nat → Nat → Bool} {p i a : C} {e : Env} : ex G k sub (.six p i a) e = (ev G k a e).st fun v e1 => (evP G k p e1).st fun ps e2 => match (e2.get ps.1).bind (getP ps.2) with | some (.lst _) => (ev G k i e2).st fun i e3 => chg ps.1 ps.2 (setIx i v) e3 | _ => .bad := by simp only [ev, evL, evT, evO, evP, ex, exs, hnd] <;> rfl
@[simp] theorem ex_app {G : List D} {k : Oracle} {sub : Nat → Nat → Bool} {p a : C} {e : Env} : ex G k sub (.app p a) e = (evP G k p e).st fun ps e1 => match (e1.get ps.1).bind (getP ps.2) with | some (.lst _) => (ev G k a e1).st fun v e2 => chg ps.1 ps.2 (appD v) e2 | _ => .bad := by simp only [ev, evL, evT, evO, evP, ex, exs, hnd] <;> rfl
@[simp] theorem ex_ext {G : List D} {k : Oracle} {sub : Nat → Nat → Bool} {p a : C} {e : Env} : ex G k sub (.ext p a) e = (evP G k p e).st fun ps e1 => match (e1.get ps.1).bind (getP ps.2) with | some (.lst _) => (ev G k a e1).st fun v e2 => chg ps.1 ps.2 (extD v) e2 | _ => .bad := by simp only [ev, evL, evT, evO, evP, ex, exs, hnd] <;> rfl
@[simp] theorem ex_ex {G : List D} {k : Oracle} {sub : Nat → Nat → Bool} {a : C} {e : Env} : ex G k sub (.ex a) e = (ev G k a e).st fun _ e1 => .nx e1 := by simp only [ev, evL, evT, evO, evP, ex, exs, hnd] <;> rfl
@[simp] theorem ex_ite {G : List D} {k : Oracle} {sub : Nat → Nat → Bool} {c : C} {a b : List S} {e : Env} : ex G k sub (.ite c a b) e = (ev G k c e).st fun x e1 => match truth x with | some true => exs G k sub a e1 | some false => exs G k sub b e1 | none => .bad := by simp only [ev, evL, evT, evO, evP, ex, exs, hnd] <;> rfl
@[simp] theorem ex_fr {G : List D} {k : Oracle} {sub : Nat → Nat → Bool} {t : T} {it : C} {b : List S} {e : Env} : ex G k sub (.fr t it b) e = (ev G k it e).st fun x e1 => match items x with | none => .bad | some xs => forL t (exs G k sub b) xs e1 := by simp only [ev, evL, evT, evO, evP, ex, exs, hnd] <;> rfl
@[simp] theorem ex_wl {G : List D} {k : Oracle} {sub : Nat → Nat → Bool} {c : C} {b : List S} {e : Env} : ex G k sub (.wl c b) e = whL (ev G k c) (exs G k sub b) BIG e := by simp only [ev, evL, evT, evO, evP, ex, exs, hnd] <;> rfl
@[simp] theorem ex_ret {G : List D} {k : Oracle} {sub : Nat → Nat → Bool} {a : C} {e : Env} : ex G k sub (.ret a) e = (ev G k a e).st fun x e1 => .rt x e1 := by simp only [ev, evL, evT, evO, evP, ex, exs, hnd] <;> rfl
@[simp] theorem ex_retN {G : List D} {k : Oracle} {sub : Nat → Nat → Bool} {e : Env} : ex G k sub .retN e = .rt .non e := by simp only [ev, evL, evT, evO, evP, ex, exs, hnd] <;> rfl
@[simp] theorem exs_nil {G : List D} {k : Oracle} {sub : Nat → Nat → Bool} {e : Env} : exs G k sub [] e = .nx e := by simp only [ev, evL, evT, evO, evP, ex, exs, hnd] <;> rfl
@[simp] theorem exs_cons {G : List D} {k : Oracle} {sub : Nat → Nat → Bool} {a : S} {as : List S} {e : Env} : exs G k sub (a :: as) e = (ex G k sub a e).seq (exs G k sub as) := by simp only [ev, evL, evT, evO, evP, ex, exs, hnd] <;> rfl
@[simp] theorem get_mk {s : List D} {o : List Ob} {i : Nat} : Env.get ⟨s, o⟩ i = s[i]? := rfl
@[simp] theorem set_mk {s : List D} {o : List Ob} {i : Nat} {d : D} : Env.set ⟨s, o⟩ i d = ⟨s.set i d, o⟩ := rfl
@[simp] theorem asg_n {i : Nat} {d : D} {e : Env} : asgT (.n i) d e = some (e.set i d) := rfl
@[simp] theorem asg_2 {i j : Nat} {x y : D} {e : Env} : asgT (.tp [i, j]) (.tup [x, y]) e = some ((e.set i x).set j y) := rfl
@[simp] theorem truth_bl {b : Bool} : truth (.bl b) = some b := rfl
@[simp] theorem items_lst {xs : List D} : items (.lst xs) = some xs := rfl
@[simp] theorem items_tup {xs : List D} : items (.tup xs) = some xs := rfl
@[simp] theorem items_itr {xs : List D} : items (.itr xs) = some xs := rfl
@[simp] theorem op_add_i {x y : Int} : op2 .add (.int x) (.int y) = some (.int (x + y)) := rfl
@[simp] theorem op_sub_i {x y : Int} : op2 .sub (.int x) (.int y) = some (.int (x - y)) := rfl
@[simp] theorem op_mod_i {x y : Int} (h : y ≠ 0) : op2 .mod (.int x) (.int y) = some (.int (x.fmod y)) := by simp [op2, opMod, h]
theorem op_div_i {x y : Int} (h : y ≠ 0) (h2 : y.natAbs < 1073741824) : op2 .fdiv (.int x) (.int y) = some (.int (x.fdiv y)) := by simp [op2, opDiv, h, h2]
theorem op_mul_l {x y : Int} (h : x.natAbs < 2 ^ 64) : op2 .mul (.int x) (.int y) = some (.int (x * y)) := by
  have : decide (x.natAbs < 2 ^ 64) = true := decide_eq_true h
  simp only [op2, opMul, mulOk, this, Bool.true_or, if_true]
theorem op_mul_r {x y : Int} (h : y.natAbs < 2 ^ 64) : op2 .mul (.int x) (.int y) = some (.int (x * y)) := by
  have : decide (y.natAbs < 2 ^ 64) = true := decide_eq_true h
  simp only [op2, opMul, mulOk, this, Bool.true_or, Bool.or_true, if_true]
@[simp] theorem cp_lt_i {x y : Int} : cp .lt (.int x) (.int y) = some (decide (x < y)) := rfl
@[simp] theorem cp_le_i {x y : Int} : cp .le (.int x) (.int y) = some (decide (x ≤ y)) := rfl
@[simp] theorem cp_gt_i {x y : Int} : cp .gt (.int x) (.int y) = some (decide (y < x)) := rfl
@[simp] theorem cp_ge_i {x y : Int} : cp .ge (.int x) (.int y) = some (decide (y ≤ x)) := rfl
@[simp] theorem cp_eq_i {x y : Int} : cp .eq (.int x) (.int y) = some (x == y) := rfl
@[simp] theorem cp_ne_i {x y : Int} : cp .ne (.int x) (.int y) = some (!(x == y)) := rfl
@[simp] theorem cp_eq_s {x y : Txt} : cp .eq (.str x) (.str y) = some (x == y) := rfl
@[simp] theorem cp_ne_s {x y : Txt} : cp .ne (.str x) (.str y) = some (!(x == y)) := rfl
@[simp] theorem len_l {xs : List D} : b1 .len [.lst xs] = some (.int xs.length) := rfl
@[simp] theorem len_t {xs : List D} : b1 .len [.tup xs] = some (.int xs.length) := rfl
@[simp] theorem abs_i {x : Int} : b1 .abs [.int x] = some (.int (if x < 0 then -x else x)) := rfl
@[simp] theorem int_i {x : Int} : b1 .int [.int x] = some (.int x) := rfl
@[simp] theorem sum_l {l : List Int} : b1 .sum [.lst (l.map .int)] = some (.int l.sum) := by simp [b1, ints_map]
@[simp] theorem list_l {xs : List D} : b1 .list [.lst xs] = some (.lst xs) := rfl
@[simp] theorem list_t {xs : List D} : b1 .list [.tup xs] = some (.lst xs) := rfl
@[simp] theorem tuple_l {xs : List D} : b1 .tuple [.lst xs] = some (.tup xs) := rfl
@[simp] theorem tuple_t {xs : List D} : b1 .tuple [.tup xs] = some (.tup xs) := rfl
@[simp] theorem flat_i {x : Int} : flat (.int x) = true := rfl
@[simp] theorem flat_b {x : Bool} : flat (.bl x) = true := rfl
@[simp] theorem flat_s {x : Txt} : flat (.str x) = true := rfl
@[simp] theorem ix_l {xs : List D} {i : Int} : opIx (.lst xs) (.int i) = getI xs i := rfl
@[simp] theorem ix_t {xs : List D} {i : Int} : opIx (.tup xs) (.int i) = getI xs i := rfl
@[simp] theorem getP_nil {d : D} : getP [] d = some d := by simp [getP]
@[simp] theorem ends_rt {fn : Fn} {d : D} {e : Env} (h : fn.io = []) : ends fn (.rt d e) = .ok d [] e.o := by simp [ends, h, outsOf]
@[simp] theorem ends_nx {fn : Fn} {e : Env} (h : fn.io = []) : ends fn (.nx e) = .ok .non [] e.o := by simp [ends, h, outsOf]
@[simp] theorem putBack_nil {as : List C} {e : Env} : putBack as [] e = e := by
  induction as generalizing e with
  | nil => simp [putBack]
  | cons a as ih => cases a <;> simp only [putBack, ih]
theorem callR_ok {k : Oracle} {f : Nat} {as : List C} {xs : List D} {e : Env} {r : D} {o : List Ob} (h : k f xs e.o = .ok r [] o) : callR k f as xs e = .ok r { e with o := o } := by
  unfold callR; rw [h]; simp
theorem guardL_le {α : Type} {n : Nat} {a : α} (h : n ≤ LIM) : guardL n a = some a := if_pos h
theorem lim_of {n : Nat} (h : n ≤ 100000) : n ≤ LIM := Nat.le_trans h (by decide)
@[simp] theorem isInt_n : b1 .isInt [D.non] = some (.bl false) := rfl
@[simp] theorem isInt_b {x : Bool} : b1 .isInt [(D.bl x)] = some (.bl true) := rfl
@[simp] theorem isInt_i {x : Int} : b1 .isInt [(D.int x)] = some (.bl true) := rfl
@[simp] theorem isInt_s {x : Txt} : b1 .isInt [(D.str x)] = some (.bl false) := rfl
@[simp] theorem isInt_l {x : List D} : b1 .isInt [(D.lst x)] = some (.bl false) := rfl
@[simp] theorem isInt_t {x : List D} : b1 .isInt [(D.tup x)] = some (.bl false) := rfl
@[simp] theorem isBool_n : b1 .isBool [D.non] = some (.bl false) := rfl
@[simp] theorem isBool_b {x : Bool} : b1 .isBool [(D.bl x)] = some (.bl true) := rfl
@[simp] theorem isBool_i {x : Int} : b1 .isBool [(D.int x)] = some (.bl false) := rfl
@[simp] theorem isBool_s {x : Txt} : b1 .isBool [(D.str x)] = some (.bl false) := rfl
@[simp] theorem isBool_l {x : List D} : b1 .isBool [(D.lst x)] = some (.bl false) := rfl
@[simp] theorem isBool_t {x : List D} : b1 .isBool [(D.tup x)] = some (.bl false) := rfl
@[simp] theorem isStr_n : b1 .isStr [D.non] = some (.bl false) := rfl
@[simp] theorem isStr_b {x : Bool} : b1 .isStr [(D.bl x)] = some (.bl false) := rfl
@[simp] theorem isStr_i {x : Int} : b1 .isStr [(D.int x)] = some (.bl false) := rfl
@[simp] theorem isStr_s {x : Txt} : b1 .isStr [(D.str x)] = some (.bl true) := rfl
@[simp] theorem isStr_l {x : List D} : b1 .isStr [(D.lst x)] = some (.bl false) := rfl
@[simp] theorem isStr_t {x : List D} : b1 .isStr [(D.tup x)] = some (.bl false) := rfl
@[simp] theorem isList_n : b1 .isList [D.non] = some (.bl false) := rfl
@[simp] theorem isList_b {x : Bool} : b1 .isList [(D.bl x)] = some (.bl false) := rfl
@[simp] theorem isList_i {x : Int} : b1 .isList [(D.int x)] = some (.bl false) := rfl
@[simp] theorem isList_s {x : Txt} : b1 .isList [(D.str x)] = some (.bl false) := rfl
@[simp] theorem isList_l {x : List D} : b1 .isList [(D.lst x)] = some (.bl true) := rfl
@[simp] theorem isList_t {x : List D} : b1 .isList [(D.tup x)] = some (.bl false) := rfl
@[simp] theorem isTuple_n : b1 .isTuple [D.non] = some (.bl false) := rfl
@[simp] theorem isTuple_b {x : Bool} : b1 .isTuple [(D.bl x)] = some (.bl false) := rfl
@[simp] theorem isTuple_i {x : Int} : b1 .isTuple [(D.int x)] = some (.bl false) := rfl
@[simp] theorem isTuple_s {x : Txt} : b1 .isTuple [(D.str x)] = some (.bl false) := rfl
@[simp] theorem isTuple_l {x : List D} : b1 .isTuple [(D.lst x)] = some (.bl false) := rfl
@[simp] theorem isTuple_t {x : List D} : b1 .isTuple [(D.tup x)] = some (.bl true) := rfl
@[simp] theorem is_non_n : cp .is D.non .non = some true := rfl
@[simp] theorem isn_non_n : cp .isn D.non .non = some false := rfl
@[simp] theorem is_non_b {x : Bool} : cp .is (D.bl x) .non = some false := rfl
@[simp] theorem isn_non_b {x : Bool} : cp .isn (D.bl x) .non = some true := rfl
@[simp] theorem is_non_i {x : Int} : cp .is (D.int x) .non = some false := rfl
@[simp] theorem isn_non_i {x : Int} : cp .isn (D.int x) .non = some true := rfl
@[simp] theorem is_non_s {x : Txt} : cp .is (D.str x) .non = some false := rfl
@[simp] theorem isn_non_s {x : Txt} : cp .isn (D.str x) .non = some true := rfl
@[simp] theorem is_non_l {x : List D} : cp .is (D.lst x) .non = some false := rfl
@[simp] theorem isn_non_l {x : List D} : cp .isn (D.lst x) .non = some true := rfl
@[simp] theorem is_non_t {x : List D} : cp .is (D.tup x) .non = some false := rfl
@[simp] theorem isn_non_t {x : List D} : cp .isn (D.tup x) .non = some true := rfl
@[simp] theorem is_bl {x y : Bool} : cp .is (.bl x) (.bl y) = some (x == y) := rfl
@[simp] theorem cp_ne_b {x y : Bool} : cp .ne (.bl x) (.bl y) = some (!(x == y)) := rfl
@[simp] theorem cp_eq_b {x y : Bool} : cp .eq (.bl x) (.bl y) = some (x == y) := rfl
end Z

/-! Z27: more on how the evaluator computes. Plain Lean. -/
namespace Z
/-- a for that goes through, item by item -/
theorem for_run {α : Type} {t : T} {b : Env → RS} {F : α → D} (P : List α → Env → Prop) : ∀ {l pre : List α} {e : Env}, P pre e → (∀ pre a e, P pre e → a ∈ l → ∃ e1 e2, asgT t (F a) e = some e1 ∧ b e1 = .nx e2 ∧ P (pre ++ [a]) e2) →
    ∃ e', forL t b (l.map F) e = .nx e' ∧ P (pre ++ l) e'
  | [], pre, e, h0, _ => ⟨e, by simp [forL], by simpa using h0⟩
  | a :: l, pre, e, h0, h => by
    obtain ⟨e1, e2, h1, h2, h3⟩ := h pre a e h0 List.mem_cons_self
    obtain ⟨e', g1, g2⟩ := for_run P h3 fun pre y e hp hy => h pre y e hp (List.mem_cons_of_mem _ hy)
    exact ⟨e', by simp only [List.map_cons, forL, h1, h2, g1], by simpa using g2⟩
theorem for_runN {α : Type} {t : T} {b : Env → RS} {F : α → D} {N : Nat} (P : List α → Env → Prop) : ∀ {l pre : List α} {e : Env}, P pre e → pre.length + l.length ≤ N → (∀ pre a e, P pre e → a ∈ l → pre.length < N → ∃ e1 e2, asgT t (F a) e = some e1 ∧ b e1 = .nx e2 ∧ P (pre ++ [a]) e2) →
    ∃ e', forL t b (l.map F) e = .nx e' ∧ P (pre ++ l) e'
  | [], pre, e, h0, _, _ => ⟨e, by simp [forL], by simpa using h0⟩
  | a :: l, pre, e, h0, hN, h => by
    simp only [List.length_cons] at hN
    obtain ⟨e1, e2, h1, h2, h3⟩ := h pre a e h0 List.mem_cons_self (by omega)
    obtain ⟨e', g1, g2⟩ := for_runN P h3 (by simp only [List.length_append, List.length_cons, List.length_nil]; omega) fun pre y e hp hy => h pre y e hp (List.mem_cons_of_mem _ hy)
    exact ⟨e', by simp only [List.map_cons, forL, h1, h2, g1], by simpa using g2⟩
/-- a for that goes through or hands back r at the first item that fails -/
theorem for_chk {α : Type} {t : T} {b : Env → RS} {F : α → D} {chk : α → Bool} {o : List Ob} {r : D} (P : List α → Env → Prop) : ∀ {l pre : List α} {e : Env}, P pre e →
    (∀ pre a e, P pre e → a ∈ l → ∃ e1, asgT t (F a) e = some e1 ∧ (chk a = true → ∃ e2, b e1 = .nx e2 ∧ P (pre ++ [a]) e2) ∧ (chk a = false → ∃ e2, b e1 = .rt r e2 ∧ e2.o = o)) →
    (l.all chk = true ∧ ∃ e', forL t b (l.map F) e = .nx e' ∧ P (pre ++ l) e') ∨ (l.all chk = false ∧ ∃ e', forL t b (l.map F) e = .rt r e' ∧ e'.o = o)
  | [], pre, e, h0, _ => .inl ⟨rfl, e, by simp [forL], by simpa using h0⟩
  | a :: l, pre, e, h0, h => by
    obtain ⟨e1, h1, h2, h3⟩ := h pre a e h0 List.mem_cons_self
    cases hc : chk a with
    | false =>
      obtain ⟨e2, g1, g2⟩ := h3 hc
      exact .inr ⟨by simp [hc], e2, by simp only [List.map_cons, forL, h1, g1], g2⟩
    | true =>
      obtain ⟨e2, g1, g2⟩ := h2 hc
      rcases for_chk P g2 fun pre y e hp hy => h pre y e hp (List.mem_cons_of_mem _ hy) with ⟨k1, e', k2, k3⟩ | ⟨k1, e', k2, k3⟩
      · exact .inl ⟨by simp [hc, k1], e', by simp only [List.map_cons, forL, h1, g1, k2], by simpa using k3⟩
      · exact .inr ⟨by simp [k1], e', by simp only [List.map_cons, forL, h1, g1, k2], k3⟩
theorem app_ok {i : Nat} {s : List D} {o : List Ob} {xs : List D} {v : D} (h : s[i]? = some (.lst xs)) (hl : xs.length < LIM) : chg i [] (appD v) ⟨s, o⟩ = .nx ⟨s.set i (.lst (xs ++ [v])), o⟩ := by
  simp [chg, h, updAt, appD, hl]
theorem six_ok {i : Nat} {s : List D} {o : List Ob} {xs : List D} {v : D} {j : Int} (h : s[i]? = some (.lst xs)) (h0 : 0 ≤ j) (hl : j < xs.length) : chg i [] (setIx (.int j) v) ⟨s, o⟩ = .nx ⟨s.set i (.lst (xs.set j.toNat v)), o⟩ := by
  have : ixn xs.length j = some j.toNat := by
    have := ixn_nat (n := xs.length) (k := j.toNat) (by omega)
    rwa [show ((j.toNat : Nat) : Int) = j by omega] at this
  simp [chg, h, updAt, setIx, this]
theorem rg_ok {n : Int} (h : n ≤ 100000) (h0 : 0 ≤ n) : rgD (.int n) = some (.itr (rangeD 0 n.toNat)) := by
  have : n ≤ (LIM : Int) ∧ -(LIM : Int) ≤ n := by unfold LIM; omega
  simp only [rgD, if_pos this]
theorem rg_nat {n : Nat} (h : n ≤ 100000) : rgD (.int (n : Int)) = some (.itr ((List.range n).map fun (k : Nat) => D.int (k : Int))) := by
  rw [rg_ok (by omega) (by omega)]; simp [rangeD]
theorem rangeD_get {lo : Int} {n i : Nat} {x : D} (h : (rangeD lo n)[i]? = some x) : x = .int (lo + (i : Nat)) ∧ i < n := by
  unfold rangeD at h
  rw [List.getElem?_map, Option.map_eq_some_iff] at h
  obtain ⟨j, hj, rfl⟩ := h
  obtain ⟨h1, h2⟩ := List.getElem?_eq_some_iff.mp hj
  simp at h1 h2
  subst h2
  exact ⟨rfl, h1⟩
theorem get_nat {α : Type} {F : α → D} {l : List α} {k : Nat} {d : α} (h : k < l.length) : getI (l.map F) (k : Int) = some (F (l.getD k d)) := by
  have := getI_nat (xs := l.map F) (k := k) (by simpa using h)
  rw [this]; simp [h]
theorem get_Int {α : Type} {F : α → D} {l : List α} {j : Int} {d : α} (h0 : 0 ≤ j) (h : j < l.length) : getI (l.map F) j = some (F (l.getD j.toNat d)) := by
  have := get_nat (F := F) (l := l) (k := j.toNat) (d := d) (by omega)
  rwa [show ((j.toNat : Nat) : Int) = j by omega] at this
theorem pow18 : op2 .pow (.int 10) (.int 18) = some (.int 1000000000000000000) := by
  have h : (0 : Int) ≤ 18 ∧ (18 : Int) ≤ 1000000 ∧ (10 : Int).natAbs < 2 ^ 64 := by decide
  simp only [op2, opPow, if_pos h]; rfl
theorem cut_map {α : Type} {F : α → D} (l : List α) (lo hi : Option Int) : cut (l.map F) lo hi = (cut l lo hi).map F := by
  simp [cut, List.map_drop, List.map_take]
theorem cut_take {α : Type} {l : List α} {k : Int} (h0 : 0 ≤ k) : cut l none (some k) = l.take k.toNat := by
  have : ¬ k < 0 := by omega
  simp only [cut, sIx, if_neg this, List.drop_zero, Nat.sub_zero]
  rw [← List.take_take, List.take_length]
theorem cut_drop {α : Type} {l : List α} {k : Int} (h0 : 0 ≤ k) : cut l (some k) none = l.drop k.toNat := by
  have : ¬ k < 0 := by omega
  simp only [cut, sIx, if_neg this]
  rcases Nat.le_total k.toNat l.length with h | h
  · rw [Nat.min_eq_left h, List.take_of_length_le (by simp)]
  · rw [Nat.min_eq_right h, List.drop_eq_nil_of_le h]; simp
@[simp] theorem opSlT_l {lo hi : Option Int} {xs : List D} : opSlT lo hi (.lst xs) = some (.lst (cut xs lo hi)) := rfl
@[simp] theorem opSlT_t {lo hi : Option Int} {xs : List D} : opSlT lo hi (.tup xs) = some (.tup (cut xs lo hi)) := rfl
@[simp] theorem optI_i {i : Int} : optI (.int i) = some (some i) := rfl
theorem cat_ok {a b : List D} (h : a.length + b.length ≤ 100000) : opCat (.lst a) (.lst b) = some (.lst (a ++ b)) := guardL_le (lim_of h)
theorem catT_t {a b : List D} (h : a.length + b.length ≤ 100000) : opCatT (.tup a) (.tup b) = some (.tup (a ++ b)) := guardL_le (lim_of h)
theorem zip_range {α β : Type} {a : List α} {b : List β} (da : α) (db : β) (h : b.length = a.length) : List.zip a b = (List.range a.length).map fun k => (a.getD k da, b.getD k db) := by
  refine List.ext_getElem (by simp; omega) fun i h1 h2 => ?_
  have ha : i < a.length := by simpa using h2
  have hb : i < b.length := by omega
  simp [ha, hb]
theorem zip_map {α β : Type} {F : α → D} {G : β → D} : ∀ (a : List α) (b : List β), zipD (a.map F) (b.map G) = (List.zip a b).map fun p => D.tup [F p.1, G p.2]
  | [], b => by simp [zipD]
  | _ :: _, [] => by simp [zipD]
  | x :: a, y :: b => by simp [zipD, zip_map a b]
theorem mod_rng {x m : Int} (h : 0 < m) : 0 ≤ x.fmod m ∧ x.fmod m < m := ⟨Int.fmod_nonneg_of_pos x h, Int.fmod_lt_of_pos x h⟩
theorem cut_mid {α : Type} {l : List α} {a b : Nat} (h : a ≤ b) (hb : b ≤ l.length) : cut l (some (a : Int)) (some (b : Int)) = (l.drop a).take (b - a) := by
  have h1 : ¬ (a : Int) < 0 := by omega
  have h2 : ¬ (b : Int) < 0 := by omega
  simp only [cut, sIx, if_neg h1, if_neg h2, Int.toNat_natCast, Nat.min_eq_left hb, Nat.min_eq_left (Nat.le_trans h hb)]
theorem exs_app {G : List D} {k : Oracle} {sub : Nat → Nat → Bool} : ∀ {a b : List S} {e : Env}, exs G k sub (a ++ b) e = (exs G k sub a e).seq (exs G k sub b)
  | [], b, e => by simp
  | x :: a, b, e => by
    rw [List.cons_append, exs_cons, exs_cons]
    cases h : ex G k sub x e <;> simp only [RS.seq_nx, RS.seq_bk, RS.seq_ct, RS.seq_rt, RS.seq_exc, RS.seq_bad]
    exact exs_app
theorem exs_one {G : List D} {k : Oracle} {sub : Nat → Nat → Bool} {a : S} {e : Env} : exs G k sub [a] e = ex G k sub a e := by
  rw [exs_cons]
  cases h : ex G k sub a e <;> simp
theorem callFn_eq {P : Prog} {k : Oracle} {fn : Fn} {args : List D} {o : List Ob} (h : args.length = fn.np) : callFn P k fn args o = ends fn (exs P.gl k P.sub fn.body ⟨args ++ List.replicate (fn.ns - fn.np) .non, o⟩) := if_pos h
theorem fmod_nat (x : Int) {m : Nat} (h : 0 < m) : ∃ c : Nat, x.fmod (m : Int) = (c : Int) ∧ c < m := by
  obtain ⟨h1, h2⟩ := mod_rng (x := x) (m := (m : Int)) (by omega)
  exact ⟨(x.fmod m).toNat, by omega, by omega⟩
/-! comprehensions -/
theorem evv {G : List D} {k : Oracle} {i : Nat} {e : Env} {d : D} (h : e.s[i]? = some d) : ev G k (.v i) e = .ok d e := by
  have : e.get i = some d := h
  rw [ev_v, this, R.lift_some]
theorem evpk {G : List D} {k : Oracle} {i : Nat} {e : Env} {d : D} (h : e.s[i]? = some d) : ev G k (.pk i) e = .ok d e := by
  have : e.get i = some d := h
  rw [ev_pk, this, R.lift_some]
/-- range of a local -/
theorem evrg {G : List D} {k : Oracle} {i n : Nat} {e : Env} (h : e.s[i]? = some (.int (n : Int))) (hn : n ≤ 100000) : ev G k (.rg (.pk i)) e = .ok (.itr ((List.range n).map fun (k : Nat) => D.int (k : Int))) e := by
  rw [ev_rg, evpk h, R.bind_ok, rg_nat hn, R.lift_some]
/-- range(len(a local)) -/
theorem evrgl {G : List D} {k : Oracle} {i : Nat} {e : Env} {xs : List D} (h : e.s[i]? = some (.lst xs)) (hn : xs.length ≤ 100000) : ev G k (.rg (.bi .len [.pk i])) e = .ok (.itr ((List.range xs.length).map fun (k : Nat) => D.int (k : Int))) e := by
  rw [ev_rg, ev_bi, evL_cons, evpk h]
  simp only [R.bind_ok, evL_nil, len_l, R.lift_some, rg_nat hn]
/-- zip of two locals -/
theorem evzp {α β : Type} {G : List D} {k : Oracle} {i j : Nat} {e : Env} {F : α → D} {H : β → D} {a : List α} {b : List β} (h : e.s[i]? = some (.lst (a.map F))) (h2 : e.s[j]? = some (.lst (b.map H))) : ev G k (.zp (.v i) (.v j)) e = .ok (.itr ((List.zip a b).map fun p => D.tup [F p.1, H p.2])) e := by
  rw [ev_zp, evv h, R.bind_ok, evv h2, R.bind_ok]
  simp only [items_lst, Option.bind_some, Option.map_some, zip_map, R.lift_some]
theorem lc_n {α : Type} {G : List D} {k : Oracle} {c it : C} {i : Nat} {e : Env} {x : D} {l : List α} {F g : α → D} (hit : ev G k it e = .ok x e) (hx : items x = some (l.map F)) (hi : i < e.s.length)
    (h : ∀ a ∈ l, ev G k c (e.set i (F a)) = .ok (g a) (e.set i (F a))) (hl : l.length ≤ 100000) : ev G k (.lc c (.n i) it []) e = .ok (.lst (l.map g)) e := by
  rw [ev_lc, hit, R.bind_ok, hx]
  dsimp only
  rw [lc_map (g := g) fun a ha => turn_n hi (by rw [evT_nil, R.bind_ok, if_pos rfl, h a ha, R.bind_ok])]
  rw [R.nox_ok, R.bind_ok, guardL_le (by rw [List.length_map]; exact lim_of hl), R.lift_some]
theorem lcf_n {α : Type} {G : List D} {k : Oracle} {c it q : C} {i : Nat} {e : Env} {x : D} {l : List α} {F g : α → D} {p : α → Bool} (hit : ev G k it e = .ok x e) (hx : items x = some (l.map F)) (hi : i < e.s.length)
    (hq : ∀ a ∈ l, ev G k q (e.set i (F a)) = .ok (.bl (p a)) (e.set i (F a))) (h : ∀ a ∈ l, p a = true → ev G k c (e.set i (F a)) = .ok (g a) (e.set i (F a))) (hl : l.length ≤ 100000) : ev G k (.lc c (.n i) it [q]) e = .ok (.lst ((l.filter p).map g)) e := by
  rw [ev_lc, hit, R.bind_ok, hx]
  dsimp only
  rw [lc_filter (p := p) (g := g) fun a ha => turn_n hi ?_]
  · rw [R.nox_ok, R.bind_ok, guardL_le (by rw [List.length_map]; exact lim_of (Nat.le_trans (List.length_filter_le _ _) hl)), R.lift_some]
  · rw [evT_cons, hq a ha, R.bind_ok, truth_bl]
    cases hp : p a with
    | true =>
      dsimp only
      rw [evT_nil, R.bind_ok, if_pos rfl, h a ha hp, R.bind_ok, if_pos rfl]
    | false =>
      dsimp only
      rw [R.bind_ok, if_neg (by decide), if_neg (by decide)]
theorem lc_2 {α : Type} {G : List D} {k : Oracle} {c it : C} {i j : Nat} {e : Env} {x : D} {l : List α} {F1 F2 g : α → D} (hit : ev G k it e = .ok x e) (hx : items x = some (l.map fun a => .tup [F1 a, F2 a])) (hi : i < e.s.length) (hj : j < e.s.length) (hij : i ≠ j)
    (h : ∀ a ∈ l, ev G k c ((e.set i (F1 a)).set j (F2 a)) = .ok (g a) ((e.set i (F1 a)).set j (F2 a))) (hl : l.length ≤ 100000) : ev G k (.lc c (.tp [i, j]) it []) e = .ok (.lst (l.map g)) e := by
  rw [ev_lc, hit, R.bind_ok, hx]
  dsimp only
  rw [lc_map (g := g) fun a ha => turn_2 hi hj hij (by rw [evT_nil, R.bind_ok, if_pos rfl, h a ha, R.bind_ok])]
  rw [R.nox_ok, R.bind_ok, guardL_le (by rw [List.length_map]; exact lim_of hl), R.lift_some]
mutual
theorem eqD_self : ∀ (d : D) (n : Nat), isDataN d n = true → eqD d d = true
  | .non, _, _ => by simp [eqD]
  | .bl _, _, _ => by simp [eqD]
  | .int _, _, _ => by simp [eqD]
  | .str _, _, _ => by simp [eqD]
  | .tup xs, n, h => by simp only [isDataN, Bool.and_eq_true] at h; simp only [eqD]; exact eqDL_self xs _ h.2
  | .lst xs, n, h => by simp only [isDataN, Bool.and_eq_true] at h; simp only [eqD]; exact eqDL_self xs _ h.2
  | .set _, _, h => by simp [isDataN] at h
  | .itr _, _, h => by simp [isDataN] at h
  | .dct _ _, _, h => by simp [isDataN] at h
  | .ob _, _, h => by simp [isDataN] at h
  | .exc _ _, _, h => by simp [isDataN] at h
theorem eqDL_self : ∀ (xs : List D) (n : Nat), isDataL xs n = true → eqDL xs xs = true
  | [], _, _ => by simp [eqDL]
  | x :: xs, n, h => by
    simp only [isDataL, Bool.and_eq_true] at h
    simp only [eqDL, eqD_self x n h.1, eqDL_self xs n h.2, Bool.and_self]
end
theorem dataL_map {α : Type} {F : α → D} {n : Nat} : ∀ {l : List α}, (∀ a ∈ l, isDataN (F a) n = true) → isDataL (l.map F) n = true
  | [], _ => by simp [isDataL]
  | x :: l, h => by simp only [List.map_cons, isDataL, h x List.mem_cons_self, dataL_map fun a ha => h a (List.mem_cons_of_mem _ ha), Bool.and_self]
theorem cp_eq_self {d : D} (h : isData d = true) : cp .eq d d = some true := by
  simp only [cp, h, Bool.and_self, Bool.or_true, if_true, eqD_self d 60 h]
theorem cp_ne_self {d : D} (h : isData d = true) : cp .ne d d = some false := by
  simp only [cp, h, Bool.and_self, Bool.or_true, if_true, eqD_self d 60 h]; rfl
theorem data_ints (l : List Int) (n : Nat) : isDataL (l.map D.int) n = true := dataL_map fun _ _ => by simp [isDataN]
theorem data_lint (l : List Int) : isData (.lst (l.map .int)) = true := by simp [isData, isDataN, data_ints]
@[simp] theorem max_i {x y : Int} : b1 .max [.int x, .int y] = some (.int (if y > x then y else x)) := rfl
@[simp] theorem min_i {x y : Int} : b1 .min [.int x, .int y] = some (.int (if y < x then y else x)) := rfl
@[simp] theorem ev_mt {G : List D} {k : Oracle} {m : M1} {c : C} {as : List C} {e : Env} : ev G k (.mt m c as) e = (ev G k c e).bind fun x e1 => if mtOk m x = true then (evL G k as e1).bind fun xs e2 => R.lift (m1 m x xs) e2 else .bad := by simp only [ev, evL, evT, evO, evP, ex, exs, hnd] <;> rfl
theorem bls_map (l : List Bool) : bls? (l.map D.bl) = some l := by
  induction l with
  | nil => rfl
  | cons x l ih => simp [bls?, ih]
@[simp] theorem all_l {l : List Bool} : b1 .all [.lst (l.map .bl)] = some (.bl (l.all id)) := by simp [b1, bls_map]
@[simp] theorem any_l {l : List Bool} : b1 .any [.lst (l.map .bl)] = some (.bl (l.any id)) := by simp [b1, bls_map]
/-- numbers below 2 ^ 64 -/
def small (x : Int) : Prop := x.natAbs < 2 ^ 64
theorem small_of {x : Int} (h1 : -(1000000000 : Int) ≤ x) (h2 : x ≤ 1000000000) : small x := by unfold small; omega
def dot (a b : List Int) : Int := (List.zipWith (· * ·) a b).sum
theorem dot_bound {A B : Nat} : ∀ (a b : List Int), (∀ x ∈ a, x.natAbs ≤ A) → (∀ y ∈ b, y.natAbs ≤ B) → (dot a b).natAbs ≤ A * B * a.length
  | [], b, _, _ => by simp [dot]
  | x :: a, [], ha, hb => by simp [dot]
  | x :: a, y :: b, ha, hb => by
    have h1 := dot_bound a b (fun z hz => ha z (List.mem_cons_of_mem _ hz)) fun z hz => hb z (List.mem_cons_of_mem _ hz)
    have e : dot (x :: a) (y :: b) = x * y + dot a b := by simp [dot]
    rw [e]
    have h2 : (x * y).natAbs ≤ A * B := by rw [Int.natAbs_mul]; exact Nat.mul_le_mul (ha x List.mem_cons_self) (hb y List.mem_cons_self)
    have h3 := Int.natAbs_add_le (x * y) (dot a b)
    have h4 : A * B * (x :: a).length = A * B + A * B * a.length := by simp [Nat.mul_add, Nat.add_comm]
    omega
end Z

namespace LW
open PySem PySem.Spec L2 PyProof.Rows
def top (i : Nat) : Stmt := PySem.Challenge.pw_scalesfound_k07_judges_of_fit_one_condit.main.body.getD i (.Pass ⟨0, 0, 0, 0⟩)
/-- value -/
def f0 : Z.Fn := ⟨2, 4, [], [], 100, [
  .ret (.bi .sum [(.lc (.op .mul (.pk 2) (.pk 3)) (.tp [2, 3]) (.zp (.v 0) (.v 1)) [])])]⟩
/-- holds -/
def f1 : Z.Fn := ⟨2, 3, [], [], 100, [
  .asg (.n 2) (.call 0 [(.ix (.v 0) (.int 1)), (.v 1)]),
  .ite (.cmp .eq (.ix (.pk 0) (.int 0)) (.str [62])) [.ret (.cmp .gt (.pk 2) (.int 0))] [],
  .ite (.cmp .eq (.ix (.pk 0) (.int 0)) (.str [62, 61])) [.ret (.cmp .ge (.pk 2) (.int 0))] [],
  .ret (.cmp .eq (.pk 2) (.int 0))]⟩
/-- fits -/
def f2 : Z.Fn := ⟨3, 4, [], [], 100, [
  .ret (.and (.cmp .eq (.bi .len [(.pk 2)]) (.pk 0)) (.bi .all [(.lc (.call 1 [(.v 3), (.v 2)]) (.n 3) (.v 1) [])]))]⟩
/-- balances -/
def f3 : Z.Fn := ⟨3, 7, [], [], 100, [
  .ite (.cmp .ne (.bi .len [(.pk 2)]) (.bi .len [(.pk 1)])) [.ret (.bl false)] [],
  .asg (.n 3) (.bl false),
  .fr (.tp [5, 6]) (.zp (.v 1) (.v 2)) [.ite (.and (.cmp .lt (.pk 6) (.int 0)) (.cmp .ne (.ix (.pk 5) (.int 0)) (.str [61]))) [.ret (.bl false)] [], .ite (.and (.cmp .gt (.pk 6) (.int 0)) (.cmp .eq (.ix (.pk 5) (.int 0)) (.str [62]))) [.asg (.n 3) (.bl true)] []],
  .fr (.n 4) (.rg (.pk 0)) [.ite (.cmp .ne (.bi .sum [(.lc (.op .mul (.ix (.ix (.pk 5) (.int 1)) (.pk 4)) (.pk 6)) (.tp [5, 6]) (.zp (.v 1) (.v 2)) [])]) (.int 0)) [.ret (.bl false)] []],
  .ret (.fl (.pk 3))]⟩
/-- _law_cell -/
def f4 : Z.Fn := ⟨2, 2, [], [], 1, [
  .ite (.cmp .lt (.pk 1) (.bi .len [(.pk 0)])) [.ret (.ix (.v 0) (.pk 1))] [],
  .ite (.cmp .gt (.bi .len [(.pk 0)]) (.int 0)) [.ret (.op .add (.ix (.pk 0) (.op .mod (.bi .int [(.pk 1)]) (.bi .len [(.pk 0)]))) (.op .mul (.int 1000003) (.pk 1)))] [],
  .ret (.v 1)]⟩
/-- _law_many -/
def f5 : Z.Fn := ⟨4, 9, [], [], 2, [
  .asg (.n 4) (.call 4 [(.v 0), (.v 1)]),
  .asg (.n 5) (.bi .abs [(.pk 4)]),
  .asg (.n 6) (.lst []),
  .fr (.n 7) (.rg (.pk 2)) [.ite (.and (.cmp .ge (.bi .abs [(.pk 4)]) (.op .pow (.int 10) (.int 18))) (.cmp .gt (.pk 5) (.int 0))) [.app (.pk 6) (.op .mod (.bi .int [(.pk 5)]) (.pk 3)), .asg (.n 5) (.op .fdiv (.pk 5) (.pk 3))] [.asg (.n 8) (.op .mod (.bi .int [(.op .add (.op .add (.op .add (.op .mul (.pk 4) (.int 48271)) (.op .mul (.pk 7) (.int 69621))) (.op .mul (.int 17) (.pk 1))) (.int 11))]) (.int 2147483647)), .asg (.n 8) (.op .mod (.bi .int [(.op .add (.op .add (.op .mul (.pk 8) (.pk 8)) (.op .mul (.pk 7) (.int 40692))) (.int 3))]) (.int 2147483399)), .asg (.n 8) (.op .mod (.bi .int [(.op .add (.op .add (.op .mul (.pk 8) (.pk 8)) (.op .mul (.pk 7) (.int 7))) (.pk 1))]) (.int 2147483579)), .app (.pk 6) (.op .mod (.bi .int [(.op .fdiv (.pk 8) (.int 64))]) (.pk 3))]],
  .ret (.mv 6)]⟩
/-- _law_value -/
def f6 : Z.Fn := ⟨2, 3, [], [], 100, [
  .ret (.bi .sum [(.lc (.op .mul (.ix (.pk 0) (.pk 2)) (.ix (.pk 1) (.pk 2))) (.n 2) (.rg (.bi .len [(.pk 0)])) [])])]⟩
/-- _law_says -/
def f7 : Z.Fn := ⟨2, 2, [], [], 100, [
  .ite (.pk 1) [.ret (.cmp .is (.pk 0) (.bl true))] [],
  .ret (.cmp .is (.pk 0) (.bl false))]⟩
/-- _law_true -/
def f8 : Z.Fn := ⟨2, 2, [], [], 100, [
  .ite (.cmp .eq (.pk 0) (.str [62])) [.ret (.cmp .gt (.pk 1) (.int 0))] [],
  .ite (.cmp .eq (.pk 0) (.str [62, 61])) [.ret (.cmp .ge (.pk 1) (.int 0))] [],
  .ret (.cmp .eq (.pk 1) (.int 0))]⟩
/-- _law_fits -/
def f9 : Z.Fn := ⟨3, 4, [], [], 100, [
  .ite (.cmp .ne (.bi .len [(.pk 2)]) (.pk 0)) [.ret (.bl false)] [],
  .ret (.cmp .eq (.bi .len [(.lc (.v 3) (.n 3) (.v 1) [(.nt (.call 8 [(.ix (.v 3) (.int 0)), (.call 6 [(.ix (.v 3) (.int 1)), (.v 2)])]))])]) (.int 0))]⟩
/-- _law_balances -/
def f10 : Z.Fn := ⟨3, 6, [], [], 100, [
  .ite (.cmp .ne (.bi .len [(.pk 2)]) (.bi .len [(.pk 1)])) [.ret (.bl false)] [],
  .asg (.n 3) (.int 0),
  .fr (.n 4) (.rg (.bi .len [(.pk 1)])) [.ite (.and (.cmp .lt (.ix (.pk 2) (.pk 4)) (.int 0)) (.cmp .ne (.ix (.ix (.pk 1) (.pk 4)) (.int 0)) (.str [61]))) [.ret (.bl false)] [], .ite (.and (.cmp .gt (.ix (.pk 2) (.pk 4)) (.int 0)) (.cmp .eq (.ix (.ix (.pk 1) (.pk 4)) (.int 0)) (.str [62]))) [.asg (.n 3) (.op .add (.pk 3) (.int 1))] []],
  .fr (.n 5) (.rg (.pk 0)) [.ite (.cmp .ne (.bi .sum [(.lc (.op .mul (.ix (.ix (.ix (.pk 1) (.pk 4)) (.int 1)) (.pk 5)) (.ix (.pk 2) (.pk 4))) (.n 4) (.rg (.bi .len [(.pk 1)])) [])]) (.int 0)) [.ret (.bl false)] []],
  .ret (.cmp .gt (.pk 3) (.int 0))]⟩
/-- _law_balance_judged -/
def f11 : Z.Fn := ⟨3, 6, [], [], 100, [
  .asg (.n 3) (.bi .list [(.v 1)]),
  .asg (.n 4) (.bi .list [(.v 2)]),
  .asg (.n 5) (.call 10 [(.v 0), (.v 1), (.v 2)]),
  .ret (.and (.call 7 [(.call 3 [(.v 0), (.v 3), (.v 4)]), (.v 5)]) (.and (.cmp .eq (.pk 3) (.pk 1)) (.cmp .eq (.pk 4) (.pk 2))))]⟩
/-- _law_fit_judged -/
def f12 : Z.Fn := ⟨3, 6, [], [], 100, [
  .asg (.n 3) (.bi .list [(.v 1)]),
  .asg (.n 4) (.bi .list [(.v 2)]),
  .asg (.n 5) (.call 9 [(.v 0), (.v 1), (.v 2)]),
  .ret (.and (.call 7 [(.call 2 [(.v 0), (.v 3), (.v 4)]), (.v 5)]) (.and (.cmp .eq (.pk 3) (.pk 1)) (.cmp .eq (.pk 4) (.pk 2))))]⟩
/-- _law_system -/
def f13 : Z.Fn := ⟨2, 20, [], [], 3, [
  .asg (.n 2) (.op .add (.int 1) (.op .mod (.bi .int [(.ix (.pk 1) (.int 0))]) (.int 8))),
  .asg (.n 3) (.op .add (.int 1) (.op .mod (.bi .int [(.ix (.pk 1) (.int 1))]) (.int 6))),
  .asg (.n 4) (.int 6),
  .ite (.cmp .eq (.op .mod (.bi .int [(.ix (.pk 1) (.int 2))]) (.int 16)) (.int 5)) [.asg (.n 2) (.int 16), .asg (.n 3) (.int 57)] [.ite (.cmp .eq (.op .mod (.bi .int [(.ix (.pk 1) (.int 3))]) (.int 8)) (.int 3)) [.asg (.n 4) (.int 1001)] []],
  .asg (.n 5) (.op .add (.int 1) (.op .mod (.bi .int [(.ix (.pk 1) (.int 4))]) (.int 4))),
  .asg (.n 6) (.op .mod (.bi .int [(.ix (.pk 1) (.int 5))]) (.op .add (.pk 3) (.int 1))),
  .asg (.n 7) (.cmp .eq (.op .mod (.bi .int [(.ix (.pk 1) (.int 6))]) (.int 2)) (.int 0)),
  .asg (.n 8) (.lc (.op .sub (.pk 18) (.int 9)) (.n 18) (.call 5 [(.v 0), (.int 1), (.op .mul (.pk 2) (.pk 3)), (.int 19)]) []),
  .asg (.n 9) (.call 5 [(.v 0), (.int 2), (.op .add (.pk 3) (.int 1)), (.int 6)]),
  .asg (.n 10) (.call 5 [(.v 0), (.int 3), (.v 3), (.v 4)]),
  .asg (.n 11) (.lst []),
  .asg (.n 12) (.lc (.int 0) (.n 18) (.rg (.pk 2)) []),
  .fr (.n 13) (.rg (.pk 3)) [.asg (.n 14) (.ix (.lst [(.str [62]), (.str [62, 61]), (.str [61])]) (.op .mod (.bi .int [(.ix (.pk 9) (.pk 13))]) (.int 3))), .ite (.and (.cmp .eq (.pk 14) (.str [61])) (.cmp .gt (.ix (.pk 9) (.pk 13)) (.int 2))) [.six (.pk 10) (.pk 13) (.neg (.ix (.pk 10) (.pk 13)))] [], .ite (.and (.cmp .eq (.pk 14) (.str [62])) (.pk 7)) [.six (.pk 10) (.pk 13) (.int 0)] [], .ite (.cmp .eq (.pk 13) (.pk 6)) [.asg (.n 14) (.str [62]), .six (.pk 10) (.pk 13) (.bi .max [(.int 1), (.bi .abs [(.ix (.pk 10) (.pk 13))])])] [], .asg (.n 17) (.slT (.v 8) (some (.op .mul (.pk 13) (.pk 2))) (some (.op .add (.op .mul (.pk 13) (.pk 2)) (.pk 2)))), .asg (.n 12) (.lc (.op .add (.ix (.pk 12) (.pk 19)) (.op .mul (.ix (.pk 10) (.pk 13)) (.ix (.pk 17) (.pk 19)))) (.n 19) (.rg (.pk 2)) []), .app (.pk 11) (.tup [(.v 14), (.bi .tuple [(.lc (.op .mul (.pk 5) (.pk 18)) (.n 18) (.v 17) [])])])],
  .asg (.n 14) (.ix (.lst [(.str [62, 61]), (.str [61]), (.str [62, 61])]) (.op .mod (.bi .int [(.ix (.pk 9) (.pk 3))]) (.int 3))),
  .ite (.or (.cmp .eq (.pk 6) (.pk 3)) (.and (.cmp .gt (.ix (.pk 9) (.pk 3)) (.int 4)) (.nt (.pk 7)))) [.asg (.n 14) (.str [62])] [],
  .app (.pk 11) (.tup [(.v 14), (.bi .tuple [(.lc (.neg (.pk 18)) (.n 18) (.v 12) [])])]),
  .app (.pk 10) (.fl (.pk 5)),
  .asg (.n 15) (.op .mod (.bi .int [(.ix (.pk 1) (.int 7))]) (.op .add (.pk 3) (.int 1))),
  .asg (.n 16) (.op .mod (.bi .int [(.op .sub (.pk 6) (.pk 15))]) (.op .add (.pk 3) (.int 1))),
  .ret (.tup [(.fl (.pk 2)), (.cat (.slT (.v 11) (some (.pk 15)) none) (.slT (.v 11) none (some (.pk 15)))), (.cat (.slT (.v 10) (some (.pk 15)) none) (.slT (.v 10) none (some (.pk 15)))), (.fl (.pk 16))])]⟩
/-- _law_put -/
def f14 : Z.Fn := ⟨3, 3, [], [], 2, [
  .ret (.cat (.cat (.slT (.v 0) none (some (.pk 1))) (.lst [(.v 2)])) (.slT (.v 0) (some (.pk 1)) none))]⟩
/-- _law_times_counted -/
def f15 : Z.Fn := ⟨4, 10, [], [], 100, [
  .asg (.n 4) (.bi .tuple [(.lc (.int 0) (.n 9) (.rg (.pk 0)) [])]),
  .asg (.n 5) (.cat (.v 1) (.lst [(.tup [(.str [62, 61]), (.v 4)])])),
  .ite (.or (.nt (.call 11 [(.v 0), (.v 5), (.cat (.v 2) (.lst [(.int 0)]))])) (.nt (.call 11 [(.v 0), (.v 5), (.v 2)]))) [.ret (.bl false)] [],
  .ite (.or (.nt (.call 11 [(.v 0), (.v 1), (.cat (.v 2) (.lst [(.int 0)]))])) (.nt (.call 11 [(.v 0), (.lst []), (.lst [])]))) [.ret (.bl false)] [],
  .fr (.n 6) (.lst [(.str [62]), (.str [62, 61]), (.str [61])]) [.asg (.n 7) (.call 14 [(.v 1), (.v 3), (.tup [(.v 6), (.v 4)])]), .fr (.n 8) (.lst [(.neg (.int 1)), (.int 3)]) [.ite (.nt (.call 11 [(.v 0), (.v 7), (.call 14 [(.v 2), (.v 3), (.v 8)])])) [.ret (.bl false)] []]],
  .ret (.bl true)]⟩
/-- _law_twice -/
def f16 : Z.Fn := ⟨5, 8, [], [], 100, [
  .fr (.n 5) (.lst [(.str [62]), (.str [62, 61]), (.str [61])]) [.asg (.n 6) (.call 14 [(.v 1), (.v 3), (.tup [(.v 5), (.ix (.ix (.v 1) (.pk 4)) (.int 1))])]), .asg (.n 7) (.bi .list [(.v 2)]), .six (.pk 7) (.pk 4) (.op .add (.ix (.pk 7) (.pk 4)) (.int 2)), .ite (.nt (.call 11 [(.v 0), (.v 6), (.call 14 [(.v 7), (.v 3), (.neg (.int 2))])])) [.ret (.bl false)] []],
  .ret (.bl true)]⟩
/-- _law_says_more -/
def f17 : Z.Fn := ⟨4, 6, [], [], 100, [
  .ite (.nt (.call 11 [(.v 0), (.v 1), (.lc (.int 0) (.n 5) (.v 2) [])])) [.ret (.bl false)] [],
  .fr (.n 4) (.lst [(.str [62, 61]), (.str [61])]) [.ite (.nt (.call 11 [(.v 0), (.cat (.cat (.slT (.v 1) none (some (.pk 3))) (.lst [(.tup [(.v 4), (.ix (.ix (.v 1) (.pk 3)) (.int 1))])])) (.slT (.v 1) (some (.op .add (.pk 3) (.int 1))) none)), (.v 2)])) [.ret (.bl false)] []],
  .ret (.bl true)]⟩
/-- _law_each_unknown -/
def f18 : Z.Fn := ⟨4, 9, [], [], 100, [
  .asg (.n 4) (.bi .list [(.ix (.ix (.v 1) (.pk 3)) (.int 1))]),
  .fr (.n 5) (.rg (.pk 0)) [.fr (.n 6) (.lst [(.int 1), (.neg (.int 1))]) [.asg (.n 7) (.cat (.cat (.slT (.v 4) none (some (.pk 5))) (.lst [(.op .add (.ix (.pk 4) (.pk 5)) (.pk 6))])) (.slT (.v 4) (some (.op .add (.pk 5) (.int 1))) none)), .asg (.n 8) (.cat (.cat (.slT (.v 1) none (some (.pk 3))) (.lst [(.tup [(.str [62]), (.bi .tuple [(.v 7)])])])) (.slT (.v 1) (some (.op .add (.pk 3) (.int 1))) none)), .ite (.nt (.call 11 [(.v 0), (.v 8), (.v 2)])) [.ret (.bl false)] []]],
  .ret (.bl true)]⟩
/-- _law_line -/
def f19 : Z.Fn := ⟨5, 7, [], [], 2, [
  .ite (.cmp .eq (.bi .len [(.pk 1)]) (.int 0)) [.ret (.tup [(.v 0), (.tup [])])] [],
  .asg (.n 5) (.lc (.ife (.cmp .eq (.pk 6) (.pk 3)) (.int 0) (.ix (.v 1) (.pk 6))) (.n 6) (.rg (.bi .len [(.pk 1)])) []),
  .six (.pk 5) (.pk 3) (.op .mul (.op .sub (.pk 4) (.call 6 [(.bo 5), (.v 2)])) (.ix (.pk 2) (.pk 3))),
  .ret (.tup [(.v 0), (.bi .tuple [(.v 5)])])]⟩
/-- _law_fitting -/
def f20 : Z.Fn := ⟨2, 18, [], [], 2, [
  .asg (.n 2) (.op .mod (.bi .int [(.ix (.pk 1) (.int 8))]) (.int 8)),
  .asg (.n 3) (.op .mod (.bi .int [(.ix (.pk 1) (.int 9))]) (.int 9)),
  .ite (.cmp .eq (.op .mod (.bi .int [(.ix (.pk 1) (.int 2))]) (.int 16)) (.int 5)) [.asg (.n 2) (.int 15), .asg (.n 3) (.int 59)] [],
  .asg (.n 4) (.int 9),
  .asg (.n 5) (.int 9),
  .ite (.cmp .eq (.op .mod (.bi .int [(.ix (.pk 1) (.int 10))]) (.int 8)) (.int 3)) [.asg (.n 4) (.int 60000), .asg (.n 5) (.int 1)] [],
  .asg (.n 6) (.lc (.op .sub (.pk 17) (.pk 4)) (.n 17) (.call 5 [(.v 0), (.int 4), (.v 2), (.op .add (.op .mul (.int 2) (.pk 4)) (.int 1))]) []),
  .asg (.n 7) (.int 0),
  .ite (.cmp .gt (.pk 2) (.int 0)) [.asg (.n 7) (.op .mod (.bi .int [(.ix (.pk 1) (.int 11))]) (.pk 2)), .six (.pk 6) (.pk 7) (.ix (.lst [(.int 1), (.neg (.int 1))]) (.op .mod (.bi .int [(.ix (.pk 1) (.int 12))]) (.int 2)))] [],
  .asg (.n 8) (.lc (.op .sub (.pk 17) (.pk 5)) (.n 17) (.call 5 [(.v 0), (.int 5), (.op .mul (.pk 2) (.pk 3)), (.op .add (.op .mul (.int 2) (.pk 5)) (.int 1))]) []),
  .asg (.n 9) (.call 5 [(.v 0), (.int 6), (.v 3), (.int 12)]),
  .asg (.n 10) (.lst []),
  .asg (.n 11) (.lst []),
  .fr (.n 12) (.rg (.pk 3)) [.asg (.n 13) (.ix (.lst [(.str [62]), (.str [62, 61]), (.str [61])]) (.op .mod (.bi .int [(.ix (.pk 9) (.pk 12))]) (.int 3))), .ite (.and (.cmp .eq (.pk 2) (.int 0)) (.cmp .eq (.pk 13) (.str [62]))) [.asg (.n 13) (.str [62, 61])] [], .asg (.n 14) (.ix (.ix (.lst [(.lst [(.int 1), (.int 1), (.int 2), (.int 9)]), (.lst [(.int 0), (.int 0), (.int 1), (.int 7)]), (.lst [(.int 0), (.int 0), (.int 0), (.int 0)])]) (.mt .index (.lst [(.str [62]), (.str [62, 61]), (.str [61])]) [(.pk 13)])) (.bi .int [(.op .fdiv (.ix (.pk 9) (.pk 12)) (.int 3))])), .asg (.n 15) (.ix (.ix (.lst [(.lst [(.int 0), (.int 0), (.neg (.int 1)), (.int 0)]), (.lst [(.neg (.int 1)), (.neg (.int 1)), (.neg (.int 2)), (.neg (.int 1))]), (.lst [(.int 1), (.neg (.int 1)), (.int 1), (.neg (.int 1))])]) (.mt .index (.lst [(.str [62]), (.str [62, 61]), (.str [61])]) [(.pk 13)])) (.bi .int [(.op .fdiv (.ix (.pk 9) (.pk 12)) (.int 3))])), .asg (.n 16) (.slT (.v 8) (some (.op .mul (.pk 12) (.pk 2))) (some (.op .add (.op .mul (.pk 12) (.pk 2)) (.pk 2)))), .app (.pk 10) (.call 19 [(.v 13), (.v 16), (.v 6), (.v 7), (.v 14)]), .app (.pk 11) (.call 19 [(.v 13), (.v 16), (.v 6), (.v 7), (.v 15)])],
  .ret (.tup [(.fl (.pk 2)), (.v 10), (.v 6), (.v 11)])]⟩
/-- _law_fit_right -/
def f21 : Z.Fn := ⟨5, 9, [], [], 100, [
  .ite (.or (.nt (.call 12 [(.v 0), (.v 1), (.v 2)])) (.nt (.call 12 [(.v 0), (.lst []), (.v 2)]))) [.ret (.bl false)] [],
  .asg (.n 5) (.lc (.tup [(.ix (.v 8) (.int 0)), (.catT (.ix (.v 8) (.int 1)) (.tup [(.int 0)]))]) (.n 8) (.v 1) []),
  .fr (.n 6) (.lst [(.lst []), (.lst [(.int 0)]), (.lst [(.int 0), (.int 0)]), (.lst [(.int 5)]), (.lst [(.neg (.int 7))])]) [.ite (.nt (.call 12 [(.op .add (.pk 0) (.int 1)), (.v 5), (.cat (.v 2) (.v 6))])) [.ret (.bl false)] []],
  .ite (.nt (.call 12 [(.v 0), (.v 1), (.cat (.v 2) (.lst [(.int 0)]))])) [.ret (.bl false)] [],
  .ite (.cmp .eq (.pk 0) (.int 0)) [.ret (.call 12 [(.int 0), (.call 14 [(.v 1), (.v 4), (.tup [(.str [62]), (.tup [])])]), (.lst [])])] [],
  .fr (.n 7) (.rg (.bi .len [(.pk 1)])) [.ite (.or (.cmp .lt (.bi .len [(.pk 1)]) (.int 9)) (.or (.cmp .eq (.pk 7) (.pk 4)) (.or (.cmp .eq (.pk 7) (.int 0)) (.or (.cmp .eq (.pk 7) (.op .sub (.bi .len [(.pk 1)]) (.int 1))) (.cmp .eq (.pk 7) (.op .mul (.int 2) (.pk 4))))))) [.ite (.nt (.call 12 [(.v 0), (.cat (.cat (.slT (.v 1) none (some (.pk 7))) (.lst [(.ix (.v 3) (.pk 7))])) (.slT (.v 1) (some (.op .add (.pk 7) (.int 1))) none)), (.v 2)])) [.ret (.bl false)] []] []],
  .ret (.bl true)]⟩
/-- law -/
def f22 : Z.Fn := ⟨1, 9, [], [], 100, [
  .asg (.n 1) (.call 5 [(.v 0), (.int 0), (.int 16), (.int 2520)]),
  .asg (.n 2) (.call 13 [(.v 0), (.v 1)]),
  .asg (.n 3) (.ix (.v 2) (.int 0)),
  .asg (.n 4) (.ix (.v 2) (.int 1)),
  .asg (.n 5) (.ix (.v 2) (.int 2)),
  .asg (.n 6) (.ix (.v 2) (.int 3)),
  .asg (.n 7) (.op .mod (.bi .int [(.ix (.pk 1) (.int 13))]) (.op .add (.bi .len [(.pk 4)]) (.int 1))),
  .ite (.or (.nt (.call 11 [(.v 3), (.v 4), (.v 5)])) (.nt (.call 15 [(.v 3), (.v 4), (.v 5), (.v 7)]))) [.ret (.bl false)] [],
  .ite (.or (.nt (.call 16 [(.v 3), (.v 4), (.v 5), (.v 7), (.v 6)])) (.nt (.call 16 [(.v 3), (.v 4), (.v 5), (.v 7), (.op .mod (.bi .int [(.ix (.pk 1) (.int 14))]) (.bi .len [(.pk 4)]))]))) [.ret (.bl false)] [],
  .ite (.or (.nt (.call 17 [(.v 3), (.v 4), (.v 5), (.v 6)])) (.nt (.call 18 [(.v 3), (.v 4), (.v 5), (.v 6)]))) [.ret (.bl false)] [],
  .asg (.n 8) (.call 20 [(.v 0), (.v 1)]),
  .asg (.n 7) (.op .mod (.bi .int [(.ix (.pk 1) (.int 15))]) (.op .add (.bi .len [(.ix (.pk 8) (.int 1))]) (.int 1))),
  .ret (.call 21 [(.ix (.v 8) (.int 0)), (.ix (.v 8) (.int 1)), (.ix (.v 8) (.int 2)), (.ix (.v 8) (.int 3)), (.v 7)])]⟩
def ds : List Z.Df := [
  ⟨⟨("value", none), "value", "value", defArgs (top 1), defBody (top 1), defScope (top 1), [], []⟩, ["row", "numbers", "entry", "number"], ["row", "numbers"], f0⟩,
  ⟨⟨("holds", none), "holds", "holds", defArgs (top 2), defBody (top 2), defScope (top 2), [], []⟩, ["line", "numbers", "amount"], ["line", "numbers"], f1⟩,
  ⟨⟨("fits", none), "fits", "fits", defArgs (top 3), defBody (top 3), defScope (top 3), [], []⟩, ["count", "lines", "numbers", "line"], ["count", "lines", "numbers"], f2⟩,
  ⟨⟨("balances", none), "balances", "balances", defArgs (top 4), defBody (top 4), defScope (top 4), [], []⟩, ["count", "lines", "times", "strict", "unknown", "line", "amount"], ["count", "lines", "times"], f3⟩,
  ⟨⟨("_law_cell", none), "_law_cell", "_law_cell", defArgs (top 6), defBody (top 6), defScope (top 6), [], []⟩, ["script", "k"], ["script", "k"], f4⟩,
  ⟨⟨("_law_many", none), "_law_many", "_law_many", defArgs (top 7), defBody (top 7), defScope (top 7), [], []⟩, ["script", "k", "many", "limit", "cell", "left", "found", "turn", "mixed"], ["script", "k", "many", "limit"], f5⟩,
  ⟨⟨("_law_value", none), "_law_value", "_law_value", defArgs (top 8), defBody (top 8), defScope (top 8), [], []⟩, ["row", "numbers", "at"], ["row", "numbers"], f6⟩,
  ⟨⟨("_law_says", none), "_law_says", "_law_says", defArgs (top 9), defBody (top 9), defScope (top 9), [], []⟩, ["told", "due"], ["told", "due"], f7⟩,
  ⟨⟨("_law_true", none), "_law_true", "_law_true", defArgs (top 10), defBody (top 10), defScope (top 10), [], []⟩, ["sign", "amount"], ["sign", "amount"], f8⟩,
  ⟨⟨("_law_fits", none), "_law_fits", "_law_fits", defArgs (top 11), defBody (top 11), defScope (top 11), [], []⟩, ["count", "lines", "numbers", "line"], ["count", "lines", "numbers"], f9⟩,
  ⟨⟨("_law_balances", none), "_law_balances", "_law_balances", defArgs (top 12), defBody (top 12), defScope (top 12), [], []⟩, ["count", "lines", "times", "more", "at", "unknown"], ["count", "lines", "times"], f10⟩,
  ⟨⟨("_law_balance_judged", none), "_law_balance_judged", "_law_balance_judged", defArgs (top 13), defBody (top 13), defScope (top 13), [], []⟩, ["count", "lines", "times", "handed", "amounts", "due"], ["count", "lines", "times"], f11⟩,
  ⟨⟨("_law_fit_judged", none), "_law_fit_judged", "_law_fit_judged", defArgs (top 14), defBody (top 14), defScope (top 14), [], []⟩, ["count", "lines", "numbers", "handed", "told", "due"], ["count", "lines", "numbers"], f12⟩,
  ⟨⟨("_law_system", none), "_law_system", "_law_system", defArgs (top 15), defBody (top 15), defScope (top 15), [], []⟩, ["script", "shape", "count", "many", "limit", "unit", "more", "single", "entries", "picks", "amounts", "lines", "sums", "at", "sign", "moved", "place", "row", "x", "k"], ["script", "shape"], f13⟩,
  ⟨⟨("_law_put", none), "_law_put", "_law_put", defArgs (top 16), defBody (top 16), defScope (top 16), [], []⟩, ["row", "at", "one"], ["row", "at", "one"], f14⟩,
  ⟨⟨("_law_times_counted", none), "_law_times_counted", "_law_times_counted", defArgs (top 17), defBody (top 17), defScope (top 17), [], []⟩, ["count", "lines", "times", "at", "nothing", "more", "sign", "wide", "one", "x"], ["count", "lines", "times", "at"], f15⟩,
  ⟨⟨("_law_twice", none), "_law_twice", "_law_twice", defArgs (top 18), defBody (top 18), defScope (top 18), [], []⟩, ["count", "lines", "times", "at", "other", "sign", "wide", "amounts"], ["count", "lines", "times", "at", "other"], f16⟩,
  ⟨⟨("_law_says_more", none), "_law_says_more", "_law_says_more", defArgs (top 19), defBody (top 19), defScope (top 19), [], []⟩, ["count", "lines", "times", "place", "sign", "x"], ["count", "lines", "times", "place"], f17⟩,
  ⟨⟨("_law_each_unknown", none), "_law_each_unknown", "_law_each_unknown", defArgs (top 20), defBody (top 20), defScope (top 20), [], []⟩, ["count", "lines", "times", "place", "row", "unknown", "by", "other", "changed"], ["count", "lines", "times", "place"], f18⟩,
  ⟨⟨("_law_line", none), "_law_line", "_law_line", defArgs (top 21), defBody (top 21), defScope (top 21), [], []⟩, ["sign", "row", "numbers", "place", "amount", "other", "at"], ["sign", "row", "numbers", "place", "amount"], f19⟩,
  ⟨⟨("_law_fitting", none), "_law_fitting", "_law_fitting", defArgs (top 22), defBody (top 22), defScope (top 22), [], []⟩, ["script", "shape", "count", "many", "wide", "near", "numbers", "place", "entries", "picks", "lines", "broken", "at", "sign", "above", "below", "row", "x"], ["script", "shape"], f20⟩,
  ⟨⟨("_law_fit_right", none), "_law_fit_right", "_law_fit_right", defArgs (top 23), defBody (top 23), defScope (top 23), [], []⟩, ["count", "lines", "numbers", "broken", "at", "wide", "more", "place", "line"], ["count", "lines", "numbers", "broken", "at"], f21⟩,
  ⟨⟨("law", none), "law", "law", defArgs (top 24), defBody (top 24), defScope (top 24), [], []⟩, ["script", "shape", "system", "count", "lines", "times", "place", "at", "fitting"], ["script"], f22⟩]
def prog : Z.Prog := ⟨[f0, f1, f2, f3, f4, f5, f6, f7, f8, f9, f10, f11, f12, f13, f14, f15, f16, f17, f18, f19, f20, f21, f22], [], fun _ _ => false⟩
def lw (K : PySem.W.Frag) : Z.Lw := ⟨⟨K, prog, fun _ => 0, fun _ => []⟩, ["value", "holds", "fits", "balances", "_law_cell", "_law_many", "_law_value", "_law_says", "_law_true", "_law_fits", "_law_balances", "_law_balance_judged", "_law_fit_judged", "_law_system", "_law_put", "_law_times_counted", "_law_twice", "_law_says_more", "_law_each_unknown", "_law_line", "_law_fitting", "_law_fit_right", "law"], []⟩
def fa : List He.Fa := ds.map (fun D => .glo D.d.name) ++ Z.blt.map .free
abbrev loose : List Str := (["value", "holds", "fits", "balances", "_law_cell", "_law_many", "_law_value", "_law_says", "_law_true", "_law_fits", "_law_balances", "_law_balance_judged", "_law_fit_judged", "_law_system", "_law_put", "_law_times_counted", "_law_twice", "_law_says_more", "_law_each_unknown", "_law_line", "_law_fitting", "_law_fit_right"] : List Str)
abbrev vw : List Nat := [24]
theorem sc : ds.all (fun D => Z.scB D.N D.ps D.d.scope) = true := by kernel_rfl
theorem ck (K : PySem.W.Frag) : ds.all (Z.ckD (lw K) 200) = true := by kernel_rfl
theorem pl : ds.all Z.plainD = true := by kernel_rfl
theorem pl2 : ds.all (fun D => decide (D.d.at_.1 = D.d.name)) = true := by kernel_rfl
theorem bd : ∀ D ∈ ds, Z.BindB D := by
  intro D hD
  simp only [ds, List.mem_cons, List.not_mem_nil, or_false] at hD
  rcases hD with rfl | rfl | rfl | rfl | rfl | rfl | rfl | rfl | rfl | rfl | rfl | rfl | rfl | rfl | rfl | rfl | rfl | rfl | rfl | rfl | rfl | rfl | rfl
  · exact fun _ _ _ _ _ _ us hl => match us, hl with | [_, _], _ => rfl
  · exact fun _ _ _ _ _ _ us hl => match us, hl with | [_, _], _ => rfl
  · exact fun _ _ _ _ _ _ us hl => match us, hl with | [_, _, _], _ => rfl
  · exact fun _ _ _ _ _ _ us hl => match us, hl with | [_, _, _], _ => rfl
  · exact fun _ _ _ _ _ _ us hl => match us, hl with | [_, _], _ => rfl
  · exact fun _ _ _ _ _ _ us hl => match us, hl with | [_, _, _, _], _ => rfl
  · exact fun _ _ _ _ _ _ us hl => match us, hl with | [_, _], _ => rfl
  · exact fun _ _ _ _ _ _ us hl => match us, hl with | [_, _], _ => rfl
  · exact fun _ _ _ _ _ _ us hl => match us, hl with | [_, _], _ => rfl
  · exact fun _ _ _ _ _ _ us hl => match us, hl with | [_, _, _], _ => rfl
  · exact fun _ _ _ _ _ _ us hl => match us, hl with | [_, _, _], _ => rfl
  · exact fun _ _ _ _ _ _ us hl => match us, hl with | [_, _, _], _ => rfl
  · exact fun _ _ _ _ _ _ us hl => match us, hl with | [_, _, _], _ => rfl
  · exact fun _ _ _ _ _ _ us hl => match us, hl with | [_, _], _ => rfl
  · exact fun _ _ _ _ _ _ us hl => match us, hl with | [_, _, _], _ => rfl
  · exact fun _ _ _ _ _ _ us hl => match us, hl with | [_, _, _, _], _ => rfl
  · exact fun _ _ _ _ _ _ us hl => match us, hl with | [_, _, _, _, _], _ => rfl
  · exact fun _ _ _ _ _ _ us hl => match us, hl with | [_, _, _, _], _ => rfl
  · exact fun _ _ _ _ _ _ us hl => match us, hl with | [_, _, _, _], _ => rfl
  · exact fun _ _ _ _ _ _ us hl => match us, hl with | [_, _, _, _, _], _ => rfl
  · exact fun _ _ _ _ _ _ us hl => match us, hl with | [_, _], _ => rfl
  · exact fun _ _ _ _ _ _ us hl => match us, hl with | [_, _, _, _, _], _ => rfl
  · exact fun _ _ _ _ _ _ us hl => match us, hl with | [_], _ => rfl
end LW

namespace LW
open PySem PySem.Spec L2 PyProof.Rows
abbrev R : PySem.W.OpenRow := PySem.W.OpenLaw.row PySem.Challenge.rw_scalesfound_k07_judges_of_fit_one_condit
abbrev hk : PySem.W.Hook := Z.hookZ 5 fa (ds.map (·.d))
def ob (s : PySem.W.SharedT) : He.AlD := Z.obsZ 5 fa (ds.map (·.d)) (HandSHeadRun.getT s)
theorem ob_eq (s : PySem.W.SharedT) : ob s = hk.obs s.abs := Z.obsZ_eq (HandSHeadRun.getT_eq s)
theorem headRun (w : World) : HandSHeadRun.RunEq R (PySem.W.view R.prog vw) hk ob 3000 loose w := by
  intro os
  kernel_rfl
end LW

namespace LW
open Z
/-- a row: a list or a tuple of numbers -/
def Row (d : D) (l : List Int) : Prop := d = .lst (l.map .int) ∨ d = .tup (l.map .int)
theorem Row.it {d : D} {l : List Int} (h : Row d l) : Z.items d = some (l.map .int) := by
  rcases h with rfl | rfl <;> rfl
theorem zip_ints : ∀ (a b : List Int), zipD (a.map D.int) (b.map D.int) = (List.zip a b).map fun p => D.tup [.int p.1, .int p.2]
  | [], b => by simp [zipD]
  | _ :: _, [] => by simp [zipD]
  | x :: a, y :: b => by simp [zipD, zip_ints a b]
theorem r_value {n : Nat} {o : List Ob} {a b : List Int} {d : D} (hd : Row d a) (hs : ∀ x ∈ a, small x) (hl : a.length ≤ 1000) :
    run prog (n + 1) 0 [d, .lst (b.map .int)] o = .ok (.int (dot a b)) [] o := by
  rw [run_eq (fn := f0) rfl]
  simp only [callFn, f0, List.length_cons, List.length_nil, if_true, exs_cons, ex_ret, ev_bi, evL_cons, evL_nil, ev_lc, ev_zp, ev_v, get_mk, List.replicate, List.cons_append, List.nil_append, List.getElem?_cons_zero, List.getElem?_cons_succ, R.lift_some, R.bind_ok, hd.it, items_lst, Option.bind_some, Option.map_some, zip_ints, items_itr]
  rw [lc_map (g := fun p : Int × Int => D.int (p.1 * p.2))]
  · have e1 : ((List.zip a b).map fun p : Int × Int => D.int (p.1 * p.2)) = (List.zipWith (· * ·) a b).map D.int := by
      rw [← List.map_uncurry_zip_eq_zipWith, List.map_map]; rfl
    rw [e1]
    have hlen : ((List.zipWith (· * ·) a b).map D.int).length ≤ LIM := by
      simp only [List.length_map, List.length_zipWith]
      exact lim_of (by omega)
    simp only [R.nox_ok, R.bind_ok, guardL_le hlen, R.lift_some, sum_l, R.st_ok, RS.seq_rt]
    rfl
  · intro p hp
    have hx : small p.1 := hs _ (List.of_mem_zip hp).1
    refine turn_2 (by simp) (by simp) (by decide) ?_
    simp [op_mul_l hx]
theorem r_cell {n : Nat} {o : List Ob} {ns : List Int} {k : Int} (hk : 0 ≤ k) : ∃ c, run prog (n + 1) 4 [.lst (ns.map .int), .int k] o = .ok (.int c) [] o := by
  rw [run_eq (fn := f4) rfl]
  simp only [callFn, f4]
  have e1 : (1000003 : Int).natAbs < 2 ^ 64 := by decide
  by_cases h1 : k < (ns.length : Int)
  · have : getI (ns.map D.int) k = some (D.int (ns[k.toNat]'(by omega))) := by
      have := getI_nat (xs := ns.map D.int) (k := k.toNat) (by simp; omega)
      rw [show ((k.toNat : Nat) : Int) = k by omega] at this
      rw [this]; simp
    simp [h1, this, ends, outsOf]
  · by_cases h2 : (0 : Int) < ns.length
    · have h3 : (ns.length : Int) ≠ 0 := by omega
      have hm0 := Int.fmod_nonneg_of_pos k h2
      have hm1 := Int.fmod_lt_of_pos k h2
      have : getI (ns.map D.int) (k.fmod ns.length) = some (D.int (ns[(k.fmod ns.length).toNat]'(by omega))) := by
        have := getI_nat (xs := ns.map D.int) (k := (k.fmod ns.length).toNat) (by simp; omega)
        rw [show (((k.fmod ns.length).toNat : Nat) : Int) = k.fmod ns.length by omega] at this
        rw [this]; simp
      have h2' : 0 < ns.length := by omega
      simp [h1, h2', op_mod_i h3, this, op_mul_l e1, ends, outsOf]
    · have h2' : ¬ 0 < ns.length := by omega
      simp [h1, h2', ends, outsOf]
def bA : List Z.S := [.app (.pk 6) (.op .mod (.bi .int [(.pk 5)]) (.pk 3)), .asg (.n 5) (.op .fdiv (.pk 5) (.pk 3))]
def bB : List Z.S := [.asg (.n 8) (.op .mod (.bi .int [(.op .add (.op .add (.op .add (.op .mul (.pk 4) (.int 48271)) (.op .mul (.pk 7) (.int 69621))) (.op .mul (.int 17) (.pk 1))) (.int 11))]) (.int 2147483647)), .asg (.n 8) (.op .mod (.bi .int [(.op .add (.op .add (.op .mul (.pk 8) (.pk 8)) (.op .mul (.pk 7) (.int 40692))) (.int 3))]) (.int 2147483399)), .asg (.n 8) (.op .mod (.bi .int [(.op .add (.op .add (.op .mul (.pk 8) (.pk 8)) (.op .mul (.pk 7) (.int 7))) (.pk 1))]) (.int 2147483579)), .app (.pk 6) (.op .mod (.bi .int [(.op .fdiv (.pk 8) (.int 64))]) (.pk 3))]
def bC : C := .and (.cmp .ge (.bi .abs [(.pk 4)]) (.op .pow (.int 10) (.int 18))) (.cmp .gt (.pk 5) (.int 0))
theorem r_many {n : Nat} {o : List Ob} {ns : List Int} {k many limit : Int} (hk : 0 ≤ k) (hk2 : k ≤ 1000) (hm : 0 ≤ many) (hm2 : many ≤ 1000) (hl : 0 < limit) (hl2 : limit < 1073741824) :
    ∃ l : List Int, run prog (n + 2) 5 [.lst (ns.map .int), .int k, .int many, .int limit] o = .ok (.lst (l.map .int)) [] o ∧ l.length = many.toNat ∧ ∀ x ∈ l, 0 ≤ x ∧ x < limit := by
  obtain ⟨c, hc⟩ := r_cell (n := n) (o := o) (ns := ns) hk
  rw [run_eq (fn := f5) rfl]
  have hcall : ∀ e : Env, e.o = o → callR (run prog (n + 1)) 4 [C.v 0, C.v 1] [D.lst (ns.map .int), D.int k] e = .ok (.int c) e := fun e he => by
    rw [callR_ok (by rw [he]; exact hc)]
    cases e; simp_all
  have hrg := rg_ok (n := many) (by omega) hm
  have hlim : limit ≠ 0 := by omega
  have hlim2 : limit.natAbs < 1073741824 := by omega
  have inv := for_inv (t := .n 7) (b := exs prog.gl (run prog (n + 1)) prog.sub [.ite bC bA bB])
    (fun i e => ∃ (left : Int) (l : List Int) (d7 d8 : D), e = ⟨[.lst (ns.map .int), .int k, .int many, .int limit, .int c, .int left, .lst (l.map .int), d7, d8], o⟩ ∧ 0 ≤ left ∧ l.length = i ∧ ∀ x ∈ l, 0 ≤ x ∧ x < limit) (xs := rangeD 0 many.toNat) (k := 0) (e := ⟨[.lst (ns.map .int), .int k, .int many, .int limit, .int c, .int (if c < 0 then -c else c), .lst [], .non, .non], o⟩)
    ⟨_, [], _, _, rfl, by split <;> omega, rfl, by simp⟩ ?_
  · obtain ⟨e', h1, left, l, d7, d8, rfl, h2, h3, h4⟩ := inv
    refine ⟨l, ?_, by simpa [rangeD] using h3, h4⟩
    unfold bA bB bC at h1
    simp [callFn, f5, hcall, hrg]
    rw [h1]
    simp [ends, outsOf]
  · rintro i x e hx ⟨left, l, d7, d8, rfl, h2, h3, h4⟩
    obtain ⟨rfl, hi⟩ := rangeD_get hx
    have hll : (l.map D.int).length < LIM := by simp; exact Nat.lt_of_lt_of_le (by omega : l.length < 1001) (by decide)
    -- the branches
    have A : ∀ d7 d8, exs prog.gl (run prog (n + 1)) prog.sub bA ⟨[.lst (ns.map .int), .int k, .int many, .int limit, .int c, .int left, .lst (l.map .int), d7, d8], o⟩ = .nx ⟨[.lst (ns.map .int), .int k, .int many, .int limit, .int c, .int (left.fdiv limit), .lst ((l ++ [left.fmod limit]).map .int), d7, d8], o⟩ := fun d7 d8 => by
      simp [bA, op_mod_i hlim]
      rw [app_ok (by simp) hll]
      simp [op_div_i hlim hlim2]
    have B : ∀ (j : Int) d8, j.natAbs < 2 ^ 64 → ∃ (y m : Int), (0 ≤ y ∧ y < limit) ∧ exs prog.gl (run prog (n + 1)) prog.sub bB ⟨[.lst (ns.map .int), .int k, .int many, .int limit, .int c, .int left, .lst (l.map .int), .int j, d8], o⟩ = .nx ⟨[.lst (ns.map .int), .int k, .int many, .int limit, .int c, .int left, .lst ((l ++ [y]).map .int), .int j, .int m], o⟩ := fun j d8 hj => by
      have e1 : (48271 : Int).natAbs < 2 ^ 64 := by decide
      have e2 : (69621 : Int).natAbs < 2 ^ 64 := by decide
      have e3 : (17 : Int).natAbs < 2 ^ 64 := by decide
      have e4 : (40692 : Int).natAbs < 2 ^ 64 := by decide
      have e5 : (7 : Int).natAbs < 2 ^ 64 := by decide
      have f1 : ∀ y : Int, (y.fmod 2147483647).natAbs < 2 ^ 64 := fun y => by
        have := Int.fmod_nonneg_of_pos y (show (0 : Int) < 2147483647 by decide)
        have := Int.fmod_lt_of_pos y (show (0 : Int) < 2147483647 by decide)
        omega
      have f2 : ∀ y : Int, (y.fmod 2147483399).natAbs < 2 ^ 64 := fun y => by
        have := Int.fmod_nonneg_of_pos y (show (0 : Int) < 2147483399 by decide)
        have := Int.fmod_lt_of_pos y (show (0 : Int) < 2147483399 by decide)
        omega
      have e6 : (64 : Int).natAbs < 1073741824 := by decide
      let m1 := (c * 48271 + j * 69621 + 17 * k + 11).fmod 2147483647
      let m2 := (m1 * m1 + j * 40692 + 3).fmod 2147483399
      let m3 := (m2 * m2 + j * 7 + k).fmod 2147483579
      refine ⟨(m3.fdiv 64).fmod limit, m3, ⟨Int.fmod_nonneg_of_pos _ hl, Int.fmod_lt_of_pos _ hl⟩, ?_⟩
      simp only [bB, exs_cons, ex_asg, ev_op, ev_bi, evL_cons, evL_nil, ev_pk, ev_int, get_mk, List.getElem?_cons_zero, List.getElem?_cons_succ, R.lift_some, R.bind_ok, R.st_ok, op_mul_r e1, op_mul_r e2, op_mul_l e3, op_mul_r e4, op_mul_r e5, op_add_i, int_i, op_mod_i (show (2147483647 : Int) ≠ 0 by decide), op_mod_i (show (2147483399 : Int) ≠ 0 by decide), op_mod_i (show (2147483579 : Int) ≠ 0 by decide), asg_n, set_mk, List.set_cons_zero, List.set_cons_succ, RS.seq_nx, op_mul_l (f1 _), op_mul_l (f2 _), ex_app, evP_pk, Option.bind_some, getP_nil, op_div_i (show (64 : Int) ≠ 0 by decide) e6, op_mod_i hlim, exs_nil]
      rw [app_ok rfl hll]
      simp only [List.set_cons_zero, List.set_cons_succ, RS.seq_nx, exs_nil, List.map_append, List.map_cons, List.map_nil, m1, m2, m3]
    have hj : ((0 : Int) + (i : Nat)).natAbs < 2 ^ 64 := by omega
    by_cases g : (1000000000000000000 : Int) ≤ (if c < 0 then -c else c) ∧ 0 < left
    · refine ⟨_, _, rfl, .inl ?_, left.fdiv limit, l ++ [left.fmod limit], .int (0 + (i : Nat)), d8, rfl, Int.fdiv_nonneg h2 (by omega), by simp [h3], ?_⟩
      · obtain ⟨g1, g2⟩ := g
        simp only [exs_cons, ex_ite, bC, set_mk, List.set_cons_zero, List.set_cons_succ]
        simp [pow18, g1, g2]
        have := A (.int i) d8
        simp at this
        rw [this]
        simp
      · intro x hx
        rcases List.mem_append.mp hx with h | h
        · exact h4 x h
        · simp at h; subst h
          exact ⟨Int.fmod_nonneg_of_pos _ hl, Int.fmod_lt_of_pos _ hl⟩
    · obtain ⟨y, m, hy, hB⟩ := B (0 + (i : Nat)) d8 hj
      refine ⟨_, _, rfl, .inl ?_, left, l ++ [y], .int (0 + (i : Nat)), .int m, rfl, h2, by simp [h3], ?_⟩
      · have hc' : ev prog.gl (run prog (n + 1)) bC ⟨[.lst (ns.map .int), .int k, .int many, .int limit, .int c, .int left, .lst (l.map .int), .int (0 + (i : Nat)), d8], o⟩ = .ok (.bl false) ⟨[.lst (ns.map .int), .int k, .int many, .int limit, .int c, .int left, .lst (l.map .int), .int (0 + (i : Nat)), d8], o⟩ := by
          by_cases g1 : (1000000000000000000 : Int) ≤ (if c < 0 then -c else c)
          · have g2 : ¬ 0 < left := fun z => g ⟨g1, z⟩
            simp [bC, pow18, g1, g2]
          · simp [bC, pow18, g1]
        simp only [exs_cons, ex_ite, set_mk, List.set_cons_zero, List.set_cons_succ, hc', R.st_ok, truth_bl, hB, RS.seq_nx, exs_nil]
      · intro x hx
        rcases List.mem_append.mp hx with h | h
        · exact h4 x h
        · simp at h; subst h; exact hy
end LW

namespace LW
open Z
abbrev GT : Txt := [62]
abbrev GE : Txt := [62, 61]
abbrev EQ : Txt := [61]
def Sg (s : Txt) : Prop := s = GT ∨ s = GE ∨ s = EQ
def trueI (s : Txt) (a : Int) : Bool := if s = GT then decide (0 < a) else if s = GE then decide (0 ≤ a) else a == 0
def tupI (l : List Int) : D := .tup (l.map .int)
/-- a line -/
abbrev Ln := Txt × List Int
def LD (p : Ln) : D := .tup [.str p.1, tupI p.2]
structure LnOk (c : Nat) (p : Ln) : Prop where
  sg : Sg p.1
  len : p.2.length = c
  sm : ∀ x ∈ p.2, small x
theorem r_says {n : Nat} {o : List Ob} {b : Bool} : run prog (n + 1) 7 [.bl b, .bl b] o = .ok (.bl true) [] o := by
  rw [run_eq (fn := f7) rfl]
  cases b <;> simp [callFn, f7, cp, isD, ends, outsOf]
theorem r_holds {n : Nat} {o : List Ob} {c : Nat} {p : Ln} {b : List Int} (h : LnOk c p) (hl : c ≤ 1000) :
    run prog (n + 2) 1 [LD p, .lst (b.map .int)] o = .ok (.bl (trueI p.1 (dot p.2 b))) [] o := by
  obtain ⟨s, l⟩ := p
  rw [run_eq (fn := f1) rfl]
  have hl2 : l.length ≤ 1000 := by have := h.len; simp at this; omega
  have := callR_ok (k := run prog (n + 1)) (f := 0) (as := [C.ix (.v 0) (.int 1), .v 1]) (xs := [tupI l, .lst (b.map .int)]) (e := ⟨[.tup [.str s, tupI l], .lst (b.map .int), .non], o⟩) (r_value (n := n) (.inr rfl) h.sm hl2)
  have h0 : getI [D.str s, tupI l] 1 = some (tupI l) := rfl
  have h1 : getI [D.str s, tupI l] 0 = some (.str s) := rfl
  have hs := h.sg
  simp only [LD] at *
  rcases hs with rfl | rfl | rfl <;> simp [callFn, f1, this, h0, h1, ends, outsOf, trueI, GT, GE, EQ]
theorem r_true {n : Nat} {o : List Ob} {s : Txt} {a : Int} (hs : Sg s) : run prog (n + 1) 8 [.str s, .int a] o = .ok (.bl (trueI s a)) [] o := by
  rw [run_eq (fn := f8) rfl]
  rcases hs with rfl | rfl | rfl <;> simp [callFn, f8, ends, outsOf, trueI, GT, GE, EQ]
theorem dot_range (l b : List Int) (h : l.length ≤ b.length) : (List.range l.length).map (fun k => l.getD k 0 * b.getD k 0) = List.zipWith (· * ·) l b := by
  refine List.ext_getElem (by simp; omega) fun i h1 h2 => ?_
  simp at h1
  have h3 : i < b.length := by omega
  simp [h1, h3]
theorem r_lawvalue {n : Nat} {o : List Ob} {l b : List Int} {d : D} (hd : Row d l) (hs : ∀ x ∈ l, small x) (hl : l.length ≤ 1000) (hb : l.length ≤ b.length) :
    run prog (n + 1) 6 [d, .lst (b.map .int)] o = .ok (.int (dot l b)) [] o := by
  rw [run_eq (fn := f6) rfl]
  have hlen : b1 .len [d] = some (.int l.length) := by rcases hd with rfl | rfl <;> simp
  simp only [callFn, f6, List.length_cons, List.length_nil, if_true, List.replicate, List.cons_append, List.nil_append, exs_cons, ex_ret, ev_bi, evL_cons, evL_nil, ev_lc, ev_rg, ev_pk, get_mk, List.getElem?_cons_zero, R.lift_some, R.bind_ok, hlen, rg_nat (show l.length ≤ 100000 by omega), items_itr]
  rw [lc_map (g := fun k : Nat => D.int (l.getD k 0 * b.getD k 0))]
  · have e1 : ((List.range l.length).map fun k => D.int (l.getD k 0 * b.getD k 0)) = (List.zipWith (· * ·) l b).map D.int := by
      rw [← dot_range l b hb, List.map_map]; rfl
    rw [e1]
    have h2 : ((List.zipWith (· * ·) l b).map D.int).length ≤ LIM := by
      simp only [List.length_map, List.length_zipWith]
      exact lim_of (by omega)
    simp only [R.nox_ok, R.bind_ok, guardL_le h2, R.lift_some, sum_l, R.st_ok, RS.seq_rt]
    rfl
  · intro k hk
    have hk : k < l.length := by simpa using hk
    have hkb : k < b.length := by omega
    have hx : small (l.getD k 0) := hs _ (by simp [hk])
    have g1 : opIx d (.int (k : Int)) = some (.int (l.getD k 0)) := by
      rcases hd with rfl | rfl <;> simp [get_nat (F := D.int) (d := 0) hk]
    have g2 : opIx (.lst (b.map .int)) (.int (k : Int)) = some (.int (b.getD k 0)) := by
      simp [get_nat (F := D.int) (d := 0) hkb]
    refine turn_n (by simp) ?_
    simp only [evT_nil, R.bind_ok, if_true, ev_op, ev_ix, ev_pk, set_mk, get_mk, List.set_cons_zero, List.set_cons_succ, List.getElem?_cons_zero, List.getElem?_cons_succ, R.lift_some, g1, g2, op_mul_l hx]
/-! ### fits -/
def fitB (c : Nat) (L : List Ln) (b : List Int) : Bool := decide (b.length = c) && L.all fun p => trueI p.1 (dot p.2 b)
theorem r_fits {n : Nat} {o : List Ob} {c : Nat} {L : List Ln} {b : List Int} (h : ∀ p ∈ L, LnOk c p) (hc : c ≤ 1000) (hL : L.length ≤ 1000) :
    run prog (n + 3) 2 [.int c, .lst (L.map LD), .lst (b.map .int)] o = .ok (.bl (fitB c L b)) [] o := by
  rw [run_eq (fn := f2) rfl]
  by_cases hb : b.length = c
  · have z : ev prog.gl (run prog (n + 2)) (.lc (.call 1 [(.v 3), (.v 2)]) (.n 3) (.v 1) []) ⟨[.int c, .lst (L.map LD), .lst (b.map .int), .non], o⟩ = .ok (.lst (L.map fun p => D.bl (trueI p.1 (dot p.2 b)))) ⟨[.int c, .lst (L.map LD), .lst (b.map .int), .non], o⟩ := by
      refine lc_n (l := L) (F := LD) (evv rfl) rfl (by simp) (fun p hp => ?_) (by omega)
      have := callR_ok (k := run prog (n + 2)) (f := 1) (as := [C.v 3, .v 2]) (xs := [LD p, .lst (b.map .int)]) (e := ⟨[.int c, .lst (L.map LD), .lst (b.map .int), LD p], o⟩) (r_holds (n := n) (h p hp) hc)
      simp [this]
    have hd : (L.map fun p => trueI p.1 (dot p.2 b)).all id = fitB c L b := by simp only [fitB, hb, decide_true, Bool.true_and, List.all_map]; rfl
    have e1 : (L.map fun p => D.bl (trueI p.1 (dot p.2 b))) = (L.map fun p => trueI p.1 (dot p.2 b)).map .bl := by rw [List.map_map]; rfl
    rw [e1] at z
    simp only [callFn, f2, List.length_cons, List.length_nil, if_true, List.replicate, List.cons_append, List.nil_append, exs_cons, ex_ret, ev_and, ev_cmp, ev_bi, evL_cons, evL_nil, z, ev_pk, get_mk, List.getElem?_cons_zero, List.getElem?_cons_succ, R.lift_some, R.bind_ok, len_l, List.length_map, hb, cp_eq_i, beq_self_eq_true, Option.map_some, truth_bl, all_l, hd, R.st_ok, RS.seq_rt]
    rfl
  · have hb2 : ((b.length : Int) == (c : Int)) = false := by simp; omega
    have hd : fitB c L b = false := by simp [fitB, hb]
    simp [callFn, f2, hb2, hd, ends, outsOf]
theorem all_filter {α : Type} (l : List α) (p : α → Bool) : (((l.filter fun x => !p x).length : Int) == 0) = l.all p := by
  induction l with
  | nil => rfl
  | cons x l ih =>
    cases h : p x with
    | true => simp only [List.filter_cons, h, Bool.not_true, Bool.false_eq_true, if_false, ih, List.all_cons, Bool.true_and]
    | false =>
      simp only [List.filter_cons, h, Bool.not_false, if_true, List.length_cons, List.all_cons, Bool.false_and, beq_eq_false_iff_ne]
      omega
theorem r_lawfits {n : Nat} {o : List Ob} {c : Nat} {L : List Ln} {b : List Int} (h : ∀ p ∈ L, LnOk c p) (hc : c ≤ 1000) (hL : L.length ≤ 1000) :
    run prog (n + 3) 9 [.int c, .lst (L.map LD), .lst (b.map .int)] o = .ok (.bl (fitB c L b)) [] o := by
  rw [run_eq (fn := f9) rfl]
  by_cases hb : b.length = c
  · have z : ev prog.gl (run prog (n + 2)) (.lc (.v 3) (.n 3) (.v 1) [(.nt (.call 8 [(.ix (.v 3) (.int 0)), (.call 6 [(.ix (.v 3) (.int 1)), (.v 2)])]))]) ⟨[.int c, .lst (L.map LD), .lst (b.map .int), .non], o⟩ = .ok (.lst ((L.filter fun p => !trueI p.1 (dot p.2 b)).map LD)) ⟨[.int c, .lst (L.map LD), .lst (b.map .int), .non], o⟩ := by
      refine lcf_n (l := L) (F := LD) (evv rfl) rfl (by simp) (fun p hp => ?_) (fun p _ _ => by simp) (by omega)
      have hok := h p hp
      have c6 : ∀ as, callR (run prog (n + 2)) 6 as [tupI p.2, .lst (b.map .int)] ⟨[.int c, .lst (L.map LD), .lst (b.map .int), LD p], o⟩ = .ok (.int (dot p.2 b)) ⟨[.int c, .lst (L.map LD), .lst (b.map .int), LD p], o⟩ := fun as => callR_ok (r_lawvalue (n := n + 1) (.inr rfl) hok.sm (by rw [hok.len]; exact hc) (by rw [hok.len]; omega))
      have c8 : ∀ as, callR (run prog (n + 2)) 8 as [.str p.1, .int (dot p.2 b)] ⟨[.int c, .lst (L.map LD), .lst (b.map .int), LD p], o⟩ = .ok (.bl (trueI p.1 (dot p.2 b))) ⟨[.int c, .lst (L.map LD), .lst (b.map .int), LD p], o⟩ := fun as => callR_ok (r_true (n := n + 1) hok.sg)
      have g0 : opIx (LD p) (.int 0) = some (.str p.1) := rfl
      have g1 : opIx (LD p) (.int 1) = some (tupI p.2) := rfl
      simp [g0, g1, c6, c8]
    have hd : (((L.filter fun p => !trueI p.1 (dot p.2 b)).length : Int) == 0) = fitB c L b := by rw [all_filter]; simp only [fitB, hb, decide_true, Bool.true_and]
    simp only [callFn, f9, List.length_cons, List.length_nil, if_true, List.replicate, List.cons_append, List.nil_append, exs_cons, ex_ite, exs_nil, ex_ret, ev_cmp, ev_bi, ev_int, evL_cons, evL_nil, z, ev_pk, get_mk, List.getElem?_cons_zero, List.getElem?_cons_succ, R.lift_some, R.bind_ok, R.st_ok, RS.seq_nx, len_l, List.length_map, hb, cp_ne_i, cp_eq_i, beq_self_eq_true, Bool.not_true, Option.map_some, truth_bl, hd, RS.seq_rt]
    rfl
  · have hb2 : ((b.length : Int) == (c : Int)) = false := by simp; omega
    have hd : fitB c L b = false := by simp [fitB, hb]
    simp [callFn, f9, hb2, hd, ends, outsOf]
theorem data_LD {p : Ln} {n : Nat} (h : Sg p.1) : isDataN (LD p) (n + 2) = true := by
  obtain ⟨s, l⟩ := p
  rcases h with h | h | h <;> (simp only at h; subst h; simp [LD, tupI, isDataN, isDataL, data_ints])
theorem data_L {c : Nat} {L : List Ln} (h : ∀ p ∈ L, LnOk c p) : isData (.lst (L.map LD)) = true := by
  simp only [isData, isDataN, Bool.and_eq_true]
  exact ⟨by decide, dataL_map fun p hp => data_LD (h p hp).sg⟩
theorem r_fitj {n : Nat} {o : List Ob} {c : Nat} {L : List Ln} {b : List Int} (h : ∀ p ∈ L, LnOk c p) (hc : c ≤ 1000) (hL : L.length ≤ 1000) :
    run prog (n + 4) 12 [.int c, .lst (L.map LD), .lst (b.map .int)] o = .ok (.bl true) [] o := by
  rw [run_eq (fn := f12) rfl]
  have c9 : ∀ as st, callR (run prog (n + 3)) 9 as [.int c, .lst (L.map LD), .lst (b.map .int)] ⟨st, o⟩ = .ok (.bl (fitB c L b)) ⟨st, o⟩ := fun as st => callR_ok (r_lawfits (n := n) h hc hL)
  have c2 : ∀ as st, callR (run prog (n + 3)) 2 as [.int c, .lst (L.map LD), .lst (b.map .int)] ⟨st, o⟩ = .ok (.bl (fitB c L b)) ⟨st, o⟩ := fun as st => callR_ok (r_fits (n := n) h hc hL)
  have c7 : ∀ as st (x : Bool), callR (run prog (n + 3)) 7 as [.bl x, .bl x] ⟨st, o⟩ = .ok (.bl true) ⟨st, o⟩ := fun as st x => callR_ok (r_says (n := n + 2))
  have e1 := cp_eq_self (data_L h)
  have e2 := cp_eq_self (data_lint b)
  simp [callFn, f12, c9, c2, c7, e1, e2, ends, outsOf]
end LW

namespace LW
open Z
abbrev LT := Ln × Int
def bad1 (q : LT) : Bool := decide (q.2 < 0) && !(q.1.1 == EQ)
def hot (q : LT) : Bool := decide (0 < q.2) && (q.1.1 == GT)
def colS (Q : List LT) (u : Nat) : Int := (Q.map fun q => q.1.2.getD u 0 * q.2).sum
def balQ (c : Nat) (Q : List LT) : Bool := Q.all (fun q => !bad1 q) && ((List.range c).all fun u => colS Q u == 0) && Q.any hot
def balB (c : Nat) (L : List Ln) (T : List Int) : Bool := decide (T.length = L.length) && balQ c (List.zip L T)
abbrev st7 (a0 a1 a2 a3 a4 a5 a6 : D) (o : List Ob) : Env := ⟨[a0, a1, a2, a3, a4, a5, a6], o⟩
abbrev bal1 : List Z.S := [.ite (.and (.cmp .lt (.pk 6) (.int 0)) (.cmp .ne (.ix (.pk 5) (.int 0)) (.str [61]))) [.ret (.bl false)] [], .ite (.and (.cmp .gt (.pk 6) (.int 0)) (.cmp .eq (.ix (.pk 5) (.int 0)) (.str [62]))) [.asg (.n 3) (.bl true)] []]
abbrev bal2 : List Z.S := [.ite (.cmp .ne (.bi .sum [(.lc (.op .mul (.ix (.ix (.pk 5) (.int 1)) (.pk 4)) (.pk 6)) (.tp [5, 6]) (.zp (.v 1) (.v 2)) [])]) (.int 0)) [.ret (.bl false)] []]
theorem LD0 {p : Ln} : opIx (LD p) (.int 0) = some (.str p.1) := rfl
theorem LD1 {p : Ln} : opIx (LD p) (.int 1) = some (tupI p.2) := rfl
theorem get_tupI {l : List Int} {k : Nat} (h : k < l.length) : opIx (tupI l) (.int (k : Int)) = some (.int (l.getD k 0)) := by
  unfold tupI
  rw [ix_t, get_nat (F := D.int) (d := 0) h]
theorem memzip {L : List Ln} {T : List Int} {q : LT} (h : q ∈ List.zip L T) : q.1 ∈ L := (List.of_mem_zip (a := q.1) (b := q.2) h).1
theorem r_bal {n : Nat} {o : List Ob} {c : Nat} {L : List Ln} {T : List Int} (h : ∀ p ∈ L, LnOk c p) (hc : c ≤ 1000) (hL : L.length ≤ 1000) :
    run prog (n + 1) 3 [.int c, .lst (L.map LD), .lst (T.map .int)] o = .ok (.bl (balB c L T)) [] o := by
  rw [run_eq (fn := f3) rfl]
  by_cases hb : T.length = L.length
  · let Q := List.zip L T
    have hQ : ∀ q ∈ Q, LnOk c q.1 := fun q hq => h _ (memzip hq)
    have hQl : Q.length ≤ 1000 := by simp only [Q, List.length_zip]; omega
    have hbB : balB c L T = balQ c Q := by simp only [balB, hb, decide_true, Bool.true_and]; rfl
    have S1 := for_chk (t := .tp [5, 6]) (b := exs prog.gl (run prog n) prog.sub bal1) (F := fun q : LT => D.tup [LD q.1, .int q.2]) (chk := fun q => !bad1 q) (o := o) (r := .bl false)
      (fun pre e => ∃ a5 a6, e = st7 (.int c) (.lst (L.map LD)) (.lst (T.map .int)) (.bl (pre.any hot)) .non a5 a6 o) (l := Q) (pre := []) (e := st7 (.int c) (.lst (L.map LD)) (.lst (T.map .int)) (.bl false) .non .non .non o) ⟨_, _, rfl⟩ (by
      rintro pre q e ⟨a5, a6, rfl⟩ hq
      refine ⟨st7 (.int c) (.lst (L.map LD)) (.lst (T.map .int)) (.bl (pre.any hot)) .non (LD q.1) (.int q.2) o, rfl, fun hc1 => ?_, fun hc1 => ?_⟩
      · refine ⟨_, ?_, LD q.1, .int q.2, rfl⟩
        simp only [Bool.not_eq_true'] at hc1
        unfold bad1 at hc1
        have hany : (pre ++ [q]).any hot = (pre.any hot || hot q) := by simp
        rw [hany]
        have hh : hot q = (decide (0 < q.2) && (q.1.1 == GT)) := rfl
        by_cases h1 : q.2 < 0
        · have h2 : (q.1.1 == EQ) = true := by simpa [h1] using hc1
          have h3 : ¬ 0 < q.2 := by omega
          simp only [h3, decide_false, Bool.false_and] at hh
          simp [bal1, LD0, h1, h2, h3, hh]
        · by_cases h3 : 0 < q.2
          · simp only [h3, decide_true, Bool.true_and] at hh
            cases h2 : (q.1.1 == GT) <;> (rw [h2] at hh; simp [bal1, LD0, h1, h2, h3, hh])
          · simp only [h3, decide_false, Bool.false_and] at hh
            simp [bal1, LD0, h1, h3, hh]
      · simp only [Bool.not_eq_false'] at hc1
        unfold bad1 at hc1
        simp only [Bool.and_eq_true, decide_eq_true_eq, Bool.not_eq_true'] at hc1
        obtain ⟨h1, h2⟩ := hc1
        refine ⟨st7 (.int c) (.lst (L.map LD)) (.lst (T.map .int)) (.bl (pre.any hot)) .non (LD q.1) (.int q.2) o, ?_, rfl⟩
        simp [bal1, LD0, h1, h2])
    rcases S1 with ⟨k1, e', k2, a5, a6, rfl⟩ | ⟨k1, e', k2, k3⟩
    rotate_left
    · have hf : balB c L T = false := by rw [hbB]; simp only [balQ, k1, Bool.false_and]
      rw [hf]
      simp only [callFn, f3, List.length_cons, List.length_nil, if_true, List.replicate, List.cons_append, List.nil_append, exs_cons, exs_nil, ex_ite, ex_fr, ex_asg, ev_cmp, ev_bi, ev_bl, evL_cons, evL_nil, ev_pk, get_mk, List.getElem?_cons_zero, List.getElem?_cons_succ, R.lift_some, R.bind_ok, R.st_ok, len_l, List.length_map, hb, cp_ne_i, beq_self_eq_true, Bool.not_true, Option.map_some, truth_bl, RS.seq_nx, asg_n, set_mk, List.set_cons_zero, List.set_cons_succ]
      rw [evzp (F := LD) (H := D.int) (a := L) (b := T) rfl rfl]
      simp only [R.st_ok, items_itr]
      rw [k2]
      simp [ends, outsOf, k3]
    · have S2 := for_chk (t := .n 4) (b := exs prog.gl (run prog n) prog.sub bal2) (F := fun k : Nat => D.int (k : Int)) (chk := fun u => colS Q u == 0) (o := o) (r := .bl false)
        (fun pre e => ∃ a4, e = st7 (.int c) (.lst (L.map LD)) (.lst (T.map .int)) (.bl (Q.any hot)) a4 a5 a6 o) (l := List.range c) (pre := []) (e := st7 (.int c) (.lst (L.map LD)) (.lst (T.map .int)) (.bl (Q.any hot)) .non a5 a6 o) ⟨_, rfl⟩ (by
        rintro pre u e ⟨a4, rfl⟩ hu
        have hu : u < c := by simpa using hu
        have z : ev prog.gl (run prog n) (.lc (.op .mul (.ix (.ix (.pk 5) (.int 1)) (.pk 4)) (.pk 6)) (.tp [5, 6]) (.zp (.v 1) (.v 2)) []) (st7 (.int c) (.lst (L.map LD)) (.lst (T.map .int)) (.bl (Q.any hot)) (.int (u : Int)) a5 a6 o) = .ok (.lst (Q.map fun q => D.int (q.1.2.getD u 0 * q.2))) (st7 (.int c) (.lst (L.map LD)) (.lst (T.map .int)) (.bl (Q.any hot)) (.int (u : Int)) a5 a6 o) := by
          refine lc_2 (l := Q) (F1 := fun q => LD q.1) (F2 := fun q => .int q.2) (evzp (F := LD) (H := D.int) (a := L) (b := T) rfl rfl) rfl (by simp) (by simp) (by decide) (fun q hq => ?_) (by omega)
          have hok := hQ q hq
          have hu2 : u < q.1.2.length := by rw [hok.len]; exact hu
          have hsm : small (q.1.2.getD u 0) := hok.sm _ (by simp [hu2])
          have hm : op2 .mul (.int (q.1.2.getD u 0)) (.int q.2) = _ := op_mul_l hsm
          simp only [ev_op, ev_ix, ev_pk, ev_int, get_mk, set_mk, List.set_cons_zero, List.set_cons_succ, List.getElem?_cons_zero, List.getElem?_cons_succ, R.lift_some, R.bind_ok, LD1, get_tupI hu2, hm]
        have e1 : (Q.map fun q => D.int (q.1.2.getD u 0 * q.2)) = (Q.map fun q => q.1.2.getD u 0 * q.2).map .int := by rw [List.map_map]; rfl
        rw [e1] at z
        have e2 : ((Q.map fun q => q.1.2.getD u 0 * q.2).sum == 0) = (colS Q u == 0) := rfl
        refine ⟨st7 (.int c) (.lst (L.map LD)) (.lst (T.map .int)) (.bl (Q.any hot)) (.int (u : Int)) a5 a6 o, rfl, fun hc1 => ⟨_, ?_, .int (u : Int), rfl⟩, fun hc1 => ⟨st7 (.int c) (.lst (L.map LD)) (.lst (T.map .int)) (.bl (Q.any hot)) (.int (u : Int)) a5 a6 o, ?_, rfl⟩⟩
        · simp only [bal2, exs_cons, exs_nil, ex_ite, ev_cmp, ev_bi, evL_cons, evL_nil, set_mk, List.set_cons_zero, List.set_cons_succ, z, R.bind_ok, sum_l, R.lift_some, ev_int, cp_ne_i, e2, hc1, Bool.not_true, Option.map_some, R.st_ok, truth_bl, RS.seq_nx]
        · simp only [bal2, exs_cons, exs_nil, ex_ite, ev_cmp, ev_bi, evL_cons, evL_nil, set_mk, List.set_cons_zero, List.set_cons_succ, z, R.bind_ok, sum_l, R.lift_some, ev_int, cp_ne_i, e2, hc1, Bool.not_false, Option.map_some, R.st_ok, truth_bl, RS.seq_nx, ex_ret, ev_bl, RS.seq_rt])
      rcases S2 with ⟨j1, e', j2, a4, rfl⟩ | ⟨j1, e', j2, j3⟩
      · have hf : balB c L T = Q.any hot := by rw [hbB]; simp only [balQ, k1, j1, Bool.true_and]
        rw [hf]
        simp only [callFn, f3, List.length_cons, List.length_nil, if_true, List.replicate, List.cons_append, List.nil_append, exs_cons, exs_nil, ex_ite, ex_fr, ex_asg, ex_ret, ev_fl, ev_cmp, ev_bi, ev_bl, evL_cons, evL_nil, ev_pk, get_mk, List.getElem?_cons_zero, List.getElem?_cons_succ, R.lift_some, R.bind_ok, R.st_ok, len_l, List.length_map, hb, cp_ne_i, beq_self_eq_true, Bool.not_true, Option.map_some, truth_bl, RS.seq_nx, asg_n, set_mk, List.set_cons_zero, List.set_cons_succ]
        rw [evzp (F := LD) (H := D.int) (a := L) (b := T) rfl rfl]
        simp only [R.st_ok, items_itr]
        rw [k2]
        simp only [RS.seq_nx, List.nil_append, exs_cons, ex_fr]
        rw [evrg (n := c) rfl (by omega)]
        simp only [R.st_ok, items_itr]
        rw [j2]
        simp [ends, outsOf]
      · have hf : balB c L T = false := by rw [hbB]; simp only [balQ, j1, Bool.and_false, Bool.false_and]
        rw [hf]
        simp only [callFn, f3, List.length_cons, List.length_nil, if_true, List.replicate, List.cons_append, List.nil_append, exs_cons, exs_nil, ex_ite, ex_fr, ex_asg, ex_ret, ev_fl, ev_cmp, ev_bi, ev_bl, evL_cons, evL_nil, ev_pk, get_mk, List.getElem?_cons_zero, List.getElem?_cons_succ, R.lift_some, R.bind_ok, R.st_ok, len_l, List.length_map, hb, cp_ne_i, beq_self_eq_true, Bool.not_true, Option.map_some, truth_bl, RS.seq_nx, asg_n, set_mk, List.set_cons_zero, List.set_cons_succ]
        rw [evzp (F := LD) (H := D.int) (a := L) (b := T) rfl rfl]
        simp only [R.st_ok, items_itr]
        rw [k2]
        simp only [RS.seq_nx, List.nil_append, exs_cons, ex_fr]
        rw [evrg (n := c) rfl (by omega)]
        simp only [R.st_ok, items_itr]
        rw [j2]
        simp [ends, outsOf, j3]
  · have hb2 : ((T.length : Int) == (L.length : Int)) = false := by simp; omega
    have hd : balB c L T = false := by simp [balB, hb]
    simp [callFn, f3, hb2, hd, ends, outsOf]
end LW

namespace LW
open Z
abbrev st6 (a0 a1 a2 a3 a4 a5 : D) (o : List Ob) : Env := ⟨[a0, a1, a2, a3, a4, a5], o⟩
abbrev lb1 : List Z.S := [.ite (.and (.cmp .lt (.ix (.pk 2) (.pk 4)) (.int 0)) (.cmp .ne (.ix (.ix (.pk 1) (.pk 4)) (.int 0)) (.str [61]))) [.ret (.bl false)] [], .ite (.and (.cmp .gt (.ix (.pk 2) (.pk 4)) (.int 0)) (.cmp .eq (.ix (.ix (.pk 1) (.pk 4)) (.int 0)) (.str [62]))) [.asg (.n 3) (.op .add (.pk 3) (.int 1))] []]
abbrev lb2 : List Z.S := [.ite (.cmp .ne (.bi .sum [(.lc (.op .mul (.ix (.ix (.ix (.pk 1) (.pk 4)) (.int 1)) (.pk 5)) (.ix (.pk 2) (.pk 4))) (.n 4) (.rg (.bi .len [(.pk 1)])) [])]) (.int 0)) [.ret (.bl false)] []]
def pt (L : List Ln) (T : List Int) (k : Nat) : LT := (L.getD k ([], []), T.getD k 0)
theorem any_countP {α : Type} (l : List α) (p : α → Bool) : decide ((0 : Int) < (l.countP p : Nat)) = l.any p := by
  cases h : l.any p with
  | true =>
    have : 0 < l.countP p := List.countP_pos_iff.mpr (by simpa using h)
    exact decide_eq_true (by omega)
  | false =>
    have : l.countP p = 0 := List.countP_eq_zero.mpr fun a ha => by
      have := List.any_eq_false.mp h a ha
      exact this
    simp [this]
theorem r_lawbal {n : Nat} {o : List Ob} {c : Nat} {L : List Ln} {T : List Int} (h : ∀ p ∈ L, LnOk c p) (hc : c ≤ 1000) (hL : L.length ≤ 1000) :
    run prog (n + 1) 10 [.int c, .lst (L.map LD), .lst (T.map .int)] o = .ok (.bl (balB c L T)) [] o := by
  rw [run_eq (fn := f10) rfl]
  by_cases hb : T.length = L.length
  · have hQ : List.zip L T = (List.range L.length).map (pt L T) := zip_range ([], []) 0 hb
    have hok : ∀ k < L.length, LnOk c (pt L T k).1 := fun k hk => h _ (by simp [pt, hk])
    have gL : ∀ k : Nat, k < L.length → opIx (.lst (L.map LD)) (.int (k : Int)) = some (LD (pt L T k).1) := fun k hk => by rw [ix_l, get_nat (F := LD) (d := ([], [])) hk]; rfl
    have gT : ∀ k : Nat, k < L.length → opIx (.lst (T.map .int)) (.int (k : Int)) = some (.int (pt L T k).2) := fun k hk => by rw [ix_l, get_nat (F := D.int) (d := 0) (by omega)]; rfl
    have hbB : balB c L T = (((List.range L.length).all fun k => !bad1 (pt L T k)) && ((List.range c).all fun u => colS (List.zip L T) u == 0) && decide ((0 : Int) < ((List.range L.length).countP fun k => hot (pt L T k) : Nat))) := by
      rw [any_countP]
      simp only [balB, hb, decide_true, Bool.true_and, balQ, hQ, List.all_map, List.any_map]
      rfl
    have S1 := for_chk (t := .n 4) (b := exs prog.gl (run prog n) prog.sub lb1) (F := fun k : Nat => D.int (k : Int)) (chk := fun k => !bad1 (pt L T k)) (o := o) (r := .bl false)
      (fun pre e => ∃ a4, e = st6 (.int c) (.lst (L.map LD)) (.lst (T.map .int)) (.int ((pre.countP fun k => hot (pt L T k) : Nat) : Int)) a4 .non o) (l := List.range L.length) (pre := []) (e := st6 (.int c) (.lst (L.map LD)) (.lst (T.map .int)) (.int 0) .non .non o) ⟨_, rfl⟩ (by
      rintro pre k e ⟨a4, rfl⟩ hk
      have hk : k < L.length := by simpa using hk
      have g1 := gL k hk
      have g2 := gT k hk
      refine ⟨st6 (.int c) (.lst (L.map LD)) (.lst (T.map .int)) (.int ((pre.countP fun k => hot (pt L T k) : Nat) : Int)) (.int (k : Int)) .non o, rfl, fun hc1 => ?_, fun hc1 => ?_⟩
      · refine ⟨_, ?_, .int (k : Int), rfl⟩
        simp only [Bool.not_eq_true'] at hc1
        have hcn : ((pre ++ [k]).countP fun k => hot (pt L T k)) = (pre.countP fun k => hot (pt L T k)) + if hot (pt L T k) = true then 1 else 0 := by rw [List.countP_append]; simp [List.countP_cons]
        rw [hcn]
        generalize pt L T k = q at *
        have hh : hot q = (decide (0 < q.2) && (q.1.1 == GT)) := rfl
        unfold bad1 at hc1
        by_cases h1 : q.2 < 0
        · have h2 : (q.1.1 == EQ) = true := by simpa [h1] using hc1
          have h3 : ¬ 0 < q.2 := by omega
          simp only [h3, decide_false, Bool.false_and] at hh
          simp [lb1, g1, g2, LD0, h1, h2, h3, hh, -ix_l]
        · by_cases h3 : 0 < q.2
          · simp only [h3, decide_true, Bool.true_and] at hh
            cases h2 : (q.1.1 == GT) <;> (rw [h2] at hh; simp [lb1, g1, g2, LD0, h1, h2, h3, hh, -ix_l])
          · simp only [h3, decide_false, Bool.false_and] at hh
            simp [lb1, g1, g2, LD0, h1, h3, hh, -ix_l]
      · simp only [Bool.not_eq_false'] at hc1
        generalize pt L T k = q at *
        unfold bad1 at hc1
        simp only [Bool.and_eq_true, decide_eq_true_eq, Bool.not_eq_true'] at hc1
        obtain ⟨h1, h2⟩ := hc1
        refine ⟨st6 (.int c) (.lst (L.map LD)) (.lst (T.map .int)) (.int ((pre.countP fun k => hot (pt L T k) : Nat) : Int)) (.int (k : Int)) .non o, ?_, rfl⟩
        simp [lb1, g1, g2, LD0, h1, h2, -ix_l])
    rcases S1 with ⟨k1, e', k2, a4, rfl⟩ | ⟨k1, e', k2, k3⟩
    rotate_left
    · have hf : balB c L T = false := by rw [hbB]; simp only [k1, Bool.false_and]
      rw [hf]
      simp only [callFn, f10, List.length_cons, List.length_nil, if_true, List.replicate, List.cons_append, List.nil_append, exs_cons, exs_nil, ex_ite, ex_fr, ex_asg, ev_cmp, ev_bi, ev_int, evL_cons, evL_nil, ev_pk, get_mk, List.getElem?_cons_zero, List.getElem?_cons_succ, R.lift_some, R.bind_ok, R.st_ok, len_l, List.length_map, hb, cp_ne_i, beq_self_eq_true, Bool.not_true, Option.map_some, truth_bl, RS.seq_nx, asg_n, set_mk, List.set_cons_zero, List.set_cons_succ]
      rw [evrgl rfl (by simp; omega)]
      simp only [R.st_ok, items_itr, List.length_map]
      rw [k2]
      simp [ends, outsOf, k3]
    · have S2 := for_chk (t := .n 5) (b := exs prog.gl (run prog n) prog.sub lb2) (F := fun k : Nat => D.int (k : Int)) (chk := fun u => colS (List.zip L T) u == 0) (o := o) (r := .bl false)
        (fun pre e => ∃ a5, e = st6 (.int c) (.lst (L.map LD)) (.lst (T.map .int)) (.int (((List.range L.length).countP fun k => hot (pt L T k) : Nat) : Int)) a4 a5 o) (l := List.range c) (pre := []) (e := st6 (.int c) (.lst (L.map LD)) (.lst (T.map .int)) (.int (((List.range L.length).countP fun k => hot (pt L T k) : Nat) : Int)) a4 .non o) ⟨_, rfl⟩ (by
        rintro pre u e ⟨a5, rfl⟩ hu
        have hu : u < c := by simpa using hu
        generalize hw : D.int (((List.range L.length).countP fun k => hot (pt L T k) : Nat) : Int) = W
        have z : ev prog.gl (run prog n) (.lc (.op .mul (.ix (.ix (.ix (.pk 1) (.pk 4)) (.int 1)) (.pk 5)) (.ix (.pk 2) (.pk 4))) (.n 4) (.rg (.bi .len [(.pk 1)])) []) (st6 (.int c) (.lst (L.map LD)) (.lst (T.map .int)) W a4 (.int (u : Int)) o) = .ok (.lst ((List.range (L.map LD).length).map fun k => D.int ((pt L T k).1.2.getD u 0 * (pt L T k).2))) (st6 (.int c) (.lst (L.map LD)) (.lst (T.map .int)) W a4 (.int (u : Int)) o) := by
          refine lc_n (evrgl rfl (by simp; omega)) rfl (by simp) (fun k hk => ?_) (by simp; omega)
          have hk : k < L.length := by simpa using hk
          have hu2 : u < (pt L T k).1.2.length := by rw [(hok k hk).len]; exact hu
          have hsm : small ((pt L T k).1.2.getD u 0) := (hok k hk).sm _ (by simp [hu2])
          have hm : op2 .mul (.int ((pt L T k).1.2.getD u 0)) (.int (pt L T k).2) = _ := op_mul_l hsm
          simp only [ev_op, ev_ix, ev_pk, ev_int, get_mk, set_mk, List.set_cons_zero, List.set_cons_succ, List.getElem?_cons_zero, List.getElem?_cons_succ, R.lift_some, R.bind_ok, gL k hk, gT k hk, LD1, get_tupI hu2, hm]
        have e1 : ((List.range (L.map LD).length).map fun k => D.int ((pt L T k).1.2.getD u 0 * (pt L T k).2)) = ((List.range L.length).map fun k => (pt L T k).1.2.getD u 0 * (pt L T k).2).map .int := by rw [List.map_map, List.length_map]; rfl
        rw [e1] at z
        have e2 : (((List.range L.length).map fun k => (pt L T k).1.2.getD u 0 * (pt L T k).2).sum == 0) = (colS (List.zip L T) u == 0) := by rw [hQ]; simp only [colS, List.map_map]; rfl
        refine ⟨st6 (.int c) (.lst (L.map LD)) (.lst (T.map .int)) W a4 (.int (u : Int)) o, rfl, fun hc1 => ⟨_, ?_, .int (u : Int), rfl⟩, fun hc1 => ⟨st6 (.int c) (.lst (L.map LD)) (.lst (T.map .int)) W a4 (.int (u : Int)) o, ?_, rfl⟩⟩
        · simp only [lb2, exs_cons, exs_nil, ex_ite, ev_cmp, ev_bi, evL_cons, evL_nil, set_mk, List.set_cons_zero, List.set_cons_succ, z, R.bind_ok, sum_l, R.lift_some, ev_int, cp_ne_i, e2, hc1, Bool.not_true, Option.map_some, R.st_ok, truth_bl, RS.seq_nx]
        · simp only [lb2, exs_cons, exs_nil, ex_ite, ev_cmp, ev_bi, evL_cons, evL_nil, set_mk, List.set_cons_zero, List.set_cons_succ, z, R.bind_ok, sum_l, R.lift_some, ev_int, cp_ne_i, e2, hc1, Bool.not_false, Option.map_some, R.st_ok, truth_bl, RS.seq_nx, ex_ret, ev_bl, RS.seq_rt])
      have pre : ∀ X : CR, ends f10 ((forL (.n 5) (exs prog.gl (run prog n) prog.sub lb2) ((List.range c).map fun k : Nat => D.int (k : Int)) (st6 (.int c) (.lst (L.map LD)) (.lst (T.map .int)) (.int (((List.range L.length).countP fun k => hot (pt L T k) : Nat) : Int)) a4 .non o)).seq (exs prog.gl (run prog n) prog.sub [.ret (.cmp .gt (.pk 3) (.int 0))])) = X → callFn prog (run prog n) f10 [.int c, .lst (L.map LD), .lst (T.map .int)] o = X := by
        intro X hX
        rw [← hX]
        simp only [callFn, f10, List.length_cons, List.length_nil, if_true, List.replicate, List.cons_append, List.nil_append, exs_cons, exs_nil, ex_ite, ex_fr, ex_asg, ev_cmp, ev_bi, ev_int, evL_cons, evL_nil, ev_pk, get_mk, List.getElem?_cons_zero, List.getElem?_cons_succ, R.lift_some, R.bind_ok, R.st_ok, len_l, List.length_map, hb, cp_ne_i, beq_self_eq_true, Bool.not_true, Option.map_some, truth_bl, RS.seq_nx, asg_n, set_mk, List.set_cons_zero, List.set_cons_succ]
        rw [evrgl rfl (by simp; omega)]
        simp only [R.st_ok, items_itr, List.length_map]
        rw [k2]
        simp only [RS.seq_nx, List.nil_append, exs_cons, ex_fr]
        rw [evrg (n := c) rfl (by omega)]
        simp only [R.st_ok, items_itr]
      rcases S2 with ⟨j1, e', j2, a5, rfl⟩ | ⟨j1, e', j2, j3⟩
      · have hf : balB c L T = decide ((0 : Int) < ((List.range L.length).countP fun k => hot (pt L T k) : Nat)) := by rw [hbB]; simp only [k1, j1, Bool.true_and]
        rw [hf]
        refine pre _ ?_
        rw [j2]
        simp [ends, outsOf, f10]
      · have hf : balB c L T = false := by rw [hbB]; simp only [j1, Bool.and_false, Bool.false_and]
        rw [hf]
        refine pre _ ?_
        rw [j2]
        simp [ends, outsOf, f10, j3]
  · have hb2 : ((T.length : Int) == (L.length : Int)) = false := by simp; omega
    have hd : balB c L T = false := by simp [balB, hb]
    simp [callFn, f10, hb2, hd, ends, outsOf]
theorem r_balj {n : Nat} {o : List Ob} {c : Nat} {L : List Ln} {T : List Int} (h : ∀ p ∈ L, LnOk c p) (hc : c ≤ 1000) (hL : L.length ≤ 1000) :
    run prog (n + 4) 11 [.int c, .lst (L.map LD), .lst (T.map .int)] o = .ok (.bl true) [] o := by
  rw [run_eq (fn := f11) rfl]
  have c10 : ∀ as st, callR (run prog (n + 3)) 10 as [.int c, .lst (L.map LD), .lst (T.map .int)] ⟨st, o⟩ = .ok (.bl (balB c L T)) ⟨st, o⟩ := fun as st => callR_ok (r_lawbal (n := n + 2) h hc hL)
  have c3 : ∀ as st, callR (run prog (n + 3)) 3 as [.int c, .lst (L.map LD), .lst (T.map .int)] ⟨st, o⟩ = .ok (.bl (balB c L T)) ⟨st, o⟩ := fun as st => callR_ok (r_bal (n := n + 2) h hc hL)
  have c7 : ∀ as st (x : Bool), callR (run prog (n + 3)) 7 as [.bl x, .bl x] ⟨st, o⟩ = .ok (.bl true) ⟨st, o⟩ := fun as st x => callR_ok (r_says (n := n + 2))
  have e1 := cp_eq_self (data_L h)
  have e2 := cp_eq_self (data_lint T)
  simp [callFn, f11, c10, c3, c7, e1, e2, ends, outsOf]
end LW

namespace LW
open Z
def ins {α : Type} (l : List α) (k : Nat) (x : α) : List α := l.take k ++ [x] ++ l.drop k
theorem ins_mem {α : Type} {l : List α} {k : Nat} {x y : α} (h : y ∈ ins l k x) : y = x ∨ y ∈ l := by
  simp only [ins, List.mem_append, List.mem_singleton] at h
  rcases h with (h | h) | h
  · exact .inr (List.mem_of_mem_take h)
  · exact .inl h
  · exact .inr (List.mem_of_mem_drop h)
theorem ins_len {α : Type} {l : List α} {k : Nat} {x : α} : (ins l k x).length ≤ l.length + 1 := by
  simp only [ins, List.length_append, List.length_take, List.length_drop, List.length_cons, List.length_nil]
  omega
theorem r_put {α : Type} {F : α → D} {n : Nat} {o : List Ob} {l : List α} {k : Int} {x : α} (h0 : 0 ≤ k) (hl : l.length ≤ 1000) :
    run prog (n + 1) 14 [.lst (l.map F), .int k, F x] o = .ok (.lst ((ins l k.toNat x).map F)) [] o := by
  rw [run_eq (fn := f14) rfl]
  have h1 : opCat (.lst (cut (l.map F) none (some k))) (.lst [F x]) = some (.lst ((l.take k.toNat).map F ++ [F x])) := by
    rw [cut_take h0, ← List.map_take]
    exact cat_ok (by simp; omega)
  have h2 : opCat (.lst ((l.take k.toNat).map F ++ [F x])) (.lst (cut (l.map F) (some k) none)) = some (.lst ((ins l k.toNat x).map F)) := by
    rw [cut_drop h0, ← List.map_drop, cat_ok (by simp; omega)]
    simp [ins]
  simp [callFn, f14, h1, h2, ends, outsOf, -List.map_take]
/-- the judge says yes to the law at any lines -/
def JB (n : Nat) (o : List Ob) (c : Nat) : Prop := ∀ (L : List Ln) (T : List Int), (∀ p ∈ L, LnOk c p) → L.length ≤ 1000 → ∀ as st, callR (run prog n) 11 as [.int c, .lst (L.map LD), .lst (T.map .int)] ⟨st, o⟩ = .ok (.bl true) ⟨st, o⟩
theorem jb {n : Nat} {o : List Ob} {c : Nat} (hc : c ≤ 1000) : JB (n + 4) o c := fun L T h hL as st => callR_ok (r_balj (n := n) h hc hL)
def Lns (c : Nat) (L : List Ln) : Prop := ∀ p ∈ L, LnOk c p
theorem Lns.ins {c : Nat} {L : List Ln} {k : Nat} {p : Ln} (h : Lns c L) (hp : LnOk c p) : Lns c (ins L k p) := fun q hq => by
  rcases ins_mem hq with rfl | hq
  · exact hp
  · exact h q hq
theorem Lns.snoc {c : Nat} {L : List Ln} {p : Ln} (h : Lns c L) (hp : LnOk c p) : Lns c (L ++ [p]) := fun q hq => by
  rcases List.mem_append.mp hq with hq | hq
  · exact h q hq
  · simp at hq; subst hq; exact hp
theorem Lns.nil {c : Nat} : Lns c [] := fun q hq => by simp at hq
abbrev zs (c : Nat) : List Int := List.replicate c 0
theorem zs_ok {c : Nat} {s : Txt} (h : Sg s) : LnOk c (s, zs c) := ⟨h, by simp, fun x hx => by simp at hx; obtain ⟨_, rfl⟩ := hx; unfold small; decide⟩
abbrev st10 (a0 a1 a2 a3 a4 a5 a6 a7 a8 a9 : D) (o : List Ob) : Env := ⟨[a0, a1, a2, a3, a4, a5, a6, a7, a8, a9], o⟩
abbrev tc1 : List Z.S := [.ite (.nt (.call 11 [(.v 0), (.v 7), (.call 14 [(.v 2), (.v 3), (.v 8)])])) [.ret (.bl false)] []]
abbrev tc2 : List Z.S := [.asg (.n 7) (.call 14 [(.v 1), (.v 3), (.tup [(.v 6), (.v 4)])]), .fr (.n 8) (.lst [(.neg (.int 1)), (.int 3)]) tc1]
theorem r_counted {n : Nat} {o : List Ob} {c : Nat} {L : List Ln} {T : List Int} {k : Int} (h : Lns c L) (hc : c ≤ 1000) (hL : L.length ≤ 900) (hT : T.length ≤ 900) (h0 : 0 ≤ k) :
    run prog (n + 5) 15 [.int c, .lst (L.map LD), .lst (T.map .int), .int k] o = .ok (.bl true) [] o := by
  rw [run_eq (fn := f15) rfl]
  have J : JB (n + 4) o c := jb hc
  have z : ev prog.gl (run prog (n + 4)) (.lc (.int 0) (.n 9) (.rg (.pk 0)) []) (st10 (.int c) (.lst (L.map LD)) (.lst (T.map .int)) (.int k) .non .non .non .non .non .non o) = .ok (.lst ((zs c).map .int)) (st10 (.int c) (.lst (L.map LD)) (.lst (T.map .int)) (.int k) .non .non .non .non .non .non o) := by
    rw [lc_n (l := List.range c) (g := fun _ => D.int 0) (evrg (n := c) rfl (by omega)) rfl (by simp) (fun a ha => by simp) (by simp; omega)]
    congr 2; simp only [zs, List.map_replicate]; exact (List.eq_replicate_iff.mpr ⟨by simp, fun b hb => by simp at hb; exact hb.2.symm⟩)
  have pT : ∀ (x : Int) as st, callR (run prog (n + 4)) 14 as [.lst (T.map .int), .int k, .int x] ⟨st, o⟩ = .ok (.lst ((ins T k.toNat x).map .int)) ⟨st, o⟩ := fun x as st => callR_ok (r_put (n := n + 3) (F := D.int) h0 (by omega))
  have pL : ∀ (s : Txt) as st, callR (run prog (n + 4)) 14 as [.lst (L.map LD), .int k, .tup [.str s, tupI (zs c)]] ⟨st, o⟩ = .ok (.lst ((ins L k.toNat (s, zs c)).map LD)) ⟨st, o⟩ := fun s as st => callR_ok (r_put (n := n + 3) (F := LD) (x := (s, zs c)) h0 (by omega))
  have body : ∀ (s : Txt) (a5 d7 d8 d9 : D), Sg s → exs prog.gl (run prog (n + 4)) prog.sub tc2 (st10 (.int c) (.lst (L.map LD)) (.lst (T.map .int)) (.int k) (tupI (zs c)) a5 (.str s) d7 d8 d9 o) =
      .nx (st10 (.int c) (.lst (L.map LD)) (.lst (T.map .int)) (.int k) (tupI (zs c)) a5 (.str s) (.lst ((ins L k.toNat (s, zs c)).map LD)) (.int 3) d9 o) := by
    intro s a5 d7 d8 d9 hs
    have hj : ∀ (x : Int) as st, callR (run prog (n + 4)) 11 as [.int c, .lst ((ins L k.toNat (s, zs c)).map LD), .lst ((ins T k.toNat x).map .int)] ⟨st, o⟩ = .ok (.bl true) ⟨st, o⟩ := fun x as st => J _ _ (h.ins (zs_ok hs)) (Nat.le_trans ins_len (by omega)) as st
    simp [tc2, tc1, pL, pT, hj, forL]
  have hcat1 : opCat (.lst (L.map LD)) (.lst [.tup [.str GE, tupI (zs c)]]) = some (.lst ((L ++ [(GE, zs c)]).map LD)) := by rw [cat_ok (by simp; omega)]; simp [LD]
  have hcat2 : opCat (.lst (T.map .int)) (.lst [.int 0]) = some (.lst ((T ++ [0]).map .int)) := by rw [cat_ok (by simp; omega)]; simp
  have hg := h.snoc (zs_ok (c := c) (s := GE) (.inr (.inl rfl)))
  have j1 : ∀ as st, callR (run prog (n + 4)) 11 as [.int c, .lst ((L ++ [(GE, zs c)]).map LD), .lst ((T ++ [0]).map .int)] ⟨st, o⟩ = .ok (.bl true) ⟨st, o⟩ := fun as st => J _ _ hg (by simp; omega) as st
  have j2 : ∀ as st, callR (run prog (n + 4)) 11 as [.int c, .lst ((L ++ [(GE, zs c)]).map LD), .lst (T.map .int)] ⟨st, o⟩ = .ok (.bl true) ⟨st, o⟩ := fun as st => J _ _ hg (by simp; omega) as st
  have j3 : ∀ as st, callR (run prog (n + 4)) 11 as [.int c, .lst (L.map LD), .lst ((T ++ [0]).map .int)] ⟨st, o⟩ = .ok (.bl true) ⟨st, o⟩ := fun as st => J _ _ h (by omega) as st
  have j4 : ∀ as st, callR (run prog (n + 4)) 11 as [.int c, .lst [], .lst []] ⟨st, o⟩ = .ok (.bl true) ⟨st, o⟩ := fun as st => J [] [] Lns.nil (by simp) as st
  have ht : b1 .tuple [.lst ((zs c).map .int)] = some (tupI (zs c)) := rfl
  simp only [callFn, f15, List.length_cons, List.length_nil, if_true, List.replicate, List.cons_append, List.nil_append, exs_cons, exs_nil, ex_asg, ev_bi, evL_cons, evL_nil, z, R.bind_ok, ht, R.lift_some, R.st_ok, asg_n, set_mk, List.set_cons_zero, List.set_cons_succ, RS.seq_nx, ev_cat, ev_v, ev_lst, ev_tup, ev_str, ev_int, get_mk, List.getElem?_cons_zero, List.getElem?_cons_succ, hcat1, hcat2, ex_ite, ev_or, ev_nt, ev_call, j1, j2, j3, j4, truth_bl, Option.map_some, Bool.not_true, ex_fr, items_lst, forL, body GT _ _ _ _ (.inl rfl), body GE _ _ _ _ (.inr (.inl rfl)), body EQ _ _ _ _ (.inr (.inr rfl)), ex_ret, ev_bl, RS.seq_rt]
  rfl
end LW

namespace LW
open Z
def rep1 {α : Type} (l : List α) (k : Nat) (x : α) : List α := l.take k ++ [x] ++ l.drop (k + 1)
theorem rep1_mem {α : Type} {l : List α} {k : Nat} {x y : α} (h : y ∈ rep1 l k x) : y = x ∨ y ∈ l := by
  simp only [rep1, List.mem_append, List.mem_singleton] at h
  rcases h with (h | h) | h
  · exact .inr (List.mem_of_mem_take h)
  · exact .inl h
  · exact .inr (List.mem_of_mem_drop h)
theorem rep1_len {α : Type} {l : List α} {k : Nat} {x : α} (h : k < l.length) : (rep1 l k x).length = l.length := by
  simp only [rep1, List.length_append, List.length_take, List.length_drop, List.length_cons, List.length_nil]
  omega
theorem rep1_le {α : Type} {l : List α} {k : Nat} {x : α} : (rep1 l k x).length ≤ l.length + 1 := by
  simp only [rep1, List.length_append, List.length_take, List.length_drop, List.length_cons, List.length_nil]
  omega
theorem Lns.rep1 {c : Nat} {L : List Ln} {k : Nat} {p : Ln} (h : Lns c L) (hp : LnOk c p) : Lns c (rep1 L k p) := fun q hq => by
  rcases rep1_mem hq with rfl | hq
  · exact hp
  · exact h q hq
/-- xs[:k] + [x] + xs[k + 1:] -/
theorem rep1_cat {α : Type} {F : α → D} {l : List α} {k : Int} {x : α} (h0 : 0 ≤ k) (hl : l.length ≤ 1000) :
    opCat (.lst (cut (l.map F) none (some k))) (.lst [F x]) = some (.lst ((l.take k.toNat).map F ++ [F x])) ∧ opCat (.lst ((l.take k.toNat).map F ++ [F x])) (.lst (cut (l.map F) (some (k + 1)) none)) = some (.lst ((rep1 l k.toNat x).map F)) := by
  constructor
  · rw [cut_take h0, ← List.map_take]
    exact cat_ok (by simp; omega)
  · rw [cut_drop (by omega), ← List.map_drop, cat_ok (by simp; omega)]
    have : (k + 1).toNat = k.toNat + 1 := by omega
    simp [LW.rep1, this]
theorem Lns.at_ {c : Nat} {L : List Ln} (h : Lns c L) {k : Nat} (hk : k < L.length) : LnOk c (L.getD k ([], [])) := h _ (by simp [hk])
abbrev st8 (a0 a1 a2 a3 a4 a5 a6 a7 : D) (o : List Ob) : Env := ⟨[a0, a1, a2, a3, a4, a5, a6, a7], o⟩
abbrev tw1 : List Z.S := [.asg (.n 6) (.call 14 [(.v 1), (.v 3), (.tup [(.v 5), (.ix (.ix (.v 1) (.pk 4)) (.int 1))])]), .asg (.n 7) (.bi .list [(.v 2)]), .six (.pk 7) (.pk 4) (.op .add (.ix (.pk 7) (.pk 4)) (.int 2)), .ite (.nt (.call 11 [(.v 0), (.v 6), (.call 14 [(.v 7), (.v 3), (.neg (.int 2))])])) [.ret (.bl false)] []]
theorem r_twice {n : Nat} {o : List Ob} {c : Nat} {L : List Ln} {T : List Int} {k j : Int} (h : Lns c L) (hc : c ≤ 1000) (hL : L.length ≤ 900) (hT : T.length = L.length) (h0 : 0 ≤ k) (j0 : 0 ≤ j) (jl : j < L.length) :
    run prog (n + 5) 16 [.int c, .lst (L.map LD), .lst (T.map .int), .int k, .int j] o = .ok (.bl true) [] o := by
  rw [run_eq (fn := f16) rfl]
  have J : JB (n + 4) o c := jb hc
  have hp := h.at_ (k := j.toNat) (by omega)
  generalize hq : L.getD j.toNat ([], []) = q at hp
  have gL : opIx (.lst (L.map LD)) (.int j) = some (LD q) := by rw [ix_l, get_Int (d := ([], [])) j0 jl, hq]
  have gT : opIx (.lst (T.map .int)) (.int j) = some (.int (T.getD j.toNat 0)) := by rw [ix_l, get_Int (d := 0) j0 (by omega)]
  let T2 := T.set j.toNat (T.getD j.toNat 0 + 2)
  have pT : ∀ (x : Int) as st, callR (run prog (n + 4)) 14 as [.lst (T2.map .int), .int k, .int x] ⟨st, o⟩ = .ok (.lst ((ins T2 k.toNat x).map .int)) ⟨st, o⟩ := fun x as st => callR_ok (r_put (n := n + 3) (F := D.int) h0 (by simp [T2]; omega))
  have pL : ∀ (s : Txt) as st, callR (run prog (n + 4)) 14 as [.lst (L.map LD), .int k, .tup [.str s, tupI q.2]] ⟨st, o⟩ = .ok (.lst ((ins L k.toNat (s, q.2)).map LD)) ⟨st, o⟩ := fun s as st => callR_ok (r_put (n := n + 3) (F := LD) (x := (s, q.2)) h0 (by omega))
  have hset : ∀ v st, st[7]? = some (.lst (T.map .int)) → chg 7 [] (setIx (.int j) (.int v)) ⟨st, o⟩ = .nx ⟨st.set 7 (.lst ((T.set j.toNat v).map .int)), o⟩ := fun v st hs => by rw [six_ok hs j0 (by simp; omega), List.map_set]
  have body : ∀ (s : Txt) (d6 d7 : D), Sg s → exs prog.gl (run prog (n + 4)) prog.sub tw1 (st8 (.int c) (.lst (L.map LD)) (.lst (T.map .int)) (.int k) (.int j) (.str s) d6 d7 o) =
      .nx (st8 (.int c) (.lst (L.map LD)) (.lst (T.map .int)) (.int k) (.int j) (.str s) (.lst ((ins L k.toNat (s, q.2)).map LD)) (.lst (T2.map .int)) o) := by
    intro s d6 d7 hs
    have hj : ∀ as st, callR (run prog (n + 4)) 11 as [.int c, .lst ((ins L k.toNat (s, q.2)).map LD), .lst ((ins T2 k.toNat (-2)).map .int)] ⟨st, o⟩ = .ok (.bl true) ⟨st, o⟩ := fun as st => J (ins L k.toNat (s, q.2)) (ins T2 k.toNat (-2)) (Lns.ins (p := (s, q.2)) (k := k.toNat) h ⟨hs, hp.len, hp.sm⟩) (Nat.le_trans ins_len (by omega)) as st
    simp only [tw1, exs_cons, exs_nil, ex_asg, ex_six, ex_ite, ev_call, ev_bi, ev_op, ev_nt, ev_tup, evL_cons, evL_nil, ev_v, ev_pk, ev_int, ev_neg, ev_ix, get_mk, set_mk, List.set_cons_zero, List.set_cons_succ, List.getElem?_cons_zero, List.getElem?_cons_succ, R.lift_some, R.bind_ok, R.st_ok, asg_n, gL, LD1, pL, list_l, gT, op_add_i, RS.seq_nx, evP_pk, Option.bind_some, getP_nil]
    rw [hset _ _ rfl]
    simp only [exs_cons, exs_nil, ex_ite, ev_call, ev_nt, evL_cons, evL_nil, ev_v, ev_int, ev_neg, get_mk, set_mk, List.set_cons_zero, List.set_cons_succ, List.getElem?_cons_zero, List.getElem?_cons_succ, R.lift_some, R.bind_ok, R.st_ok, RS.seq_nx]
    rw [pT]
    simp only [R.bind_ok, hj, R.lift_some, truth_bl, Option.map_some, Bool.not_true, R.st_ok, RS.seq_nx]
    rfl
  simp only [callFn, f16, List.length_cons, List.length_nil, if_true, List.replicate, List.cons_append, List.nil_append, exs_cons, exs_nil, ex_fr, ev_lst, evL_cons, evL_nil, ev_str, R.bind_ok, R.st_ok, items_lst, forL, asg_n, set_mk, List.set_cons_zero, List.set_cons_succ, body GT _ _ (.inl rfl), body GE _ _ (.inr (.inl rfl)), body EQ _ _ (.inr (.inr rfl)), RS.seq_nx, ex_ret, ev_bl, RS.seq_rt]
  rfl
abbrev sm1 : List Z.S := [.ite (.nt (.call 11 [(.v 0), (.cat (.cat (.slT (.v 1) none (some (.pk 3))) (.lst [(.tup [(.v 4), (.ix (.ix (.v 1) (.pk 3)) (.int 1))])])) (.slT (.v 1) (some (.op .add (.pk 3) (.int 1))) none)), (.v 2)])) [.ret (.bl false)] []]
theorem r_more {n : Nat} {o : List Ob} {c : Nat} {L : List Ln} {T : List Int} {j : Int} (h : Lns c L) (hc : c ≤ 1000) (hL : L.length ≤ 900) (hT : T.length ≤ 1000) (j0 : 0 ≤ j) (jl : j < L.length) :
    run prog (n + 5) 17 [.int c, .lst (L.map LD), .lst (T.map .int), .int j] o = .ok (.bl true) [] o := by
  rw [run_eq (fn := f17) rfl]
  have J : JB (n + 4) o c := jb hc
  have hp := h.at_ (k := j.toNat) (by omega)
  generalize hq : L.getD j.toNat ([], []) = q at hp
  have gL : opIx (.lst (L.map LD)) (.int j) = some (LD q) := by rw [ix_l, get_Int (d := ([], [])) j0 jl, hq]
  have z : ev prog.gl (run prog (n + 4)) (.lc (.int 0) (.n 5) (.v 2) []) ⟨[.int c, .lst (L.map LD), .lst (T.map .int), .int j, .non, .non], o⟩ = .ok (.lst ((T.map fun _ => (0 : Int)).map .int)) ⟨[.int c, .lst (L.map LD), .lst (T.map .int), .int j, .non, .non], o⟩ := by
    rw [lc_n (l := T) (g := fun _ => D.int 0) (evv rfl) rfl (by simp) (fun a ha => by simp) (by omega)]
    congr 2; rw [List.map_map]; rfl
  have j1 : ∀ as st, callR (run prog (n + 4)) 11 as [.int c, .lst (L.map LD), .lst ((T.map fun _ => (0 : Int)).map .int)] ⟨st, o⟩ = .ok (.bl true) ⟨st, o⟩ := fun as st => J _ _ h (by omega) as st
  have body : ∀ (s : Txt) (d5 : D), Sg s → exs prog.gl (run prog (n + 4)) prog.sub sm1 ⟨[.int c, .lst (L.map LD), .lst (T.map .int), .int j, .str s, d5], o⟩ = .nx ⟨[.int c, .lst (L.map LD), .lst (T.map .int), .int j, .str s, d5], o⟩ := by
    intro s d5 hs
    have hj : ∀ as st, callR (run prog (n + 4)) 11 as [.int c, .lst ((rep1 L j.toNat (s, q.2)).map LD), .lst (T.map .int)] ⟨st, o⟩ = .ok (.bl true) ⟨st, o⟩ := fun as st => J (rep1 L j.toNat (s, q.2)) T (Lns.rep1 (p := (s, q.2)) (k := j.toNat) h ⟨hs, hp.len, hp.sm⟩) (Nat.le_trans rep1_le (by omega)) as st
    obtain ⟨e1, e2⟩ := rep1_cat (F := LD) (x := (s, q.2)) (l := L) j0 (by omega)
    have e1' : opCat (.lst (cut (L.map LD) none (some j))) (.lst [.tup [.str s, tupI q.2]]) = some (.lst ((L.take j.toNat).map LD ++ [LD (s, q.2)])) := e1
    simp only [sm1, exs_cons, exs_nil, ex_ite, ev_nt, ev_call, evL_cons, evL_nil, ev_cat, ev_slT, evO_none, evO_some, ev_op, ev_v, ev_pk, ev_int, ev_ix, ev_lst, ev_tup, get_mk, List.getElem?_cons_zero, List.getElem?_cons_succ, R.lift_some, R.bind_ok, R.st_ok, optI_i, opSlT_l, gL, LD1, e1', op_add_i, e2, hj, truth_bl, Option.map_some, Bool.not_true, RS.seq_nx]
  simp only [callFn, f17, List.length_cons, List.length_nil, if_true, List.replicate, List.cons_append, List.nil_append, exs_cons, exs_nil, ex_ite, ev_nt, ev_call, evL_cons, evL_nil, ev_v, get_mk, List.getElem?_cons_zero, List.getElem?_cons_succ, R.lift_some, R.bind_ok, z, j1, truth_bl, Option.map_some, Bool.not_true, R.st_ok, RS.seq_nx, ex_fr, ev_lst, ev_str, items_lst, forL, asg_n, set_mk, List.set_cons_zero, List.set_cons_succ, body GE _ (.inr (.inl rfl)), body EQ _ (.inr (.inr rfl)), ex_ret, ev_bl, RS.seq_rt]
  rfl
abbrev st9 (a0 a1 a2 a3 a4 a5 a6 a7 a8 : D) (o : List Ob) : Env := ⟨[a0, a1, a2, a3, a4, a5, a6, a7, a8], o⟩
abbrev eu1 : List Z.S := [.asg (.n 7) (.cat (.cat (.slT (.v 4) none (some (.pk 5))) (.lst [(.op .add (.ix (.pk 4) (.pk 5)) (.pk 6))])) (.slT (.v 4) (some (.op .add (.pk 5) (.int 1))) none)), .asg (.n 8) (.cat (.cat (.slT (.v 1) none (some (.pk 3))) (.lst [(.tup [(.str [62]), (.bi .tuple [(.v 7)])])])) (.slT (.v 1) (some (.op .add (.pk 3) (.int 1))) none)), .ite (.nt (.call 11 [(.v 0), (.v 8), (.v 2)])) [.ret (.bl false)] []]
abbrev eu2 : List Z.S := [.fr (.n 6) (.lst [(.int 1), (.neg (.int 1))]) eu1]
theorem r_each {n : Nat} {o : List Ob} {c : Nat} {L : List Ln} {T : List Int} {j : Int} (h : Lns c L) (hB : ∀ p ∈ L, ∀ x ∈ p.2, x.natAbs ≤ 1000000000) (hc : c ≤ 1000) (hL : L.length ≤ 900) (j0 : 0 ≤ j) (jl : j < L.length) :
    run prog (n + 5) 18 [.int c, .lst (L.map LD), .lst (T.map .int), .int j] o = .ok (.bl true) [] o := by
  rw [run_eq (fn := f18) rfl]
  have J : JB (n + 4) o c := jb hc
  have hp := h.at_ (k := j.toNat) (by omega)
  have hm : L.getD j.toNat ([], []) ∈ L := by simp [show j.toNat < L.length by omega]
  have hBq := hB _ hm
  generalize hq : L.getD j.toNat ([], []) = q at hp hBq
  have gL : opIx (.lst (L.map LD)) (.int j) = some (LD q) := by rw [ix_l, get_Int (d := ([], [])) j0 jl, hq]
  have body : ∀ (u : Nat) (y : Int) (d7 d8 : D), u < c → (y = 1 ∨ y = -1) → ∃ x7 x8, exs prog.gl (run prog (n + 4)) prog.sub eu1 (st9 (.int c) (.lst (L.map LD)) (.lst (T.map .int)) (.int j) (.lst (q.2.map .int)) (.int (u : Int)) (.int y) d7 d8 o) =
      .nx (st9 (.int c) (.lst (L.map LD)) (.lst (T.map .int)) (.int j) (.lst (q.2.map .int)) (.int (u : Int)) (.int y) x7 x8 o) := by
    intro u y d7 d8 hu hy
    have hu2 : u < q.2.length := by rw [hp.len]; exact hu
    have hxl : (rep1 q.2 u (q.2.getD u 0 + y)).length = c := by rw [rep1_len hu2, hp.len]
    have gr : opIx (.lst (q.2.map .int)) (.int (u : Int)) = some (.int (q.2.getD u 0)) := by rw [ix_l, get_nat (F := D.int) (d := 0) hu2]
    have hok : LnOk c (GT, rep1 q.2 u (q.2.getD u 0 + y)) := ⟨.inl rfl, hxl, fun x hx => by
      rcases rep1_mem hx with rfl | hx
      · have := hBq (q.2.getD u 0) (by simp [hu2])
        unfold small; omega
      · exact hp.sm x hx⟩
    obtain ⟨e1, e2⟩ := rep1_cat (F := D.int) (x := q.2.getD u 0 + y) (l := q.2) (k := (u : Int)) (by omega) (by rw [hp.len]; exact hc)
    obtain ⟨e3, e4⟩ := rep1_cat (F := LD) (x := (GT, rep1 q.2 u (q.2.getD u 0 + y))) (l := L) (k := j) j0 (by omega)
    have e3' : opCat (.lst (cut (L.map LD) none (some j))) (.lst [.tup [.str [62], .tup ((rep1 q.2 u (q.2.getD u 0 + y)).map .int)]]) = some (.lst ((L.take j.toNat).map LD ++ [LD (GT, rep1 q.2 u (q.2.getD u 0 + y))])) := e3
    rw [Int.toNat_natCast] at e1 e2
    have hj : ∀ as st, callR (run prog (n + 4)) 11 as [.int c, .lst ((rep1 L j.toNat (GT, rep1 q.2 u (q.2.getD u 0 + y))).map LD), .lst (T.map .int)] ⟨st, o⟩ = .ok (.bl true) ⟨st, o⟩ := fun as st => J (rep1 L j.toNat (GT, rep1 q.2 u (q.2.getD u 0 + y))) T (Lns.rep1 (k := j.toNat) h hok) (Nat.le_trans rep1_le (by omega)) as st
    refine ⟨.lst ((rep1 q.2 u (q.2.getD u 0 + y)).map .int), .lst ((rep1 L j.toNat (GT, rep1 q.2 u (q.2.getD u 0 + y))).map LD), ?_⟩
    simp only [eu1, exs_cons, exs_nil, ex_asg, ex_ite, ev_nt, ev_call, evL_cons, evL_nil, ev_cat, ev_slT, evO_none, evO_some, ev_op, ev_v, ev_pk, ev_int, ev_str, ev_ix, ev_lst, ev_tup, ev_bi, tuple_l, get_mk, set_mk, List.set_cons_zero, List.set_cons_succ, asg_n, List.getElem?_cons_zero, List.getElem?_cons_succ, R.lift_some, R.bind_ok, R.st_ok, optI_i, opSlT_l, gr, e1, op_add_i, e2, e3', e4, hj, truth_bl, Option.map_some, Bool.not_true, RS.seq_nx]
  obtain ⟨e', h1, ⟨a5, a6, a7, a8, rfl⟩⟩ := for_run (t := .n 5) (b := exs prog.gl (run prog (n + 4)) prog.sub eu2) (F := fun k : Nat => D.int (k : Int)) (fun pre e => ∃ a5 a6 a7 a8, e = st9 (.int c) (.lst (L.map LD)) (.lst (T.map .int)) (.int j) (.lst (q.2.map .int)) a5 a6 a7 a8 o) (l := List.range c) (pre := []) (e := st9 (.int c) (.lst (L.map LD)) (.lst (T.map .int)) (.int j) (.lst (q.2.map .int)) .non .non .non .non o) ⟨_, _, _, _, rfl⟩ (by
    rintro pre u e ⟨a5, a6, a7, a8, rfl⟩ hu
    have hu : u < c := by simpa using hu
    obtain ⟨x7, x8, hA⟩ := body u 1 a7 a8 hu (.inl rfl)
    obtain ⟨y7, y8, hBb⟩ := body u (-1) x7 x8 hu (.inr rfl)
    refine ⟨st9 (.int c) (.lst (L.map LD)) (.lst (T.map .int)) (.int j) (.lst (q.2.map .int)) (.int (u : Int)) a6 a7 a8 o, st9 (.int c) (.lst (L.map LD)) (.lst (T.map .int)) (.int j) (.lst (q.2.map .int)) (.int (u : Int)) (.int (-1)) y7 y8 o, rfl, ?_, _, _, _, _, rfl⟩
    simp only [eu2, exs_cons, exs_nil, ex_fr, ev_lst, evL_cons, evL_nil, ev_int, ev_neg, R.bind_ok, R.st_ok, items_lst, forL, asg_n, set_mk, List.set_cons_zero, List.set_cons_succ, hA, hBb, RS.seq_nx])
  have hl : b1 .list [tupI q.2] = some (.lst (q.2.map .int)) := rfl
  simp only [callFn, f18, List.length_cons, List.length_nil, if_true, List.replicate, List.cons_append, List.nil_append, exs_cons, exs_nil, ex_asg, ex_fr, ev_bi, evL_cons, evL_nil, ev_ix, ev_v, ev_pk, ev_int, get_mk, set_mk, List.set_cons_zero, List.set_cons_succ, asg_n, List.getElem?_cons_zero, List.getElem?_cons_succ, R.lift_some, R.bind_ok, R.st_ok, gL, LD1, hl, RS.seq_nx]
  rw [evrg (n := c) rfl (by omega)]
  simp only [R.st_ok, items_itr]
  rw [h1]
  simp [ends, outsOf]
end LW

namespace LW
open Z
/-- numbers of at most B -/
def Bd (B : Nat) (l : List Int) : Prop := ∀ x ∈ l, x.natAbs ≤ B
theorem Bd.small {B : Nat} {l : List Int} (h : Bd B l) (hB : B ≤ 1000000000) : ∀ x ∈ l, small x := fun x hx => by have := h x hx; unfold Z.small; omega
theorem Bd.at_ {B : Nat} {l : List Int} (h : Bd B l) (k : Nat) : (l.getD k 0).natAbs ≤ B := by
  rw [List.getD_eq_getElem?_getD]
  cases e : l[k]? with
  | none => simp
  | some x => exact h x (List.mem_of_getElem? e)
structure LnB (c B : Nat) (p : Ln) : Prop where
  sg : Sg p.1
  len : p.2.length = c
  bd : Bd B p.2
theorem LnB.ok {c B : Nat} {p : Ln} (h : LnB c B p) (hB : B ≤ 1000000000) : LnOk c p := ⟨h.sg, h.len, h.bd.small hB⟩
theorem r_line {n : Nat} {o : List Ob} {s : Txt} {l b : List Int} {place amount : Int} (hs : Sg s) (hl : Bd 9 l) (hb : Bd 60000 b) (hlb : b.length = l.length) (hln : l.length ≤ 16) (h0 : 0 ≤ place) (hp : l.length = 0 ∨ place < l.length) (h1 : (b.getD place.toNat 0).natAbs ≤ 1) (ha : amount.natAbs ≤ 9) :
    ∃ l' : List Int, run prog (n + 2) 19 [.str s, .lst (l.map .int), .lst (b.map .int), .int place, .int amount] o = .ok (LD (s, l')) [] o ∧ LnB l.length 9000000 (s, l') := by
  rw [run_eq (fn := f19) rfl]
  by_cases hz : l.length = 0
  · have : l = [] := List.length_eq_zero_iff.mp hz
    subst this
    refine ⟨[], ?_, hs, rfl, fun x hx => by simp at hx⟩
    simp [callFn, f19, ends, outsOf, LD, tupI]
  · have hp : place < l.length := hp.resolve_left hz
    let l0 : List Int := (List.range l.length).map fun k : Nat => if (k : Int) = place then 0 else l.getD k 0
    have hl0 : Bd 9 l0 := fun x hx => by
      obtain ⟨k, hk, rfl⟩ := List.mem_map.mp hx
      by_cases hk' : (k : Int) = place
      · simp [hk']
      · simp only [if_neg hk']; exact hl.at_ k
    have hl0n : l0.length = l.length := by simp [l0]
    have hdot := dot_bound l0 b hl0 hb
    rw [hl0n] at hdot
    let v : Int := (amount - dot l0 b) * b.getD place.toNat 0
    have hv : v.natAbs ≤ 9000000 := by
      have h3 : v.natAbs = (amount - dot l0 b).natAbs * (b.getD place.toNat 0).natAbs := Int.natAbs_mul _ _
      have h4 : (amount - dot l0 b).natAbs ≤ 9 + 9 * 60000 * l.length := by omega
      have h5 : 9 * 60000 * l.length ≤ 9 * 60000 * 16 := Nat.mul_le_mul_left _ hln
      have h6 : (amount - dot l0 b).natAbs * (b.getD place.toNat 0).natAbs ≤ (amount - dot l0 b).natAbs * 1 := Nat.mul_le_mul_left _ h1
      omega
    refine ⟨l0.set place.toNat v, ?_, hs, by simp [hl0n], fun x hx => ?_⟩
    rotate_left
    · rcases List.mem_or_eq_of_mem_set hx with hx | rfl
      · exact Nat.le_trans (hl0 x hx) (by decide)
      · exact hv
    have z : ev prog.gl (run prog (n + 1)) (.lc (.ife (.cmp .eq (.pk 6) (.pk 3)) (.int 0) (.ix (.v 1) (.pk 6))) (.n 6) (.rg (.bi .len [(.pk 1)])) []) ⟨[.str s, .lst (l.map .int), .lst (b.map .int), .int place, .int amount, .non, .non], o⟩ = .ok (.lst (l0.map .int)) ⟨[.str s, .lst (l.map .int), .lst (b.map .int), .int place, .int amount, .non, .non], o⟩ := by
      rw [lc_n (l := List.range (l.map D.int).length) (F := fun k : Nat => D.int (k : Int)) (g := fun k : Nat => D.int (if (k : Int) = place then 0 else l.getD k 0)) (evrgl rfl (by simp; omega)) rfl (by simp) (fun k hk => ?_) (by simp; omega)]
      · simp only [l0, List.map_map, List.length_map]; rfl
      · have hk : k < l.length := by simpa using hk
        have gl : opIx (.lst (l.map .int)) (.int (k : Int)) = some (.int (l.getD k 0)) := by rw [ix_l, get_nat (F := D.int) (d := 0) hk]
        by_cases hk' : (k : Int) = place
        · simp [hk']
        · have : ((k : Int) == place) = false := by simpa using hk'
          simp only [ev_ife, ev_cmp, ev_pk, ev_int, ev_ix, ev_v, get_mk, set_mk, List.set_cons_zero, List.set_cons_succ, List.getElem?_cons_zero, List.getElem?_cons_succ, R.lift_some, R.bind_ok, cp_eq_i, this, Option.map_some, truth_bl, gl, if_neg hk']
    have c6 : ∀ as st, callR (run prog (n + 1)) 6 as [.lst (l0.map .int), .lst (b.map .int)] ⟨st, o⟩ = .ok (.int (dot l0 b)) ⟨st, o⟩ := fun as st => callR_ok (r_lawvalue (n := n) (.inl rfl) (hl0.small (by decide)) (by omega) (by omega))
    have gb : opIx (.lst (b.map .int)) (.int place) = some (.int (b.getD place.toNat 0)) := by rw [ix_l, get_Int (d := 0) h0 (by omega)]
    have hmul : op2 .mul (.int (amount - dot l0 b)) (.int (b.getD place.toNat 0)) = some (.int v) := op_mul_r (show (b.getD place.toNat 0).natAbs < 2 ^ 64 from Nat.lt_of_le_of_lt h1 (by decide))
    have hlz : ((l.length : Int) == 0) = false := by simp only [beq_eq_false_iff_ne]; omega
    simp only [callFn, f19, List.length_cons, List.length_nil, if_true, List.replicate, List.cons_append, List.nil_append, exs_cons, exs_nil, ex_asg, ex_ite, ev_cmp, ev_bi, evL_cons, evL_nil, ev_pk, ev_int, get_mk, set_mk, List.set_cons_zero, List.set_cons_succ, asg_n, List.getElem?_cons_zero, List.getElem?_cons_succ, R.lift_some, R.bind_ok, R.st_ok, len_l, List.length_map, cp_eq_i, hlz, Option.map_some, truth_bl, RS.seq_nx, z, ex_six, ev_op, ev_call, ev_bo, ev_v, c6, op_sub_i, ev_ix, gb, hmul, evP_pk, Option.bind_some, getP_nil]
    rw [six_ok (xs := l0.map .int) rfl h0 (by simp; omega), ← List.map_set]
    simp [ends, outsOf, LD, tupI]
/-! ### lines that fit -/
abbrev st18 (a0 a1 a2 a3 a4 a5 a6 a7 a8 a9 a10 a11 a12 a13 a14 a15 a16 a17 : D) (o : List Ob) : Env := ⟨[a0, a1, a2, a3, a4, a5, a6, a7, a8, a9, a10, a11, a12, a13, a14, a15, a16, a17], o⟩
abbrev fA : List Z.S := [.asg (.n 2) (.op .mod (.bi .int [(.ix (.pk 1) (.int 8))]) (.int 8)), .asg (.n 3) (.op .mod (.bi .int [(.ix (.pk 1) (.int 9))]) (.int 9)), .ite (.cmp .eq (.op .mod (.bi .int [(.ix (.pk 1) (.int 2))]) (.int 16)) (.int 5)) [.asg (.n 2) (.int 15), .asg (.n 3) (.int 59)] []]
abbrev fB : List Z.S := [.asg (.n 4) (.int 9), .asg (.n 5) (.int 9), .ite (.cmp .eq (.op .mod (.bi .int [(.ix (.pk 1) (.int 10))]) (.int 8)) (.int 3)) [.asg (.n 4) (.int 60000), .asg (.n 5) (.int 1)] []]
abbrev fC : List Z.S := [.asg (.n 6) (.lc (.op .sub (.pk 17) (.pk 4)) (.n 17) (.call 5 [(.v 0), (.int 4), (.v 2), (.op .add (.op .mul (.int 2) (.pk 4)) (.int 1))]) []), .asg (.n 7) (.int 0), .ite (.cmp .gt (.pk 2) (.int 0)) [.asg (.n 7) (.op .mod (.bi .int [(.ix (.pk 1) (.int 11))]) (.pk 2)), .six (.pk 6) (.pk 7) (.ix (.lst [(.int 1), (.neg (.int 1))]) (.op .mod (.bi .int [(.ix (.pk 1) (.int 12))]) (.int 2)))] []]
abbrev fD : List Z.S := [.asg (.n 8) (.lc (.op .sub (.pk 17) (.pk 5)) (.n 17) (.call 5 [(.v 0), (.int 5), (.op .mul (.pk 2) (.pk 3)), (.op .add (.op .mul (.int 2) (.pk 5)) (.int 1))]) []), .asg (.n 9) (.call 5 [(.v 0), (.int 6), (.v 3), (.int 12)]), .asg (.n 10) (.lst []), .asg (.n 11) (.lst [])]
abbrev fE1 : List Z.S := [.asg (.n 13) (.ix (.lst [(.str [62]), (.str [62, 61]), (.str [61])]) (.op .mod (.bi .int [(.ix (.pk 9) (.pk 12))]) (.int 3))), .ite (.and (.cmp .eq (.pk 2) (.int 0)) (.cmp .eq (.pk 13) (.str [62]))) [.asg (.n 13) (.str [62, 61])] [], .asg (.n 14) (.ix (.ix (.lst [(.lst [(.int 1), (.int 1), (.int 2), (.int 9)]), (.lst [(.int 0), (.int 0), (.int 1), (.int 7)]), (.lst [(.int 0), (.int 0), (.int 0), (.int 0)])]) (.mt .index (.lst [(.str [62]), (.str [62, 61]), (.str [61])]) [(.pk 13)])) (.bi .int [(.op .fdiv (.ix (.pk 9) (.pk 12)) (.int 3))])), .asg (.n 15) (.ix (.ix (.lst [(.lst [(.int 0), (.int 0), (.neg (.int 1)), (.int 0)]), (.lst [(.neg (.int 1)), (.neg (.int 1)), (.neg (.int 2)), (.neg (.int 1))]), (.lst [(.int 1), (.neg (.int 1)), (.int 1), (.neg (.int 1))])]) (.mt .index (.lst [(.str [62]), (.str [62, 61]), (.str [61])]) [(.pk 13)])) (.bi .int [(.op .fdiv (.ix (.pk 9) (.pk 12)) (.int 3))])), .asg (.n 16) (.slT (.v 8) (some (.op .mul (.pk 12) (.pk 2))) (some (.op .add (.op .mul (.pk 12) (.pk 2)) (.pk 2))))]
abbrev fE2 : List Z.S := [.app (.pk 10) (.call 19 [(.v 13), (.v 16), (.v 6), (.v 7), (.v 14)]), .app (.pk 11) (.call 19 [(.v 13), (.v 16), (.v 6), (.v 7), (.v 15)])]
theorem f20_body : f20.body = fA ++ (fB ++ (fC ++ (fD ++ [.fr (.n 12) (.rg (.pk 3)) (fE1 ++ fE2), .ret (.tup [(.fl (.pk 2)), (.v 10), (.v 6), (.v 11)])]))) := rfl
theorem gsh {sh : List Int} (k : Nat) (h : k < sh.length) : opIx (.lst (sh.map .int)) (.int (k : Int)) = some (.int (sh.getD k 0)) := by rw [ix_l, get_nat (F := D.int) (d := 0) h]
section
variable {n : Nat} {o : List Ob} {ns sh : List Int}
theorem segA (hsh : sh.length = 16) {S : D} : ∃ c m : Nat, c ≤ 15 ∧ m ≤ 59 ∧ exs prog.gl (run prog n) prog.sub fA (st18 S (.lst (sh.map .int)) .non .non .non .non .non .non .non .non .non .non .non .non .non .non .non .non o) =
    .nx (st18 S (.lst (sh.map .int)) (.int (c : Int)) (.int (m : Int)) .non .non .non .non .non .non .non .non .non .non .non .non .non .non o) := by
  obtain ⟨c, hc, hc2⟩ := fmod_nat (sh.getD 8 0) (show 0 < 8 by decide)
  obtain ⟨m, hm, hm2⟩ := fmod_nat (sh.getD 9 0) (show 0 < 9 by decide)
  have g8 := gsh (sh := sh) 8 (by omega)
  have g9 := gsh (sh := sh) 9 (by omega)
  have g2 := gsh (sh := sh) 2 (by omega)
  have m8 : op2 .mod (.int (sh.getD 8 0)) (.int 8) = some (.int (c : Int)) := by rw [op_mod_i (by decide)]; exact congrArg (fun x => some (D.int x)) hc
  have m9 : op2 .mod (.int (sh.getD 9 0)) (.int 9) = some (.int (m : Int)) := by rw [op_mod_i (by decide)]; exact congrArg (fun x => some (D.int x)) hm
  by_cases h : ((sh.getD 2 0).fmod 16 == 5) = true
  · refine ⟨15, 59, by decide, by decide, ?_⟩
    simp only [fA, exs_cons, exs_nil, ex_asg, ex_ite, ev_op, ev_bi, evL_cons, evL_nil, ev_ix, ev_pk, ev_int, ev_cmp, get_mk, set_mk, List.set_cons_zero, List.set_cons_succ, asg_n, List.getElem?_cons_zero, List.getElem?_cons_succ, R.lift_some, R.bind_ok, R.st_ok, int_i, (show opIx (.lst (sh.map .int)) (.int 8) = _ from g8), (show opIx (.lst (sh.map .int)) (.int 9) = _ from g9), (show opIx (.lst (sh.map .int)) (.int 2) = _ from g2), m8, m9, op_mod_i (show (16 : Int) ≠ 0 by decide), cp_eq_i, h, Option.map_some, truth_bl, RS.seq_nx]
    rfl
  · have h : ((sh.getD 2 0).fmod 16 == 5) = false := by simpa using h
    refine ⟨c, m, by omega, by omega, ?_⟩
    simp only [fA, exs_cons, exs_nil, ex_asg, ex_ite, ev_op, ev_bi, evL_cons, evL_nil, ev_ix, ev_pk, ev_int, ev_cmp, get_mk, set_mk, List.set_cons_zero, List.set_cons_succ, asg_n, List.getElem?_cons_zero, List.getElem?_cons_succ, R.lift_some, R.bind_ok, R.st_ok, int_i, (show opIx (.lst (sh.map .int)) (.int 8) = _ from g8), (show opIx (.lst (sh.map .int)) (.int 9) = _ from g9), (show opIx (.lst (sh.map .int)) (.int 2) = _ from g2), m8, m9, op_mod_i (show (16 : Int) ≠ 0 by decide), cp_eq_i, h, Option.map_some, truth_bl, RS.seq_nx]
theorem segB (hsh : sh.length = 16) {S a2 a3 : D} : ∃ w r : Nat, w ≤ 60000 ∧ r ≤ 9 ∧ exs prog.gl (run prog n) prog.sub fB (st18 S (.lst (sh.map .int)) a2 a3 .non .non .non .non .non .non .non .non .non .non .non .non .non .non o) =
    .nx (st18 S (.lst (sh.map .int)) a2 a3 (.int (w : Int)) (.int (r : Int)) .non .non .non .non .non .non .non .non .non .non .non .non o) := by
  have g10 := gsh (sh := sh) 10 (by omega)
  cases h : ((sh.getD 10 0).fmod 8 == 3) with
  | true =>
    refine ⟨60000, 1, by decide, by decide, ?_⟩
    simp only [fB, exs_cons, exs_nil, ex_asg, ex_ite, ev_op, ev_bi, evL_cons, evL_nil, ev_ix, ev_pk, ev_int, ev_cmp, get_mk, set_mk, List.set_cons_zero, List.set_cons_succ, asg_n, List.getElem?_cons_zero, List.getElem?_cons_succ, R.lift_some, R.bind_ok, R.st_ok, int_i, (show opIx (.lst (sh.map .int)) (.int 10) = _ from g10), op_mod_i (show (8 : Int) ≠ 0 by decide), cp_eq_i, h, Option.map_some, truth_bl, RS.seq_nx]
    rfl
  | false =>
    refine ⟨9, 9, by decide, by decide, ?_⟩
    simp only [fB, exs_cons, exs_nil, ex_asg, ex_ite, ev_op, ev_bi, evL_cons, evL_nil, ev_ix, ev_pk, ev_int, ev_cmp, get_mk, set_mk, List.set_cons_zero, List.set_cons_succ, asg_n, List.getElem?_cons_zero, List.getElem?_cons_succ, R.lift_some, R.bind_ok, R.st_ok, int_i, (show opIx (.lst (sh.map .int)) (.int 10) = _ from g10), op_mod_i (show (8 : Int) ≠ 0 by decide), cp_eq_i, h, Option.map_some, truth_bl, RS.seq_nx]
    rfl
/-- many numbers, moved to both sides of nothing -/
theorem r_mov {w many : Nat} {k : Int} (hk : 0 ≤ k) (hk2 : k ≤ 1000) (hm : many ≤ 1000) (hw : w ≤ 60000) : ∃ l : List Int, run prog (n + 2) 5 [.lst (ns.map .int), .int k, .int (many : Int), .int (2 * (w : Int) + 1)] o = .ok (.lst (l.map .int)) [] o ∧ l.length = many ∧ Bd w (l.map fun x => x - (w : Int)) := by
  obtain ⟨l, h1, h2, h3⟩ := r_many (n := n) (o := o) (ns := ns) (k := k) (many := (many : Int)) (limit := 2 * (w : Int) + 1) hk hk2 (by omega) (by omega) (by omega) (by omega)
  refine ⟨l, h1, by simpa using h2, fun x hx => ?_⟩
  obtain ⟨y, hy, rfl⟩ := List.mem_map.mp hx
  have := h3 y hy
  omega
theorem segC (hsh : sh.length = 16) {c w r : Nat} {a3 : D} (hc : c ≤ 15) (hw : w ≤ 60000) : ∃ (b : List Int) (p : Int), b.length = c ∧ Bd 60000 b ∧ 0 ≤ p ∧ (c = 0 ∨ p < c) ∧ (b.getD p.toNat 0).natAbs ≤ 1 ∧
    exs prog.gl (run prog (n + 2)) prog.sub fC (st18 (.lst (ns.map .int)) (.lst (sh.map .int)) (.int (c : Int)) a3 (.int (w : Int)) (.int (r : Int)) .non .non .non .non .non .non .non .non .non .non .non .non o) =
    .nx (st18 (.lst (ns.map .int)) (.lst (sh.map .int)) (.int (c : Int)) a3 (.int (w : Int)) (.int (r : Int)) (.lst (b.map .int)) (.int p) .non .non .non .non .non .non .non .non .non .non o) := by
  obtain ⟨l, h1, h2, h3⟩ := r_mov (n := n) (o := o) (ns := ns) (w := w) (many := c) (k := 4) (by decide) (by decide) (by omega) hw
  let b0 := l.map fun x => x - (w : Int)
  have hb0 : b0.length = c := by simp [b0, h2]
  have c5 : ∀ as st, callR (run prog (n + 2)) 5 as [.lst (ns.map .int), .int 4, .int (c : Int), .int (2 * (w : Int) + 1)] ⟨st, o⟩ = .ok (.lst (l.map .int)) ⟨st, o⟩ := fun as st => callR_ok h1
  have mw : op2 .mul (.int 2) (.int (w : Int)) = some (.int (2 * (w : Int))) := op_mul_l (by decide)
  have z : ev prog.gl (run prog (n + 2)) (.lc (.op .sub (.pk 17) (.pk 4)) (.n 17) (.call 5 [(.v 0), (.int 4), (.v 2), (.op .add (.op .mul (.int 2) (.pk 4)) (.int 1))]) []) (st18 (.lst (ns.map .int)) (.lst (sh.map .int)) (.int (c : Int)) a3 (.int (w : Int)) (.int (r : Int)) .non .non .non .non .non .non .non .non .non .non .non .non o) = .ok (.lst (b0.map .int)) (st18 (.lst (ns.map .int)) (.lst (sh.map .int)) (.int (c : Int)) a3 (.int (w : Int)) (.int (r : Int)) .non .non .non .non .non .non .non .non .non .non .non .non o) := by
    rw [lc_n (l := l) (F := D.int) (x := .lst (l.map .int)) (g := fun x => D.int (x - (w : Int))) (by simp [mw, c5]) rfl (by simp) (fun a ha => by simp) (by omega)]
    simp only [b0, List.map_map]; rfl
  by_cases h0 : c = 0
  · subst h0
    have hb1 : b0 = [] := List.length_eq_zero_iff.mp hb0
    refine ⟨b0, 0, hb0, fun x hx => by rw [hb1] at hx; simp at hx, by decide, .inl rfl, by simp [hb1], ?_⟩
    simp only [fC, exs_cons, exs_nil, ex_asg, z, R.st_ok, asg_n, set_mk, List.set_cons_zero, List.set_cons_succ, RS.seq_nx, ev_int, ex_ite, ev_cmp, ev_pk, get_mk, List.getElem?_cons_zero, List.getElem?_cons_succ, R.lift_some, R.bind_ok, cp_gt_i]
    simp
  · have g11 := gsh (sh := sh) 11 (by omega)
    have g12 := gsh (sh := sh) 12 (by omega)
    obtain ⟨p, hp, hp2⟩ := fmod_nat (sh.getD 11 0) (show 0 < c by omega)
    obtain ⟨q, hq, hq2⟩ := fmod_nat (sh.getD 12 0) (show 0 < 2 by decide)
    have mp : op2 .mod (.int (sh.getD 11 0)) (.int (c : Int)) = some (.int (p : Int)) := by rw [op_mod_i (by omega), hp]
    have mq : op2 .mod (.int (sh.getD 12 0)) (.int 2) = some (.int (q : Int)) := by rw [op_mod_i (by decide)]; exact congrArg (fun x => some (D.int x)) hq
    obtain ⟨u, hu, hu1⟩ : ∃ u : Int, opIx (.lst [.int 1, .int (-1)]) (.int (q : Int)) = some (.int u) ∧ u.natAbs ≤ 1 := by
      rcases (show q = 0 ∨ q = 1 by omega) with rfl | rfl
      · exact ⟨1, rfl, by decide⟩
      · exact ⟨-1, rfl, by decide⟩
    have hgt : decide ((0 : Int) < (c : Int)) = true := decide_eq_true (by omega)
    refine ⟨b0.set p u, (p : Int), by simp [hb0], fun x hx => ?_, by omega, .inr (by omega), ?_, ?_⟩
    · rcases List.mem_or_eq_of_mem_set hx with hx | rfl
      · exact Nat.le_trans (h3 x hx) hw
      · omega
    · simp [show p < b0.length by omega, hu1]
    · simp only [fC, exs_cons, exs_nil, ex_asg, z, R.st_ok, asg_n, set_mk, List.set_cons_zero, List.set_cons_succ, RS.seq_nx, ev_int, ex_ite, ev_cmp, ev_pk, get_mk, List.getElem?_cons_zero, List.getElem?_cons_succ, R.lift_some, R.bind_ok, cp_gt_i, hgt, Option.map_some, truth_bl, ev_op, ev_bi, evL_cons, evL_nil, ev_ix, int_i, (show opIx (.lst (sh.map .int)) (.int 11) = _ from g11), (show opIx (.lst (sh.map .int)) (.int 12) = _ from g12), mp, mq, ex_six, ev_lst, ev_neg, hu, evP_pk, Option.bind_some, getP_nil]
      rw [six_ok (xs := b0.map .int) rfl (by omega) (by simp; omega), ← List.map_set]
      simp
end
end LW

namespace LW
open Z
section
variable {n : Nat} {o : List Ob} {ns sh : List Int}
theorem segD {c m w r : Nat} {a6 a7 : D} (hc : c ≤ 15) (hm : m ≤ 59) (hr : r ≤ 9) : ∃ (E P : List Int), E.length = c * m ∧ Bd 9 E ∧ P.length = m ∧ (∀ x ∈ P, 0 ≤ x ∧ x < 12) ∧
    exs prog.gl (run prog (n + 2)) prog.sub fD (st18 (.lst (ns.map .int)) (.lst (sh.map .int)) (.int (c : Int)) (.int (m : Int)) (.int (w : Int)) (.int (r : Int)) a6 a7 .non .non .non .non .non .non .non .non .non .non o) =
    .nx (st18 (.lst (ns.map .int)) (.lst (sh.map .int)) (.int (c : Int)) (.int (m : Int)) (.int (w : Int)) (.int (r : Int)) a6 a7 (.lst (E.map .int)) (.lst (P.map .int)) (.lst []) (.lst []) .non .non .non .non .non .non o) := by
  have hcm : c * m ≤ 15 * 59 := Nat.mul_le_mul hc hm
  obtain ⟨l, h1, h2, h3⟩ := r_mov (n := n) (o := o) (ns := ns) (w := r) (many := c * m) (k := 5) (by decide) (by decide) (by omega) (by omega)
  obtain ⟨P, p1, p2, p3⟩ := r_many (n := n) (o := o) (ns := ns) (k := 6) (many := (m : Int)) (limit := 12) (by decide) (by decide) (by omega) (by omega) (by decide) (by decide)
  have c5 : ∀ as st, callR (run prog (n + 2)) 5 as [.lst (ns.map .int), .int 5, .int ((c : Int) * (m : Int)), .int (2 * (r : Int) + 1)] ⟨st, o⟩ = .ok (.lst (l.map .int)) ⟨st, o⟩ := fun as st => callR_ok (by rw [← Int.natCast_mul]; exact h1)
  have c6 : ∀ as st, callR (run prog (n + 2)) 5 as [.lst (ns.map .int), .int 6, .int (m : Int), .int 12] ⟨st, o⟩ = .ok (.lst (P.map .int)) ⟨st, o⟩ := fun as st => callR_ok p1
  have mw : op2 .mul (.int 2) (.int (r : Int)) = some (.int (2 * (r : Int))) := op_mul_l (by decide)
  have mcm : op2 .mul (.int (c : Int)) (.int (m : Int)) = some (.int ((c : Int) * (m : Int))) := op_mul_l (by omega)
  have z : ev prog.gl (run prog (n + 2)) (.lc (.op .sub (.pk 17) (.pk 5)) (.n 17) (.call 5 [(.v 0), (.int 5), (.op .mul (.pk 2) (.pk 3)), (.op .add (.op .mul (.int 2) (.pk 5)) (.int 1))]) []) (st18 (.lst (ns.map .int)) (.lst (sh.map .int)) (.int (c : Int)) (.int (m : Int)) (.int (w : Int)) (.int (r : Int)) a6 a7 .non .non .non .non .non .non .non .non .non .non o) = .ok (.lst ((l.map fun x => x - (r : Int)).map .int)) (st18 (.lst (ns.map .int)) (.lst (sh.map .int)) (.int (c : Int)) (.int (m : Int)) (.int (w : Int)) (.int (r : Int)) a6 a7 .non .non .non .non .non .non .non .non .non .non o) := by
    rw [lc_n (l := l) (F := D.int) (x := .lst (l.map .int)) (g := fun x => D.int (x - (r : Int))) (by simp [mw, mcm, c5]) rfl (by simp) (fun a ha => by simp) (by omega)]
    simp only [List.map_map]; rfl
  refine ⟨l.map fun x => x - (r : Int), P, by simp [h2], fun x hx => Nat.le_trans (h3 x hx) hr, by simpa using p2, p3, ?_⟩
  simp only [fD, exs_cons, exs_nil, ex_asg, z, R.st_ok, asg_n, set_mk, List.set_cons_zero, List.set_cons_succ, RS.seq_nx, ev_call, evL_cons, evL_nil, ev_v, ev_int, get_mk, List.getElem?_cons_zero, List.getElem?_cons_succ, R.lift_some, R.bind_ok, c6, ev_lst]
theorem tabs {s : Txt} (hs : Sg s) {f : Nat} (hf : f < 4) : ∃ (i : Int) (r1 r2 : D) (a b : Int), m1 .index (.lst [.str GT, .str GE, .str EQ]) [.str s] = some (.int i) ∧
    opIx (.lst [.lst [.int 1, .int 1, .int 2, .int 9], .lst [.int 0, .int 0, .int 1, .int 7], .lst [.int 0, .int 0, .int 0, .int 0]]) (.int i) = some r1 ∧ opIx r1 (.int (f : Int)) = some (.int a) ∧
    opIx (.lst [.lst [.int 0, .int 0, .int (-1), .int 0], .lst [.int (-1), .int (-1), .int (-2), .int (-1)], .lst [.int 1, .int (-1), .int 1, .int (-1)]]) (.int i) = some r2 ∧ opIx r2 (.int (f : Int)) = some (.int b) ∧ a.natAbs ≤ 9 ∧ b.natAbs ≤ 9 := by
  rcases hs with rfl | rfl | rfl
  · match f, hf with
    | 0, _ => exact ⟨0, _, _, 1, 0, rfl, rfl, rfl, rfl, rfl, by decide, by decide⟩
    | 1, _ => exact ⟨0, _, _, 1, 0, rfl, rfl, rfl, rfl, rfl, by decide, by decide⟩
    | 2, _ => exact ⟨0, _, _, 2, -1, rfl, rfl, rfl, rfl, rfl, by decide, by decide⟩
    | 3, _ => exact ⟨0, _, _, 9, 0, rfl, rfl, rfl, rfl, rfl, by decide, by decide⟩
  · match f, hf with
    | 0, _ => exact ⟨1, _, _, 0, -1, rfl, rfl, rfl, rfl, rfl, by decide, by decide⟩
    | 1, _ => exact ⟨1, _, _, 0, -1, rfl, rfl, rfl, rfl, rfl, by decide, by decide⟩
    | 2, _ => exact ⟨1, _, _, 1, -2, rfl, rfl, rfl, rfl, rfl, by decide, by decide⟩
    | 3, _ => exact ⟨1, _, _, 7, -1, rfl, rfl, rfl, rfl, rfl, by decide, by decide⟩
  · match f, hf with
    | 0, _ => exact ⟨2, _, _, 0, 1, rfl, rfl, rfl, rfl, rfl, by decide, by decide⟩
    | 1, _ => exact ⟨2, _, _, 0, -1, rfl, rfl, rfl, rfl, rfl, by decide, by decide⟩
    | 2, _ => exact ⟨2, _, _, 0, 1, rfl, rfl, rfl, rfl, rfl, by decide, by decide⟩
    | 3, _ => exact ⟨2, _, _, 0, -1, rfl, rfl, rfl, rfl, rfl, by decide, by decide⟩
theorem sgn3 (t : Nat) (h : t < 3) : ∃ s, Sg s ∧ opIx (.lst [.str [62], .str [62, 61], .str [61]]) (.int (t : Int)) = some (.str s) := by
  match t, h with
  | 0, _ => exact ⟨GT, .inl rfl, rfl⟩
  | 1, _ => exact ⟨GE, .inr (.inl rfl), rfl⟩
  | 2, _ => exact ⟨EQ, .inr (.inr rfl), rfl⟩
theorem segE {c m w r k : Nat} {E P b : List Int} {p : Int} {a10 a11 a13 a14 a15 a16 a17 : D} (hm : m ≤ 59) (hc : c ≤ 15) (hE : E.length = c * m) (hE9 : Bd 9 E) (hP : P.length = m) (hP2 : ∀ x ∈ P, 0 ≤ x ∧ x < 12) (hk : k < m) :
    ∃ (s : Txt) (row : List Int) (a d : Int), Sg s ∧ row.length = c ∧ Bd 9 row ∧ a.natAbs ≤ 9 ∧ d.natAbs ≤ 9 ∧ exs prog.gl (run prog n) prog.sub fE1 (st18 (.lst (ns.map .int)) (.lst (sh.map .int)) (.int (c : Int)) (.int (m : Int)) (.int (w : Int)) (.int (r : Int)) (.lst (b.map .int)) (.int p) (.lst (E.map .int)) (.lst (P.map .int)) a10 a11 (.int (k : Int)) a13 a14 a15 a16 a17 o) =
    .nx (st18 (.lst (ns.map .int)) (.lst (sh.map .int)) (.int (c : Int)) (.int (m : Int)) (.int (w : Int)) (.int (r : Int)) (.lst (b.map .int)) (.int p) (.lst (E.map .int)) (.lst (P.map .int)) a10 a11 (.int (k : Int)) (.str s) (.int a) (.int d) (.lst (row.map .int)) a17 o) := by
  have gP := gsh (sh := P) k (by omega)
  have hq := hP2 (P.getD k 0) (by simp [show k < P.length by omega])
  generalize P.getD k 0 = q at gP hq
  obtain ⟨t, ht, ht2⟩ := fmod_nat q (show 0 < 3 by decide)
  have mt : op2 .mod (.int q) (.int 3) = some (.int (t : Int)) := by rw [op_mod_i (by decide)]; exact congrArg (fun x => some (D.int x)) ht
  obtain ⟨f, hf, hf2⟩ : ∃ f : Nat, q.fdiv 3 = (f : Int) ∧ f < 4 := by
    have : q.fdiv 3 = q / 3 := Int.fdiv_eq_ediv_of_nonneg _ (by decide)
    exact ⟨(q / 3).toNat, by omega, by omega⟩
  have df : op2 .fdiv (.int q) (.int 3) = some (.int (f : Int)) := by rw [op_div_i (by decide) (by decide), hf]
  obtain ⟨s0, hs0, gs⟩ := sgn3 t ht2
  have hle : k * c + c ≤ E.length := by
    rw [hE, show k * c + c = (k + 1) * c by rw [Nat.succ_mul], Nat.mul_comm c m]
    exact Nat.mul_le_mul_right _ hk
  let row := (E.drop (k * c)).take c
  have hrow : row.length = c := by simp only [row, List.length_take, List.length_drop]; omega
  have hcut : cut (E.map D.int) (some ((k : Int) * (c : Int))) (some ((k : Int) * (c : Int) + (c : Int))) = row.map .int := by
    have := cut_mid (l := E) (a := k * c) (b := k * c + c) (by omega) hle
    rw [cut_map, show (k : Int) * (c : Int) = ((k * c : Nat) : Int) by simp, show ((k * c : Nat) : Int) + (c : Int) = ((k * c + c : Nat) : Int) by simp, this]
    simp only [row, show k * c + c - k * c = c by omega]
  have mkc : op2 .mul (.int (k : Int)) (.int (c : Int)) = some (.int ((k : Int) * (c : Int))) := op_mul_l (by omega)
  have key : ∀ s1 : Txt, Sg s1 → ((if (c = 0 ∧ s0 = GT) then GE else s0) = s1) → ∃ (a d : Int), a.natAbs ≤ 9 ∧ d.natAbs ≤ 9 ∧ exs prog.gl (run prog n) prog.sub fE1 (st18 (.lst (ns.map .int)) (.lst (sh.map .int)) (.int (c : Int)) (.int (m : Int)) (.int (w : Int)) (.int (r : Int)) (.lst (b.map .int)) (.int p) (.lst (E.map .int)) (.lst (P.map .int)) a10 a11 (.int (k : Int)) a13 a14 a15 a16 a17 o) =
    .nx (st18 (.lst (ns.map .int)) (.lst (sh.map .int)) (.int (c : Int)) (.int (m : Int)) (.int (w : Int)) (.int (r : Int)) (.lst (b.map .int)) (.int p) (.lst (E.map .int)) (.lst (P.map .int)) a10 a11 (.int (k : Int)) (.str s1) (.int a) (.int d) (.lst (row.map .int)) a17 o) := by
    intro s1 hs1 he
    obtain ⟨i, r1, r2, a, d, e0, e1, e2, e3, e4, e5, e6⟩ := tabs hs1 hf2
    have e0' : (if mtOk .index (.lst [.str [62], .str [62, 61], .str [61]]) = true then m1 .index (.lst [.str [62], .str [62, 61], .str [61]]) [.str s1] else none) = some (.int i) := e0
    have hok : mtOk .index (.lst [.str [62], .str [62, 61], .str [61]]) = true := rfl
    have e0'' : m1 .index (.lst [.str [62], .str [62, 61], .str [61]]) [.str s1] = some (.int i) := e0
    refine ⟨a, d, e5, e6, ?_⟩
    have sel : exs prog.gl (run prog n) prog.sub [.ite (.and (.cmp .eq (.pk 2) (.int 0)) (.cmp .eq (.pk 13) (.str [62]))) [.asg (.n 13) (.str [62, 61])] []] (st18 (.lst (ns.map .int)) (.lst (sh.map .int)) (.int (c : Int)) (.int (m : Int)) (.int (w : Int)) (.int (r : Int)) (.lst (b.map .int)) (.int p) (.lst (E.map .int)) (.lst (P.map .int)) a10 a11 (.int (k : Int)) (.str s0) a14 a15 a16 a17 o) = .nx (st18 (.lst (ns.map .int)) (.lst (sh.map .int)) (.int (c : Int)) (.int (m : Int)) (.int (w : Int)) (.int (r : Int)) (.lst (b.map .int)) (.int p) (.lst (E.map .int)) (.lst (P.map .int)) a10 a11 (.int (k : Int)) (.str s1) a14 a15 a16 a17 o) := by
      by_cases hc0 : c = 0
      · by_cases hg : s0 = GT
        · rw [if_pos ⟨hc0, hg⟩] at he
          subst he hg hc0
          simp
        · rw [if_neg (fun z => hg z.2)] at he
          subst he hc0
          have : (s0 == [62]) = false := by simpa using hg
          simp [this]
      · rw [if_neg (fun z => hc0 z.1)] at he
        subst he
        have : ((c : Int) == 0) = false := by simp only [beq_eq_false_iff_ne]; omega
        simp only [exs_cons, exs_nil, ex_ite, ev_and, ev_cmp, ev_pk, ev_int, get_mk, List.getElem?_cons_zero, List.getElem?_cons_succ, R.lift_some, R.bind_ok, cp_eq_i, this, Option.map_some, truth_bl, R.st_ok, RS.seq_nx]
    rw [exs_one] at sel
    simp only [fE1, exs_cons, exs_nil, ex_asg, ev_ix, ev_lst, ev_str, evL_cons, evL_nil, ev_op, ev_bi, ev_pk, ev_v, ev_int, ev_neg, ev_mt, ev_slT, evO_some, get_mk, set_mk, List.set_cons_zero, List.set_cons_succ, asg_n, List.getElem?_cons_zero, List.getElem?_cons_succ, R.lift_some, R.bind_ok, R.st_ok, int_i, gP, mt, gs, RS.seq_nx, sel, hok, if_true, e0'', e1, e2, e3, e4, df, mkc, op_add_i, optI_i, opSlT_l, hcut]
  have hsg : Sg (if (c = 0 ∧ s0 = GT) then GE else s0) := by
    split
    · exact .inr (.inl rfl)
    · exact hs0
  obtain ⟨a, d, k1, k2, k3⟩ := key _ hsg rfl
  exact ⟨_, row, a, d, hsg, hrow, fun x hx => hE9 x (List.mem_of_mem_drop (List.mem_of_mem_take hx)), k1, k2, k3⟩
theorem r_fitting (hsh : sh.length = 16) : ∃ (c : Nat) (L B : List Ln) (b : List Int), c ≤ 15 ∧ b.length = c ∧ L.length ≤ 59 ∧ B.length = L.length ∧ (∀ p ∈ L, LnB c 9000000 p) ∧ (∀ p ∈ B, LnB c 9000000 p) ∧
    run prog (n + 3) 20 [.lst (ns.map .int), .lst (sh.map .int)] o = .ok (.tup [.int (c : Int), .lst (L.map LD), .lst (b.map .int), .lst (B.map LD)]) [] o := by
  obtain ⟨c, m, hc, hm, hA⟩ := segA (n := n + 2) (o := o) hsh (S := .lst (ns.map .int))
  obtain ⟨w, r, hw, hr, hB⟩ := segB (n := n + 2) (o := o) hsh (S := .lst (ns.map .int)) (a2 := .int (c : Int)) (a3 := .int (m : Int))
  obtain ⟨b, p, hb, hb6, hp0, hpc, hb1, hC⟩ := segC (n := n) (o := o) (ns := ns) hsh (r := r) (a3 := .int (m : Int)) hc hw
  obtain ⟨E, P, hE, hE9, hP, hP2, hD⟩ := segD (n := n) (o := o) (ns := ns) (sh := sh) (w := w) (a6 := .lst (b.map .int)) (a7 := .int p) hc hm hr
  obtain ⟨e', h1, L, B, a12, a13, a14, a15, a16, rfl, hLl, hBl, hL, hBn⟩ := for_runN (N := m) (t := .n 12) (b := exs prog.gl (run prog (n + 2)) prog.sub (fE1 ++ fE2)) (F := fun k : Nat => D.int (k : Int))
    (fun pre e => ∃ (L B : List Ln) (a12 a13 a14 a15 a16 : D), e = st18 (.lst (ns.map .int)) (.lst (sh.map .int)) (.int (c : Int)) (.int (m : Int)) (.int (w : Int)) (.int (r : Int)) (.lst (b.map .int)) (.int p) (.lst (E.map .int)) (.lst (P.map .int)) (.lst (L.map LD)) (.lst (B.map LD)) a12 a13 a14 a15 a16 .non o ∧ L.length = pre.length ∧ B.length = pre.length ∧ (∀ p ∈ L, LnB c 9000000 p) ∧ (∀ p ∈ B, LnB c 9000000 p))
    (l := List.range m) (pre := []) (e := st18 (.lst (ns.map .int)) (.lst (sh.map .int)) (.int (c : Int)) (.int (m : Int)) (.int (w : Int)) (.int (r : Int)) (.lst (b.map .int)) (.int p) (.lst (E.map .int)) (.lst (P.map .int)) (.lst []) (.lst []) .non .non .non .non .non .non o)
    ⟨[], [], _, _, _, _, _, rfl, rfl, rfl, fun p hp => by simp at hp, fun p hp => by simp at hp⟩ (by simp) (by
    rintro pre k e ⟨L, B, a12, a13, a14, a15, a16, rfl, hLl, hBl, hL, hBn⟩ hk hpm
    have hk : k < m := by simpa using hk
    obtain ⟨s, row, a, d, hs, hrow, hrow9, ha, hd, hE1⟩ := segE (n := n + 2) (o := o) (ns := ns) (sh := sh) (w := w) (r := r) (b := b) (p := p) (a10 := .lst (L.map LD)) (a11 := .lst (B.map LD)) (a13 := a13) (a14 := a14) (a15 := a15) (a16 := a16) (a17 := .non) hm hc hE hE9 hP hP2 hk
    obtain ⟨l1, c1, k1⟩ := r_line (n := n) (o := o) (s := s) (l := row) (b := b) (place := p) (amount := a) hs hrow9 hb6 (by omega) (by omega) hp0 (by omega) hb1 ha
    obtain ⟨l2, c2, k2⟩ := r_line (n := n) (o := o) (s := s) (l := row) (b := b) (place := p) (amount := d) hs hrow9 hb6 (by omega) (by omega) hp0 (by omega) hb1 hd
    rw [hrow] at k1 k2
    have d1 : ∀ as st, callR (run prog (n + 2)) 19 as [.str s, .lst (row.map .int), .lst (b.map .int), .int p, .int a] ⟨st, o⟩ = .ok (LD (s, l1)) ⟨st, o⟩ := fun as st => callR_ok c1
    have d2 : ∀ as st, callR (run prog (n + 2)) 19 as [.str s, .lst (row.map .int), .lst (b.map .int), .int p, .int d] ⟨st, o⟩ = .ok (LD (s, l2)) ⟨st, o⟩ := fun as st => callR_ok c2
    refine ⟨st18 (.lst (ns.map .int)) (.lst (sh.map .int)) (.int (c : Int)) (.int (m : Int)) (.int (w : Int)) (.int (r : Int)) (.lst (b.map .int)) (.int p) (.lst (E.map .int)) (.lst (P.map .int)) (.lst (L.map LD)) (.lst (B.map LD)) (.int (k : Int)) a13 a14 a15 a16 .non o,
      st18 (.lst (ns.map .int)) (.lst (sh.map .int)) (.int (c : Int)) (.int (m : Int)) (.int (w : Int)) (.int (r : Int)) (.lst (b.map .int)) (.int p) (.lst (E.map .int)) (.lst (P.map .int)) (.lst ((L ++ [(s, l1)]).map LD)) (.lst ((B ++ [(s, l2)]).map LD)) (.int (k : Int)) (.str s) (.int a) (.int d) (.lst (row.map .int)) .non o, rfl, ?_, _, _, _, _, _, _, _, rfl, by simp [hLl], by simp [hBl], ?_, ?_⟩
    · have hl1 : (L.map LD).length < LIM := by unfold LIM; simp; omega
      have hl2 : (B.map LD).length < LIM := by unfold LIM; simp; omega
      rw [exs_app, hE1, RS.seq_nx]
      simp only [fE2, exs_cons, exs_nil, ex_app, ev_call, evL_cons, evL_nil, ev_v, evP_pk, get_mk, List.getElem?_cons_zero, List.getElem?_cons_succ, R.lift_some, R.bind_ok, R.st_ok, Option.bind_some, getP_nil, d1]
      rw [app_ok rfl hl1]
      simp only [RS.seq_nx, exs_cons, exs_nil, ex_app, ev_call, evL_cons, evL_nil, ev_v, evP_pk, get_mk, List.set_cons_zero, List.set_cons_succ, List.getElem?_cons_zero, List.getElem?_cons_succ, R.lift_some, R.bind_ok, R.st_ok, Option.bind_some, getP_nil, d2]
      rw [app_ok rfl hl2]
      simp
    · intro q hq
      rcases List.mem_append.mp hq with hq | hq
      · exact hL q hq
      · simp at hq; subst hq; exact k1
    · intro q hq
      rcases List.mem_append.mp hq with hq | hq
      · exact hBn q hq
      · simp at hq; subst hq; exact k2)
  refine ⟨c, L, B, b, hc, hb, by simp at hLl; omega, by simp at hLl hBl; omega, hL, hBn, ?_⟩
  rw [run_eq (fn := f20) rfl, callFn_eq rfl, f20_body, exs_app]
  show ends f20 ((exs prog.gl (run prog (n + 2)) prog.sub fA (st18 (.lst (ns.map .int)) (.lst (sh.map .int)) .non .non .non .non .non .non .non .non .non .non .non .non .non .non .non .non o)).seq _) = _
  rw [hA, RS.seq_nx, exs_app, hB, RS.seq_nx, exs_app, hC, RS.seq_nx, exs_app, hD, RS.seq_nx, exs_cons, ex_fr, evrg (n := m) rfl (by omega), R.st_ok]
  simp only [items_itr]
  rw [h1]
  simp [ends, outsOf, f20]
end
end LW

namespace LW
open Z
abbrev st20 (a0 a1 a2 a3 a4 a5 a6 a7 a8 a9 a10 a11 a12 a13 a14 a15 a16 a17 a18 a19 : D) (o : List Ob) : Env := ⟨[a0, a1, a2, a3, a4, a5, a6, a7, a8, a9, a10, a11, a12, a13, a14, a15, a16, a17, a18, a19], o⟩
abbrev yA : List Z.S := [.asg (.n 2) (.op .add (.int 1) (.op .mod (.bi .int [(.ix (.pk 1) (.int 0))]) (.int 8))), .asg (.n 3) (.op .add (.int 1) (.op .mod (.bi .int [(.ix (.pk 1) (.int 1))]) (.int 6))), .asg (.n 4) (.int 6), .ite (.cmp .eq (.op .mod (.bi .int [(.ix (.pk 1) (.int 2))]) (.int 16)) (.int 5)) [.asg (.n 2) (.int 16), .asg (.n 3) (.int 57)] [.ite (.cmp .eq (.op .mod (.bi .int [(.ix (.pk 1) (.int 3))]) (.int 8)) (.int 3)) [.asg (.n 4) (.int 1001)] []]]
abbrev yB : List Z.S := [.asg (.n 5) (.op .add (.int 1) (.op .mod (.bi .int [(.ix (.pk 1) (.int 4))]) (.int 4))), .asg (.n 6) (.op .mod (.bi .int [(.ix (.pk 1) (.int 5))]) (.op .add (.pk 3) (.int 1))), .asg (.n 7) (.cmp .eq (.op .mod (.bi .int [(.ix (.pk 1) (.int 6))]) (.int 2)) (.int 0)), .asg (.n 8) (.lc (.op .sub (.pk 18) (.int 9)) (.n 18) (.call 5 [(.v 0), (.int 1), (.op .mul (.pk 2) (.pk 3)), (.int 19)]) []), .asg (.n 9) (.call 5 [(.v 0), (.int 2), (.op .add (.pk 3) (.int 1)), (.int 6)]), .asg (.n 10) (.call 5 [(.v 0), (.int 3), (.v 3), (.v 4)]), .asg (.n 11) (.lst []), .asg (.n 12) (.lc (.int 0) (.n 18) (.rg (.pk 2)) [])]
abbrev yC0 : List Z.S := [.asg (.n 14) (.ix (.lst [(.str [62]), (.str [62, 61]), (.str [61])]) (.op .mod (.bi .int [(.ix (.pk 9) (.pk 13))]) (.int 3)))]
abbrev yC1 : List Z.S := [.ite (.and (.cmp .eq (.pk 14) (.str [61])) (.cmp .gt (.ix (.pk 9) (.pk 13)) (.int 2))) [.six (.pk 10) (.pk 13) (.neg (.ix (.pk 10) (.pk 13)))] []]
abbrev yC2 : List Z.S := [.ite (.and (.cmp .eq (.pk 14) (.str [62])) (.pk 7)) [.six (.pk 10) (.pk 13) (.int 0)] []]
abbrev yC3 : List Z.S := [.ite (.cmp .eq (.pk 13) (.pk 6)) [.asg (.n 14) (.str [62]), .six (.pk 10) (.pk 13) (.bi .max [(.int 1), (.bi .abs [(.ix (.pk 10) (.pk 13))])])] []]
abbrev yC4 : List Z.S := [.asg (.n 17) (.slT (.v 8) (some (.op .mul (.pk 13) (.pk 2))) (some (.op .add (.op .mul (.pk 13) (.pk 2)) (.pk 2)))), .asg (.n 12) (.lc (.op .add (.ix (.pk 12) (.pk 19)) (.op .mul (.ix (.pk 10) (.pk 13)) (.ix (.pk 17) (.pk 19)))) (.n 19) (.rg (.pk 2)) []), .app (.pk 11) (.tup [(.v 14), (.bi .tuple [(.lc (.op .mul (.pk 5) (.pk 18)) (.n 18) (.v 17) [])])])]
abbrev yD : List Z.S := [.asg (.n 14) (.ix (.lst [(.str [62, 61]), (.str [61]), (.str [62, 61])]) (.op .mod (.bi .int [(.ix (.pk 9) (.pk 3))]) (.int 3))), .ite (.or (.cmp .eq (.pk 6) (.pk 3)) (.and (.cmp .gt (.ix (.pk 9) (.pk 3)) (.int 4)) (.nt (.pk 7)))) [.asg (.n 14) (.str [62])] []]
abbrev yE : List Z.S := [.app (.pk 11) (.tup [(.v 14), (.bi .tuple [(.lc (.neg (.pk 18)) (.n 18) (.v 12) [])])]), .app (.pk 10) (.fl (.pk 5)), .asg (.n 15) (.op .mod (.bi .int [(.ix (.pk 1) (.int 7))]) (.op .add (.pk 3) (.int 1))), .asg (.n 16) (.op .mod (.bi .int [(.op .sub (.pk 6) (.pk 15))]) (.op .add (.pk 3) (.int 1))), .ret (.tup [(.fl (.pk 2)), (.cat (.slT (.v 11) (some (.pk 15)) none) (.slT (.v 11) none (some (.pk 15)))), (.cat (.slT (.v 10) (some (.pk 15)) none) (.slT (.v 10) none (some (.pk 15)))), (.fl (.pk 16))])]
theorem f13_body : f13.body = yA ++ (yB ++ ([.fr (.n 13) (.rg (.pk 3)) (yC0 ++ (yC1 ++ (yC2 ++ (yC3 ++ yC4))))] ++ (yD ++ yE))) := rfl
section
variable {n : Nat} {o : List Ob} {ns sh : List Int}
theorem gl_ {sh : List Int} {k : Nat} {i : Int} (hi : i = (k : Int)) (h : k < sh.length) : opIx (.lst (sh.map .int)) (.int i) = some (.int (sh.getD k 0)) := by subst hi; exact gsh k h
theorem md_ {x i : Int} {m c : Nat} (hi : i = (m : Int)) (h : x.fmod (m : Int) = (c : Int)) (hm : 0 < m) : op2 .mod (.int x) (.int i) = some (.int (c : Int)) := by subst hi; rw [op_mod_i (by omega), h]
theorem sysA (hsh : sh.length = 16) {S : D} : ∃ c m lim : Nat, 1 ≤ c ∧ c ≤ 16 ∧ 1 ≤ m ∧ m ≤ 57 ∧ 1 ≤ lim ∧ lim ≤ 1001 ∧ exs prog.gl (run prog n) prog.sub yA (st20 S (.lst (sh.map .int)) .non .non .non .non .non .non .non .non .non .non .non .non .non .non .non .non .non .non o) =
    .nx (st20 S (.lst (sh.map .int)) (.int (c : Int)) (.int (m : Int)) (.int (lim : Int)) .non .non .non .non .non .non .non .non .non .non .non .non .non .non .non o) := by
  obtain ⟨c, hc, hc2⟩ := fmod_nat (sh.getD 0 0) (show 0 < 8 by decide)
  obtain ⟨m, hm, hm2⟩ := fmod_nat (sh.getD 1 0) (show 0 < 6 by decide)
  have g0 := gl_ (sh := sh) (k := 0) (i := 0) rfl (by omega)
  have g1 := gl_ (sh := sh) (k := 1) (i := 1) rfl (by omega)
  have g2 := gl_ (sh := sh) (k := 2) (i := 2) rfl (by omega)
  have g3 := gl_ (sh := sh) (k := 3) (i := 3) rfl (by omega)
  have m8 : op2 .mod (.int (sh.getD 0 0)) (.int 8) = some (.int (c : Int)) := md_ (m := 8) rfl hc (by decide)
  have m6 : op2 .mod (.int (sh.getD 1 0)) (.int 6) = some (.int (m : Int)) := md_ (m := 6) rfl hm (by decide)
  cases h : ((sh.getD 2 0).fmod 16 == 5) with
  | true =>
    refine ⟨16, 57, 6, by decide, by decide, by decide, by decide, by decide, by decide, ?_⟩
    simp only [yA, exs_cons, exs_nil, ex_asg, ex_ite, ev_op, ev_bi, evL_cons, evL_nil, ev_ix, ev_pk, ev_int, ev_cmp, get_mk, set_mk, List.set_cons_zero, List.set_cons_succ, asg_n, List.getElem?_cons_zero, List.getElem?_cons_succ, R.lift_some, R.bind_ok, R.st_ok, int_i, g0, g1, g2, m8, m6, op_mod_i (show (16 : Int) ≠ 0 by decide), cp_eq_i, h, Option.map_some, truth_bl, RS.seq_nx, op_add_i]
    rfl
  | false =>
    cases h3 : ((sh.getD 3 0).fmod 8 == 3) with
    | true =>
      refine ⟨1 + c, 1 + m, 1001, by omega, by omega, by omega, by omega, by decide, by decide, ?_⟩
      simp only [yA, exs_cons, exs_nil, ex_asg, ex_ite, ev_op, ev_bi, evL_cons, evL_nil, ev_ix, ev_pk, ev_int, ev_cmp, get_mk, set_mk, List.set_cons_zero, List.set_cons_succ, asg_n, List.getElem?_cons_zero, List.getElem?_cons_succ, R.lift_some, R.bind_ok, R.st_ok, int_i, g0, g1, g2, g3, m8, m6, op_mod_i (show (16 : Int) ≠ 0 by decide), op_mod_i (show (8 : Int) ≠ 0 by decide), cp_eq_i, h, h3, Option.map_some, truth_bl, RS.seq_nx, op_add_i]
      simp
    | false =>
      refine ⟨1 + c, 1 + m, 6, by omega, by omega, by omega, by omega, by decide, by decide, ?_⟩
      simp only [yA, exs_cons, exs_nil, ex_asg, ex_ite, ev_op, ev_bi, evL_cons, evL_nil, ev_ix, ev_pk, ev_int, ev_cmp, get_mk, set_mk, List.set_cons_zero, List.set_cons_succ, asg_n, List.getElem?_cons_zero, List.getElem?_cons_succ, R.lift_some, R.bind_ok, R.st_ok, int_i, g0, g1, g2, g3, m8, m6, op_mod_i (show (16 : Int) ≠ 0 by decide), op_mod_i (show (8 : Int) ≠ 0 by decide), cp_eq_i, h, h3, Option.map_some, truth_bl, RS.seq_nx, op_add_i]
      simp
theorem sysB (hsh : sh.length = 16) {c m lim : Nat} (hc : c ≤ 16) (hm : m ≤ 57) (hl : 1 ≤ lim) (hl2 : lim ≤ 1001) : ∃ (u q : Nat) (sg : Bool) (E P A : List Int), 1 ≤ u ∧ u ≤ 4 ∧ q ≤ m ∧ E.length = c * m ∧ Bd 9 E ∧ P.length = m + 1 ∧ (∀ x ∈ P, 0 ≤ x ∧ x < 6) ∧ A.length = m ∧ Bd 1001 A ∧
    exs prog.gl (run prog (n + 2)) prog.sub yB (st20 (.lst (ns.map .int)) (.lst (sh.map .int)) (.int (c : Int)) (.int (m : Int)) (.int (lim : Int)) .non .non .non .non .non .non .non .non .non .non .non .non .non .non .non o) =
    .nx (st20 (.lst (ns.map .int)) (.lst (sh.map .int)) (.int (c : Int)) (.int (m : Int)) (.int (lim : Int)) (.int (u : Int)) (.int (q : Int)) (.bl sg) (.lst (E.map .int)) (.lst (P.map .int)) (.lst (A.map .int)) (.lst []) (.lst ((zs c).map .int)) .non .non .non .non .non .non .non o) := by
  have hcm : c * m ≤ 16 * 57 := Nat.mul_le_mul hc hm
  obtain ⟨u, hu, hu2⟩ := fmod_nat (sh.getD 4 0) (show 0 < 4 by decide)
  obtain ⟨q, hq, hq2⟩ := fmod_nat (sh.getD 5 0) (show 0 < m + 1 by omega)
  have g4 := gl_ (sh := sh) (k := 4) (i := 4) rfl (by omega)
  have g5 := gl_ (sh := sh) (k := 5) (i := 5) rfl (by omega)
  have g6 := gl_ (sh := sh) (k := 6) (i := 6) rfl (by omega)
  have m4 : op2 .mod (.int (sh.getD 4 0)) (.int 4) = some (.int (u : Int)) := md_ (m := 4) rfl hu (by decide)
  have m5 : op2 .mod (.int (sh.getD 5 0)) (.int ((m : Int) + 1)) = some (.int (q : Int)) := md_ (m := m + 1) (by simp) hq (by omega)
  obtain ⟨l, h1, h2, h3⟩ := r_many (n := n) (o := o) (ns := ns) (k := 1) (many := ((c * m : Nat) : Int)) (limit := 19) (by decide) (by decide) (by omega) (by omega) (by decide) (by decide)
  obtain ⟨P, p1, p2, p3⟩ := r_many (n := n) (o := o) (ns := ns) (k := 2) (many := (m : Int) + 1) (limit := 6) (by decide) (by decide) (by omega) (by omega) (by decide) (by decide)
  obtain ⟨A, a1, a2, a3⟩ := r_many (n := n) (o := o) (ns := ns) (k := 3) (many := (m : Int)) (limit := (lim : Int)) (by decide) (by decide) (by omega) (by omega) (by omega) (by omega)
  have c1 : ∀ as st, callR (run prog (n + 2)) 5 as [.lst (ns.map .int), .int 1, .int ((c : Int) * (m : Int)), .int 19] ⟨st, o⟩ = .ok (.lst (l.map .int)) ⟨st, o⟩ := fun as st => callR_ok (by rw [← Int.natCast_mul]; exact h1)
  have c2 : ∀ as st, callR (run prog (n + 2)) 5 as [.lst (ns.map .int), .int 2, .int ((m : Int) + 1), .int 6] ⟨st, o⟩ = .ok (.lst (P.map .int)) ⟨st, o⟩ := fun as st => callR_ok p1
  have c3 : ∀ as st, callR (run prog (n + 2)) 5 as [.lst (ns.map .int), .int 3, .int (m : Int), .int (lim : Int)] ⟨st, o⟩ = .ok (.lst (A.map .int)) ⟨st, o⟩ := fun as st => callR_ok a1
  have mcm : op2 .mul (.int (c : Int)) (.int (m : Int)) = some (.int ((c : Int) * (m : Int))) := op_mul_l (by omega)
  generalize hsg : ((sh.getD 6 0).fmod 2 == 0) = sg
  have z1 : ∀ u q, ev prog.gl (run prog (n + 2)) (.lc (.op .sub (.pk 18) (.int 9)) (.n 18) (.call 5 [(.v 0), (.int 1), (.op .mul (.pk 2) (.pk 3)), (.int 19)]) []) (st20 (.lst (ns.map .int)) (.lst (sh.map .int)) (.int (c : Int)) (.int (m : Int)) (.int (lim : Int)) u q (.bl sg) .non .non .non .non .non .non .non .non .non .non .non .non o) = .ok (.lst ((l.map fun x => x - 9).map .int)) (st20 (.lst (ns.map .int)) (.lst (sh.map .int)) (.int (c : Int)) (.int (m : Int)) (.int (lim : Int)) u q (.bl sg) .non .non .non .non .non .non .non .non .non .non .non .non o) := fun u q => by
    rw [lc_n (l := l) (F := D.int) (x := .lst (l.map .int)) (g := fun x => D.int (x - 9)) (by simp [mcm, c1]) rfl (by simp) (fun a ha => by simp) (by omega)]
    simp only [List.map_map]; rfl
  have z2 : ∀ u q E P A, ev prog.gl (run prog (n + 2)) (.lc (.int 0) (.n 18) (.rg (.pk 2)) []) (st20 (.lst (ns.map .int)) (.lst (sh.map .int)) (.int (c : Int)) (.int (m : Int)) (.int (lim : Int)) u q (.bl sg) E P A (.lst []) .non .non .non .non .non .non .non .non o) = .ok (.lst ((zs c).map .int)) (st20 (.lst (ns.map .int)) (.lst (sh.map .int)) (.int (c : Int)) (.int (m : Int)) (.int (lim : Int)) u q (.bl sg) E P A (.lst []) .non .non .non .non .non .non .non .non o) := fun u q E P A => by
    rw [lc_n (l := List.range c) (g := fun _ => D.int 0) (evrg (n := c) rfl (by omega)) rfl (by simp) (fun a ha => by simp) (by simp; omega)]
    congr 2; simp only [zs, List.map_replicate]; exact (List.eq_replicate_iff.mpr ⟨by simp, fun b hb => by simp at hb; exact hb.2.symm⟩)
  refine ⟨1 + u, q, sg, l.map fun x => x - 9, P, A, by omega, by omega, by omega, ?_, ?_, ?_, p3, by simpa using a2, ?_, ?_⟩
  · simp only [List.length_map]; omega
  · intro x hx
    obtain ⟨y, hy, rfl⟩ := List.mem_map.mp hx
    have := h3 y hy
    omega
  · omega
  · intro x hx
    have := a3 x hx
    omega
  · simp only [yB, exs_cons, exs_nil, ex_asg, ev_op, ev_bi, evL_cons, evL_nil, ev_ix, ev_pk, ev_v, ev_int, ev_cmp, ev_call, ev_lst, get_mk, set_mk, List.set_cons_zero, List.set_cons_succ, asg_n, List.getElem?_cons_zero, List.getElem?_cons_succ, R.lift_some, R.bind_ok, R.st_ok, int_i, g4, g5, g6, m4, m5, op_mod_i (show (2 : Int) ≠ 0 by decide), cp_eq_i, hsg, Option.map_some, RS.seq_nx, op_add_i, z1, z2, c2, c3]
    simp
end
end LW

namespace LW
open Z
section
variable {n : Nat} {o : List Ob} {ns sh : List Int}
variable {S SH d2 d3 d4 d5 d8 d11 d12 d15 d16 d17 d18 d19 : D}
abbrev sy (S SH d2 d3 d4 d5 : D) (q : Nat) (sg : Bool) (d8 : D) (P A : List Int) (d11 d12 : D) (k : Nat) (s : Txt) (d15 d16 d17 d18 d19 : D) (o : List Ob) : Env := st20 S SH d2 d3 d4 d5 (.int (q : Int)) (.bl sg) d8 (.lst (P.map .int)) (.lst (A.map .int)) d11 d12 (.int (k : Int)) (.str s) d15 d16 d17 d18 d19 o
theorem set_bd {B : Nat} {A : List Int} {k : Nat} {v : Int} (h : Bd B A) (hv : v.natAbs ≤ B) : Bd B (A.set k v) := fun x hx => by
  rcases List.mem_or_eq_of_mem_set hx with hx | rfl
  · exact h x hx
  · exact hv
theorem sysC1 {q k : Nat} {sg : Bool} {P A : List Int} {s : Txt} (hP : k < P.length) (hA : k < A.length) (hB : Bd 1001 A) : ∃ A', A'.length = A.length ∧ Bd 1001 A' ∧
    exs prog.gl (run prog n) prog.sub yC1 (sy S SH d2 d3 d4 d5 q sg d8 P A d11 d12 k s d15 d16 d17 d18 d19 o) = .nx (sy S SH d2 d3 d4 d5 q sg d8 P A' d11 d12 k s d15 d16 d17 d18 d19 o) := by
  have gP := gsh (sh := P) k hP
  have gA := gsh (sh := A) k hA
  cases h1 : (s == EQ) with
  | false =>
    refine ⟨A, rfl, hB, ?_⟩
    simp only [yC1, exs_one, ex_ite, ev_and, ev_cmp, ev_pk, ev_str, get_mk, List.getElem?_cons_zero, List.getElem?_cons_succ, R.lift_some, R.bind_ok, cp_eq_s, h1, Option.map_some, truth_bl, R.st_ok, exs_nil]
  | true =>
    by_cases h2 : (2 : Int) < P.getD k 0
    · have hv : (-(A.getD k 0)).natAbs ≤ 1001 := by have := hB.at_ k; omega
      refine ⟨A.set k (-(A.getD k 0)), by simp, set_bd hB hv, ?_⟩
      simp only [yC1, exs_one, ex_ite, ex_six, ev_and, ev_cmp, ev_pk, ev_str, ev_int, ev_ix, ev_neg, get_mk, List.getElem?_cons_zero, List.getElem?_cons_succ, R.lift_some, R.bind_ok, cp_eq_s, h1, Option.map_some, truth_bl, R.st_ok, gP, gA, cp_gt_i, decide_eq_true h2, evP_pk, Option.bind_some, getP_nil]
      rw [six_ok (xs := A.map .int) rfl (by omega) (by simp; omega), ← List.map_set]
      rfl
    · refine ⟨A, rfl, hB, ?_⟩
      simp only [yC1, exs_one, ex_ite, ev_and, ev_cmp, ev_pk, ev_str, ev_int, ev_ix, get_mk, List.getElem?_cons_zero, List.getElem?_cons_succ, R.lift_some, R.bind_ok, cp_eq_s, h1, Option.map_some, truth_bl, R.st_ok, gP, cp_gt_i, decide_eq_false h2, exs_nil]
theorem sysC2 {q k : Nat} {sg : Bool} {P A : List Int} {s : Txt} (hA : k < A.length) (hB : Bd 1001 A) : ∃ A', A'.length = A.length ∧ Bd 1001 A' ∧
    exs prog.gl (run prog n) prog.sub yC2 (sy S SH d2 d3 d4 d5 q sg d8 P A d11 d12 k s d15 d16 d17 d18 d19 o) = .nx (sy S SH d2 d3 d4 d5 q sg d8 P A' d11 d12 k s d15 d16 d17 d18 d19 o) := by
  cases h1 : (s == GT) with
  | false =>
    refine ⟨A, rfl, hB, ?_⟩
    simp only [yC2, exs_one, ex_ite, ev_and, ev_cmp, ev_pk, ev_str, get_mk, List.getElem?_cons_zero, List.getElem?_cons_succ, R.lift_some, R.bind_ok, cp_eq_s, h1, Option.map_some, truth_bl, R.st_ok, exs_nil]
  | true =>
    cases sg with
    | true =>
      refine ⟨A.set k 0, by simp, set_bd hB (by decide), ?_⟩
      simp only [yC2, exs_one, ex_ite, ex_six, ev_and, ev_cmp, ev_pk, ev_str, ev_int, get_mk, List.getElem?_cons_zero, List.getElem?_cons_succ, R.lift_some, R.bind_ok, cp_eq_s, h1, Option.map_some, truth_bl, R.st_ok, evP_pk, Option.bind_some, getP_nil]
      rw [six_ok (xs := A.map .int) rfl (by omega) (by simp; omega), ← List.map_set]
      rfl
    | false =>
      refine ⟨A, rfl, hB, ?_⟩
      simp only [yC2, exs_one, ex_ite, ev_and, ev_cmp, ev_pk, ev_str, get_mk, List.getElem?_cons_zero, List.getElem?_cons_succ, R.lift_some, R.bind_ok, cp_eq_s, h1, Option.map_some, truth_bl, R.st_ok, exs_nil]
theorem sysC3 {q k : Nat} {sg : Bool} {P A : List Int} {s : Txt} (hs : Sg s) (hA : k < A.length) (hB : Bd 1001 A) : ∃ A' s', Sg s' ∧ A'.length = A.length ∧ Bd 1001 A' ∧
    exs prog.gl (run prog n) prog.sub yC3 (sy S SH d2 d3 d4 d5 q sg d8 P A d11 d12 k s d15 d16 d17 d18 d19 o) = .nx (sy S SH d2 d3 d4 d5 q sg d8 P A' d11 d12 k s' d15 d16 d17 d18 d19 o) := by
  have gA := gsh (sh := A) k hA
  cases h1 : ((k : Int) == (q : Int)) with
  | false =>
    refine ⟨A, s, hs, rfl, hB, ?_⟩
    simp only [yC3, exs_one, ex_ite, ev_cmp, ev_pk, get_mk, List.getElem?_cons_zero, List.getElem?_cons_succ, R.lift_some, R.bind_ok, cp_eq_i, h1, Option.map_some, truth_bl, R.st_ok, exs_nil]
  | true =>
    let v : Int := if (if A.getD k 0 < 0 then -(A.getD k 0) else A.getD k 0) > 1 then (if A.getD k 0 < 0 then -(A.getD k 0) else A.getD k 0) else 1
    have hv : v.natAbs ≤ 1001 := by have := hB.at_ k; simp only [v]; split <;> split at * <;> omega
    refine ⟨A.set k v, GT, .inl rfl, by simp, set_bd hB hv, ?_⟩
    simp only [yC3, exs_one, exs_cons, exs_nil, ex_ite, ex_asg, ex_six, ev_cmp, ev_pk, ev_str, ev_int, ev_ix, ev_bi, evL_cons, evL_nil, get_mk, set_mk, asg_n, List.set_cons_zero, List.set_cons_succ, List.getElem?_cons_zero, List.getElem?_cons_succ, R.lift_some, R.bind_ok, cp_eq_i, h1, Option.map_some, truth_bl, R.st_ok, gA, abs_i, max_i, RS.seq_nx, evP_pk, Option.bind_some, getP_nil]
    rw [six_ok (xs := A.map .int) rfl (by omega) (by simp; omega), ← List.map_set]
    rfl
theorem sysC4 {c m u q k N : Nat} {sg : Bool} {E P A Sm : List Int} {L : List Ln} {s : Txt} (hs : Sg s) (hc : c ≤ 16) (hu : u ≤ 4) (hE : E.length = c * m) (hE9 : Bd 9 E) (hk : k < m) (hm : m ≤ 57) (hA : k < A.length) (hB : Bd 1001 A) (hSm : Sm.length = c) (hSB : Bd (N * 9009) Sm) (hN : N ≤ 57) (hL : L.length ≤ 100) :
    ∃ (l Sm' : List Int) (d17' : D), LnB c 9000000 (s, l) ∧ Sm'.length = c ∧ Bd ((N + 1) * 9009) Sm' ∧
    exs prog.gl (run prog n) prog.sub yC4 (sy S SH (.int (c : Int)) d3 d4 (.int (u : Int)) q sg (.lst (E.map .int)) P A (.lst (L.map LD)) (.lst (Sm.map .int)) k s d15 d16 d17 .non .non o) =
    .nx (sy S SH (.int (c : Int)) d3 d4 (.int (u : Int)) q sg (.lst (E.map .int)) P A (.lst ((L ++ [(s, l)]).map LD)) (.lst (Sm'.map .int)) k s d15 d16 d17' .non .non o) := by
  have hle : k * c + c ≤ E.length := by
    rw [hE, show k * c + c = (k + 1) * c by rw [Nat.succ_mul], Nat.mul_comm c m]
    exact Nat.mul_le_mul_right _ hk
  let row := (E.drop (k * c)).take c
  have hrow : row.length = c := by simp only [row, List.length_take, List.length_drop]; omega
  have hrow9 : Bd 9 row := fun x hx => hE9 x (List.mem_of_mem_drop (List.mem_of_mem_take hx))
  have hcut : cut (E.map D.int) (some ((k : Int) * (c : Int))) (some ((k : Int) * (c : Int) + (c : Int))) = row.map .int := by
    have := cut_mid (l := E) (a := k * c) (b := k * c + c) (by omega) hle
    rw [cut_map, show (k : Int) * (c : Int) = ((k * c : Nat) : Int) by simp, show ((k * c : Nat) : Int) + (c : Int) = ((k * c + c : Nat) : Int) by simp, this]
    simp only [row, show k * c + c - k * c = c by omega]
  have mkc : op2 .mul (.int (k : Int)) (.int (c : Int)) = some (.int ((k : Int) * (c : Int))) := op_mul_l (by omega)
  have gA := gsh (sh := A) k hA
  have hAk := hB.at_ k
  generalize A.getD k 0 = a at gA hAk
  let Sm' : List Int := (List.range c).map fun j => Sm.getD j 0 + a * row.getD j 0
  have z1 : ev prog.gl (run prog n) (.lc (.op .add (.ix (.pk 12) (.pk 19)) (.op .mul (.ix (.pk 10) (.pk 13)) (.ix (.pk 17) (.pk 19)))) (.n 19) (.rg (.pk 2)) []) (sy S SH (.int (c : Int)) d3 d4 (.int (u : Int)) q sg (.lst (E.map .int)) P A (.lst (L.map LD)) (.lst (Sm.map .int)) k s d15 d16 (.lst (row.map .int)) .non .non o) = .ok (.lst (Sm'.map .int)) (sy S SH (.int (c : Int)) d3 d4 (.int (u : Int)) q sg (.lst (E.map .int)) P A (.lst (L.map LD)) (.lst (Sm.map .int)) k s d15 d16 (.lst (row.map .int)) .non .non o) := by
    rw [lc_n (l := List.range c) (F := fun j : Nat => D.int (j : Int)) (g := fun j : Nat => D.int (Sm.getD j 0 + a * row.getD j 0)) (evrg (n := c) rfl (by omega)) rfl (by simp) (fun j hj => ?_) (by simp; omega)]
    · simp only [Sm', List.map_map]; rfl
    · have hj : j < c := by simpa using hj
      have gS := gsh (sh := Sm) j (by omega)
      have gR := gsh (sh := row) j (by omega)
      have hm2 : op2 .mul (.int a) (.int (row.getD j 0)) = _ := op_mul_l (show a.natAbs < 2 ^ 64 by omega)
      simp only [ev_op, ev_ix, ev_pk, get_mk, set_mk, List.set_cons_zero, List.set_cons_succ, List.getElem?_cons_zero, List.getElem?_cons_succ, R.lift_some, R.bind_ok, gS, gR, gA, hm2, op_add_i]
  have z2 : ev prog.gl (run prog n) (.lc (.op .mul (.pk 5) (.pk 18)) (.n 18) (.v 17) []) (sy S SH (.int (c : Int)) d3 d4 (.int (u : Int)) q sg (.lst (E.map .int)) P A (.lst (L.map LD)) (.lst (Sm'.map .int)) k s d15 d16 (.lst (row.map .int)) .non .non o) = .ok (.lst ((row.map fun x => (u : Int) * x).map .int)) (sy S SH (.int (c : Int)) d3 d4 (.int (u : Int)) q sg (.lst (E.map .int)) P A (.lst (L.map LD)) (.lst (Sm'.map .int)) k s d15 d16 (.lst (row.map .int)) .non .non o) := by
    rw [lc_n (l := row) (F := D.int) (g := fun x => D.int ((u : Int) * x)) (evv rfl) rfl (by simp) (fun x hx => ?_) (by omega)]
    · simp only [List.map_map]; rfl
    · have hm2 : op2 .mul (.int (u : Int)) (.int x) = _ := op_mul_l (show (u : Int).natAbs < 2 ^ 64 by omega)
      simp only [ev_op, ev_pk, get_mk, set_mk, List.set_cons_zero, List.set_cons_succ, List.getElem?_cons_zero, List.getElem?_cons_succ, R.lift_some, R.bind_ok, hm2]
  have hl1 : (L.map LD).length < LIM := by unfold LIM; simp; omega
  refine ⟨row.map fun x => (u : Int) * x, Sm', .lst (row.map .int), ⟨hs, by simpa using hrow, fun x hx => ?_⟩, by simp [Sm'], fun x hx => ?_, ?_⟩
  · obtain ⟨y, hy, rfl⟩ := List.mem_map.mp hx
    have h9 := hrow9 y hy
    rw [Int.natAbs_mul]
    have : (u : Int).natAbs * y.natAbs ≤ 4 * 9 := Nat.mul_le_mul (by omega) h9
    omega
  · obtain ⟨j, hj, rfl⟩ := List.mem_map.mp hx
    have h1 := hSB.at_ j
    have h2 : (a * row.getD j 0).natAbs ≤ 1001 * 9 := by rw [Int.natAbs_mul]; exact Nat.mul_le_mul hAk (hrow9.at_ j)
    have h3 := Int.natAbs_add_le (Sm.getD j 0) (a * row.getD j 0)
    have : (N + 1) * 9009 = N * 9009 + 9009 := by omega
    omega
  · simp only [yC4, exs_cons, exs_nil, ex_asg, ev_slT, evO_some, ev_v, ev_pk, ev_op, get_mk, set_mk, List.set_cons_zero, List.set_cons_succ, asg_n, List.getElem?_cons_zero, List.getElem?_cons_succ, R.lift_some, R.bind_ok, R.st_ok, mkc, op_add_i, optI_i, opSlT_l, hcut, RS.seq_nx, z1, ex_app, ev_tup, ev_bi, evL_cons, evL_nil, z2, tuple_l, evP_pk, Option.bind_some, getP_nil]
    rw [app_ok rfl hl1]
    simp only [RS.seq_nx, List.set_cons_zero, List.set_cons_succ, List.map_append, List.map_cons, List.map_nil]
    rfl
end
end LW

namespace LW
open Z
section
variable {n : Nat} {o : List Ob} {ns sh : List Int}
theorem sysC {S SH d3 d4 d12 d13 d14 d15 d16 d17 : D} {c m u q k N : Nat} {sg : Bool} {E P A Sm : List Int} {L : List Ln} (hc : c ≤ 16) (hu : u ≤ 4) (hE : E.length = c * m) (hE9 : Bd 9 E) (hk : k < m) (hm : m ≤ 57) (hP : P.length = m + 1) (hP2 : ∀ x ∈ P, 0 ≤ x ∧ x < 6) (hA : A.length = m) (hB : Bd 1001 A) (hSm : Sm.length = c) (hSB : Bd (N * 9009) Sm) (hN : N ≤ 57) (hL : L.length ≤ 100) :
    ∃ (s : Txt) (l Sm' A' : List Int) (d17' : D), LnB c 9000000 (s, l) ∧ Sm'.length = c ∧ Bd ((N + 1) * 9009) Sm' ∧ A'.length = m ∧ Bd 1001 A' ∧
    exs prog.gl (run prog n) prog.sub (yC0 ++ (yC1 ++ (yC2 ++ (yC3 ++ yC4)))) (st20 S SH (.int (c : Int)) d3 d4 (.int (u : Int)) (.int (q : Int)) (.bl sg) (.lst (E.map .int)) (.lst (P.map .int)) (.lst (A.map .int)) (.lst (L.map LD)) (.lst (Sm.map .int)) (.int (k : Int)) d14 d15 d16 d17 .non .non o) =
    .nx (st20 S SH (.int (c : Int)) d3 d4 (.int (u : Int)) (.int (q : Int)) (.bl sg) (.lst (E.map .int)) (.lst (P.map .int)) (.lst (A'.map .int)) (.lst ((L ++ [(s, l)]).map LD)) (.lst (Sm'.map .int)) (.int (k : Int)) (.str s) d15 d16 d17' .non .non o) := by
  have gP := gsh (sh := P) k (by omega)
  obtain ⟨t, ht, ht2⟩ := fmod_nat (P.getD k 0) (show 0 < 3 by decide)
  have mt : op2 .mod (.int (P.getD k 0)) (.int 3) = some (.int (t : Int)) := md_ (m := 3) rfl ht (by decide)
  obtain ⟨s0, hs0, gs⟩ := sgn3 t ht2
  obtain ⟨A1, a1, b1, e1⟩ := sysC1 (n := n) (o := o) (S := S) (SH := SH) (d2 := .int (c : Int)) (d3 := d3) (d4 := d4) (d5 := .int (u : Int)) (d8 := .lst (E.map .int)) (d11 := .lst (L.map LD)) (d12 := .lst (Sm.map .int)) (d15 := d15) (d16 := d16) (d17 := d17) (d18 := .non) (d19 := .non) (q := q) (k := k) (sg := sg) (P := P) (s := s0) (by omega) (show k < A.length by omega) hB
  obtain ⟨A2, a2, b2, e2⟩ := sysC2 (n := n) (o := o) (S := S) (SH := SH) (d2 := .int (c : Int)) (d3 := d3) (d4 := d4) (d5 := .int (u : Int)) (d8 := .lst (E.map .int)) (d11 := .lst (L.map LD)) (d12 := .lst (Sm.map .int)) (d15 := d15) (d16 := d16) (d17 := d17) (d18 := .non) (d19 := .non) (q := q) (k := k) (sg := sg) (P := P) (s := s0) (show k < A1.length by omega) b1
  obtain ⟨A3, s, hs, a3, b3, e3⟩ := sysC3 (n := n) (o := o) (S := S) (SH := SH) (d2 := .int (c : Int)) (d3 := d3) (d4 := d4) (d5 := .int (u : Int)) (d8 := .lst (E.map .int)) (d11 := .lst (L.map LD)) (d12 := .lst (Sm.map .int)) (d15 := d15) (d16 := d16) (d17 := d17) (d18 := .non) (d19 := .non) (q := q) (k := k) (sg := sg) (P := P) hs0 (show k < A2.length by omega) b2
  obtain ⟨l, Sm', d17', f1, f2, f3, e4⟩ := sysC4 (n := n) (o := o) (S := S) (SH := SH) (d3 := d3) (d4 := d4) (d15 := d15) (d16 := d16) (d17 := d17) (q := q) (sg := sg) (P := P) hs hc hu hE hE9 hk hm (show k < A3.length by omega) b3 hSm hSB hN hL
  refine ⟨s, l, Sm', A3, d17', f1, f2, f3, by omega, b3, ?_⟩
  have e0 : exs prog.gl (run prog n) prog.sub yC0 (st20 S SH (.int (c : Int)) d3 d4 (.int (u : Int)) (.int (q : Int)) (.bl sg) (.lst (E.map .int)) (.lst (P.map .int)) (.lst (A.map .int)) (.lst (L.map LD)) (.lst (Sm.map .int)) (.int (k : Int)) d14 d15 d16 d17 .non .non o) = .nx (sy S SH (.int (c : Int)) d3 d4 (.int (u : Int)) q sg (.lst (E.map .int)) P A (.lst (L.map LD)) (.lst (Sm.map .int)) k s0 d15 d16 d17 .non .non o) := by
    simp only [yC0, exs_one, ex_asg, ev_ix, ev_lst, ev_str, evL_cons, evL_nil, ev_op, ev_bi, ev_pk, ev_int, get_mk, set_mk, asg_n, List.set_cons_zero, List.set_cons_succ, List.getElem?_cons_zero, List.getElem?_cons_succ, R.lift_some, R.bind_ok, R.st_ok, int_i, gP, mt, gs]
  rw [exs_app, e0, RS.seq_nx, exs_app, e1, RS.seq_nx, exs_app, e2, RS.seq_nx, exs_app, e3, RS.seq_nx, e4]
theorem sgn3b (t : Nat) (h : t < 3) : ∃ s, Sg s ∧ opIx (.lst [.str [62, 61], .str [61], .str [62, 61]]) (.int (t : Int)) = some (.str s) := by
  match t, h with
  | 0, _ => exact ⟨GE, .inr (.inl rfl), rfl⟩
  | 1, _ => exact ⟨EQ, .inr (.inr rfl), rfl⟩
  | 2, _ => exact ⟨GE, .inr (.inl rfl), rfl⟩
theorem sysD {S SH d2 d4 d5 d8 d10 d11 d12 d13 d14 d15 d16 d17 d18 d19 : D} {m q : Nat} {sg : Bool} {P : List Int} (hP : P.length = m + 1) : ∃ s, Sg s ∧
    exs prog.gl (run prog n) prog.sub yD (st20 S SH d2 (.int (m : Int)) d4 d5 (.int (q : Int)) (.bl sg) d8 (.lst (P.map .int)) d10 d11 d12 d13 d14 d15 d16 d17 d18 d19 o) =
    .nx (st20 S SH d2 (.int (m : Int)) d4 d5 (.int (q : Int)) (.bl sg) d8 (.lst (P.map .int)) d10 d11 d12 d13 (.str s) d15 d16 d17 d18 d19 o) := by
  have gP := gsh (sh := P) m (by omega)
  obtain ⟨t, ht, ht2⟩ := fmod_nat (P.getD m 0) (show 0 < 3 by decide)
  have mt : op2 .mod (.int (P.getD m 0)) (.int 3) = some (.int (t : Int)) := md_ (m := 3) rfl ht (by decide)
  obtain ⟨s0, hs0, gs⟩ := sgn3b t ht2
  cases h1 : ((q : Int) == (m : Int)) with
  | true =>
    refine ⟨GT, .inl rfl, ?_⟩
    simp only [yD, exs_cons, exs_nil, ex_asg, ex_ite, ev_or, ev_cmp, ev_ix, ev_lst, ev_str, evL_cons, evL_nil, ev_op, ev_bi, ev_pk, ev_int, get_mk, set_mk, asg_n, List.set_cons_zero, List.set_cons_succ, List.getElem?_cons_zero, List.getElem?_cons_succ, R.lift_some, R.bind_ok, R.st_ok, int_i, gP, mt, gs, cp_eq_i, h1, Option.map_some, truth_bl, RS.seq_nx]
  | false =>
    by_cases h2 : (4 : Int) < P.getD m 0
    · cases sg with
      | true =>
        refine ⟨s0, hs0, ?_⟩
        simp only [yD, exs_cons, exs_nil, ex_asg, ex_ite, ev_or, ev_and, ev_nt, ev_cmp, ev_ix, ev_lst, ev_str, evL_cons, evL_nil, ev_op, ev_bi, ev_pk, ev_int, get_mk, set_mk, asg_n, List.set_cons_zero, List.set_cons_succ, List.getElem?_cons_zero, List.getElem?_cons_succ, R.lift_some, R.bind_ok, R.st_ok, int_i, gP, mt, gs, cp_eq_i, h1, Option.map_some, truth_bl, RS.seq_nx, cp_gt_i, decide_eq_true h2, Bool.not_true]
      | false =>
        refine ⟨GT, .inl rfl, ?_⟩
        simp only [yD, exs_cons, exs_nil, ex_asg, ex_ite, ev_or, ev_and, ev_nt, ev_cmp, ev_ix, ev_lst, ev_str, evL_cons, evL_nil, ev_op, ev_bi, ev_pk, ev_int, get_mk, set_mk, asg_n, List.set_cons_zero, List.set_cons_succ, List.getElem?_cons_zero, List.getElem?_cons_succ, R.lift_some, R.bind_ok, R.st_ok, int_i, gP, mt, gs, cp_eq_i, h1, Option.map_some, truth_bl, RS.seq_nx, cp_gt_i, decide_eq_true h2, Bool.not_false]
    · refine ⟨s0, hs0, ?_⟩
      simp only [yD, exs_cons, exs_nil, ex_asg, ex_ite, ev_or, ev_and, ev_nt, ev_cmp, ev_ix, ev_lst, ev_str, evL_cons, evL_nil, ev_op, ev_bi, ev_pk, ev_int, get_mk, set_mk, asg_n, List.set_cons_zero, List.set_cons_succ, List.getElem?_cons_zero, List.getElem?_cons_succ, R.lift_some, R.bind_ok, R.st_ok, int_i, gP, mt, gs, cp_eq_i, h1, Option.map_some, truth_bl, RS.seq_nx, cp_gt_i, decide_eq_false h2]
theorem sysE {S d4 d8 d9 d13 d15 d16 d17 : D} {c m u q : Nat} {sg : Bool} {A Sm : List Int} {L : List Ln} {s : Txt} (hsh : sh.length = 16) (hs : Sg s) (hc : c ≤ 16) (hm : m ≤ 57) (hq : q ≤ m) (hL : L.length = m) (hLB : ∀ p ∈ L, LnB c 9000000 p) (hA : A.length = m) (hSm : Sm.length = c) (hSB : Bd 9000000 Sm) :
    ∃ (L' : List Ln) (T : List Int) (p : Nat), L'.length = m + 1 ∧ T.length = m + 1 ∧ p < m + 1 ∧ (∀ p ∈ L', LnB c 9000000 p) ∧
    exs prog.gl (run prog n) prog.sub yE (st20 S (.lst (sh.map .int)) (.int (c : Int)) (.int (m : Int)) d4 (.int (u : Int)) (.int (q : Int)) (.bl sg) d8 d9 (.lst (A.map .int)) (.lst (L.map LD)) (.lst (Sm.map .int)) d13 (.str s) d15 d16 d17 .non .non o) =
    .rt (.tup [.int (c : Int), .lst (L'.map LD), .lst (T.map .int), .int (p : Int)]) ⟨[S, .lst (sh.map .int), .int (c : Int), .int (m : Int), d4, .int (u : Int), .int (q : Int), .bl sg, d8, d9, .lst ((A ++ [(u : Int)]).map .int), .lst ((L ++ [(s, Sm.map fun x => -x)]).map LD), .lst (Sm.map .int), d13, .str s, .int ((sh.getD 7 0).fmod ((m : Int) + 1)), .int (p : Int), d17, .non, .non], o⟩ := by
  have g7 := gl_ (sh := sh) (k := 7) (i := 7) rfl (by omega)
  obtain ⟨v, hv, hv2⟩ := fmod_nat (sh.getD 7 0) (show 0 < m + 1 by omega)
  have m7 : op2 .mod (.int (sh.getD 7 0)) (.int ((m : Int) + 1)) = some (.int (v : Int)) := md_ (m := m + 1) (by simp) hv (by omega)
  obtain ⟨p, hp, hp2⟩ := fmod_nat ((q : Int) - (v : Int)) (show 0 < m + 1 by omega)
  have mp : op2 .mod (.int ((q : Int) - (v : Int))) (.int ((m : Int) + 1)) = some (.int (p : Int)) := md_ (m := m + 1) (by simp) hp (by omega)
  have hv' : (sh.getD 7 0).fmod ((m : Int) + 1) = (v : Int) := by rw [← hv]; simp
  have z : ev prog.gl (run prog n) (.lc (.neg (.pk 18)) (.n 18) (.v 12) []) (st20 S (.lst (sh.map .int)) (.int (c : Int)) (.int (m : Int)) d4 (.int (u : Int)) (.int (q : Int)) (.bl sg) d8 d9 (.lst (A.map .int)) (.lst (L.map LD)) (.lst (Sm.map .int)) d13 (.str s) d15 d16 d17 .non .non o) = .ok (.lst ((Sm.map fun x => -x).map .int)) (st20 S (.lst (sh.map .int)) (.int (c : Int)) (.int (m : Int)) d4 (.int (u : Int)) (.int (q : Int)) (.bl sg) d8 d9 (.lst (A.map .int)) (.lst (L.map LD)) (.lst (Sm.map .int)) d13 (.str s) d15 d16 d17 .non .non o) := by
    rw [lc_n (l := Sm) (F := D.int) (g := fun x => D.int (-x)) (evv rfl) rfl (by simp) (fun x hx => by simp) (by omega)]
    simp only [List.map_map]; rfl
  let L1 := L ++ [(s, Sm.map fun x => -x)]
  let T1 := A ++ [(u : Int)]
  have hL1 : L1.length = m + 1 := by simp [L1, hL]
  have hT1 : T1.length = m + 1 := by simp [T1, hA]
  have hLB1 : ∀ p ∈ L1, LnB c 9000000 p := fun p hp => by
    rcases List.mem_append.mp hp with hp | hp
    · exact hLB p hp
    · simp at hp; subst hp
      refine ⟨hs, by simpa using hSm, fun x hx => ?_⟩
      obtain ⟨y, hy, rfl⟩ := List.mem_map.mp hx
      have := hSB y hy
      omega
  have hl1 : (L.map LD).length < LIM := by unfold LIM; simp; omega
  have hl2 : (A.map D.int).length < LIM := by unfold LIM; simp; omega
  have k1 : opCat (.lst (cut (L1.map LD) (some (v : Int)) none)) (.lst (cut (L1.map LD) none (some (v : Int)))) = some (.lst ((L1.drop v ++ L1.take v).map LD)) := by
    rw [cut_drop (by omega), cut_take (by omega), Int.toNat_natCast, cat_ok (by simp; omega)]; simp
  have k2 : opCat (.lst (cut (T1.map .int) (some (v : Int)) none)) (.lst (cut (T1.map .int) none (some (v : Int)))) = some (.lst ((T1.drop v ++ T1.take v).map .int)) := by
    rw [cut_drop (by omega), cut_take (by omega), Int.toNat_natCast, cat_ok (by simp; omega)]; simp
  refine ⟨L1.drop v ++ L1.take v, T1.drop v ++ T1.take v, p, by simp only [List.length_append, List.length_drop, List.length_take]; omega, by simp only [List.length_append, List.length_drop, List.length_take]; omega, hp2, fun x hx => ?_, ?_⟩
  · rcases List.mem_append.mp hx with hx | hx
    · exact hLB1 x (List.mem_of_mem_drop hx)
    · exact hLB1 x (List.mem_of_mem_take hx)
  · rw [hv']
    simp only [yE, exs_cons, exs_nil, ex_app, ev_tup, ev_bi, evL_cons, evL_nil, ev_v, get_mk, List.getElem?_cons_zero, List.getElem?_cons_succ, R.lift_some, R.bind_ok, R.st_ok, z, tuple_l, evP_pk, Option.bind_some, getP_nil]
    rw [app_ok rfl hl1]
    simp only [RS.seq_nx, List.set_cons_zero, List.set_cons_succ, exs_cons, exs_nil, ex_app, ev_fl, ev_pk, flat_i, if_true, get_mk, List.getElem?_cons_zero, List.getElem?_cons_succ, R.lift_some, R.bind_ok, R.st_ok, evP_pk, Option.bind_some, getP_nil]
    rw [app_ok rfl hl2]
    have eL : L.map LD ++ [.tup [.str s, .tup ((Sm.map fun x => -x).map .int)]] = L1.map LD := by simp only [L1, List.map_append, List.map_cons, List.map_nil]; rfl
    have eT : A.map D.int ++ [.int (u : Int)] = T1.map .int := by simp only [T1, List.map_append, List.map_cons, List.map_nil]
    rw [eL]
    simp only [eT, exs_cons, exs_nil, RS.seq_nx, List.set_cons_zero, List.set_cons_succ, ex_asg, ev_op, ev_bi, evL_cons, evL_nil, ev_ix, ev_pk, ev_int, get_mk, set_mk, asg_n, List.getElem?_cons_zero, List.getElem?_cons_succ, R.lift_some, R.bind_ok, R.st_ok, g7, int_i, op_add_i, op_sub_i, m7, mp, ex_ret, ev_tup, ev_fl, flat_i, if_true, ev_cat, ev_slT, evO_some, evO_none, ev_v, optI_i, opSlT_l, k1, k2, RS.seq_rt]
    rfl
theorem r_system (hsh : sh.length = 16) : ∃ (c : Nat) (L : List Ln) (T : List Int) (p : Nat), c ≤ 16 ∧ L.length ≤ 58 ∧ T.length = L.length ∧ p < L.length ∧ (∀ p ∈ L, LnB c 9000000 p) ∧
    run prog (n + 3) 13 [.lst (ns.map .int), .lst (sh.map .int)] o = .ok (.tup [.int (c : Int), .lst (L.map LD), .lst (T.map .int), .int (p : Int)]) [] o := by
  obtain ⟨c, m, lim, hc1, hc, hm1, hm, hl1, hl2, hA⟩ := sysA (n := n + 2) (o := o) hsh (S := .lst (ns.map .int))
  obtain ⟨u, q, sg, E, P, A0, hu1, hu, hq, hE, hE9, hP, hP2, hA0, hA0B, hB⟩ := sysB (n := n) (o := o) (ns := ns) hsh hc hm hl1 hl2
  obtain ⟨e', h1, L, A, Sm, a13, a14, a15, a16, a17, rfl, hLl, hLB, hAl, hAB, hSl, hSB⟩ := for_runN (N := m) (t := .n 13) (b := exs prog.gl (run prog (n + 2)) prog.sub (yC0 ++ (yC1 ++ (yC2 ++ (yC3 ++ yC4))))) (F := fun k : Nat => D.int (k : Int))
    (fun pre e => ∃ (L : List Ln) (A Sm : List Int) (a13 a14 a15 a16 a17 : D), e = st20 (.lst (ns.map .int)) (.lst (sh.map .int)) (.int (c : Int)) (.int (m : Int)) (.int (lim : Int)) (.int (u : Int)) (.int (q : Int)) (.bl sg) (.lst (E.map .int)) (.lst (P.map .int)) (.lst (A.map .int)) (.lst (L.map LD)) (.lst (Sm.map .int)) a13 a14 a15 a16 a17 .non .non o ∧ L.length = pre.length ∧ (∀ p ∈ L, LnB c 9000000 p) ∧ A.length = m ∧ Bd 1001 A ∧ Sm.length = c ∧ Bd (pre.length * 9009) Sm)
    (l := List.range m) (pre := []) (e := st20 (.lst (ns.map .int)) (.lst (sh.map .int)) (.int (c : Int)) (.int (m : Int)) (.int (lim : Int)) (.int (u : Int)) (.int (q : Int)) (.bl sg) (.lst (E.map .int)) (.lst (P.map .int)) (.lst (A0.map .int)) (.lst []) (.lst ((zs c).map .int)) .non .non .non .non .non .non .non o)
    ⟨[], A0, zs c, _, _, _, _, _, rfl, rfl, fun p hp => by simp at hp, hA0, hA0B, by simp, fun x hx => by simp at hx; obtain ⟨_, rfl⟩ := hx; decide⟩ (by simp) (by
    rintro pre k e ⟨L, A, Sm, a13, a14, a15, a16, a17, rfl, hLl, hLB, hAl, hAB, hSl, hSB⟩ hk hpm
    have hk : k < m := by simpa using hk
    obtain ⟨s, l, Sm', A', d17', f1, f2, f3, f4, f5, f6⟩ := sysC (n := n + 2) (o := o) (S := .lst (ns.map .int)) (SH := .lst (sh.map .int)) (d3 := .int (m : Int)) (d4 := .int (lim : Int)) (d12 := .non) (d13 := .non) (d14 := a14) (d15 := a15) (d16 := a16) (d17 := a17) (q := q) (sg := sg) (N := pre.length) hc (show u ≤ 4 by omega) hE hE9 hk hm hP hP2 hAl hAB hSl hSB (by omega) (show L.length ≤ 100 by omega)
    refine ⟨st20 (.lst (ns.map .int)) (.lst (sh.map .int)) (.int (c : Int)) (.int (m : Int)) (.int (lim : Int)) (.int (u : Int)) (.int (q : Int)) (.bl sg) (.lst (E.map .int)) (.lst (P.map .int)) (.lst (A.map .int)) (.lst (L.map LD)) (.lst (Sm.map .int)) (.int (k : Int)) a14 a15 a16 a17 .non .non o, _, rfl, f6, _, _, _, _, _, _, _, _, rfl, by simp [hLl], ?_, f4, f5, f2, ?_⟩
    · intro x hx
      rcases List.mem_append.mp hx with hx | hx
      · exact hLB x hx
      · simp at hx; subst hx; exact f1
    · rw [List.length_append]; exact f3)
  have hSB' : Bd 9000000 Sm := fun x hx => by
    have h2 := hSB x hx
    simp only [List.nil_append, List.length_range] at h2
    have : m * 9009 ≤ 57 * 9009 := Nat.mul_le_mul_right _ hm
    omega
  have hLm : L.length = m := by simpa using hLl
  obtain ⟨s, hs, hD⟩ := sysD (n := n + 2) (o := o) (S := .lst (ns.map .int)) (SH := .lst (sh.map .int)) (d2 := .int (c : Int)) (d4 := .int (lim : Int)) (d5 := .int (u : Int)) (d8 := .lst (E.map .int)) (d10 := .lst (A.map .int)) (d11 := .lst (L.map LD)) (d12 := .lst (Sm.map .int)) (d13 := a13) (d14 := a14) (d15 := a15) (d16 := a16) (d17 := a17) (d18 := .non) (d19 := .non) (q := q) (sg := sg) hP
  obtain ⟨L', T, p, g1, g2, g3, g4, hE'⟩ := sysE (n := n + 2) (o := o) (S := .lst (ns.map .int)) (d4 := .int (lim : Int)) (d8 := .lst (E.map .int)) (d9 := .lst (P.map .int)) (d13 := a13) (d15 := a15) (d16 := a16) (d17 := a17) (u := u) (sg := sg) hsh hs hc hm (show q ≤ m from hq) hLm hLB hAl hSl hSB'
  refine ⟨c, L', T, p, hc, by omega, by omega, by omega, g4, ?_⟩
  rw [run_eq (fn := f13) rfl, callFn_eq rfl, f13_body, exs_app]
  show ends f13 ((exs prog.gl (run prog (n + 2)) prog.sub yA (st20 (.lst (ns.map .int)) (.lst (sh.map .int)) .non .non .non .non .non .non .non .non .non .non .non .non .non .non .non .non .non .non o)).seq _) = _
  rw [hA, RS.seq_nx, exs_app, hB, RS.seq_nx, exs_app, exs_one, ex_fr, evrg (n := m) rfl (by omega), R.st_ok]
  simp only [items_itr]
  rw [h1, RS.seq_nx, exs_app, hD, RS.seq_nx, hE']
  simp [ends, outsOf, f13]
end
end LW

namespace LW
open Z
def JF (n : Nat) (o : List Ob) : Prop := ∀ (c : Nat) (L : List Ln) (b : List Int), c ≤ 1000 → Lns c L → L.length ≤ 1000 → ∀ as st, callR (run prog n) 12 as [.int (c : Int), .lst (L.map LD), .lst (b.map .int)] ⟨st, o⟩ = .ok (.bl true) ⟨st, o⟩
theorem jf {n : Nat} {o : List Ob} : JF (n + 4) o := fun c L b hc h hL as st => callR_ok (r_fitj (n := n) h hc hL)
def wid (p : Ln) : Ln := (p.1, p.2 ++ [0])
abbrev gr1 : List Z.S := [.ite (.nt (.call 12 [(.op .add (.pk 0) (.int 1)), (.v 5), (.cat (.v 2) (.v 6))])) [.ret (.bl false)] []]
abbrev gr2 : List Z.S := [.ite (.or (.cmp .lt (.bi .len [(.pk 1)]) (.int 9)) (.or (.cmp .eq (.pk 7) (.pk 4)) (.or (.cmp .eq (.pk 7) (.int 0)) (.or (.cmp .eq (.pk 7) (.op .sub (.bi .len [(.pk 1)]) (.int 1))) (.cmp .eq (.pk 7) (.op .mul (.int 2) (.pk 4))))))) [.ite (.nt (.call 12 [(.v 0), (.cat (.cat (.slT (.v 1) none (some (.pk 7))) (.lst [(.ix (.v 3) (.pk 7))])) (.slT (.v 1) (some (.op .add (.pk 7) (.int 1))) none)), (.v 2)])) [.ret (.bl false)] []] []]
abbrev gh : List Z.S := [.ite (.or (.nt (.call 12 [(.v 0), (.v 1), (.v 2)])) (.nt (.call 12 [(.v 0), (.lst []), (.v 2)]))) [.ret (.bl false)] [], .asg (.n 5) (.lc (.tup [(.ix (.v 8) (.int 0)), (.catT (.ix (.v 8) (.int 1)) (.tup [(.int 0)]))]) (.n 8) (.v 1) [])]
abbrev gm : List Z.S := [.ite (.nt (.call 12 [(.v 0), (.v 1), (.cat (.v 2) (.lst [(.int 0)]))])) [.ret (.bl false)] []]
theorem f21_body : f21.body = gh ++ ([.fr (.n 6) (.lst [(.lst []), (.lst [(.int 0)]), (.lst [(.int 0), (.int 0)]), (.lst [(.int 5)]), (.lst [(.neg (.int 7))])]) gr1] ++ (gm ++ [.ite (.cmp .eq (.pk 0) (.int 0)) [.ret (.call 12 [(.int 0), (.call 14 [(.v 1), (.v 4), (.tup [(.str [62]), (.tup [])])]), (.lst [])])] [], .fr (.n 7) (.rg (.bi .len [(.pk 1)])) gr2, .ret (.bl true)])) := rfl
theorem r_right {n : Nat} {o : List Ob} {c : Nat} {L B : List Ln} {b : List Int} {k : Int} (hc : c ≤ 15) (hL : L.length ≤ 59) (hBl : B.length = L.length) (h : Lns c L) (hB : Lns c B) (hb : b.length ≤ 100) (h0 : 0 ≤ k) (hk : k ≤ 1000) :
    run prog (n + 5) 21 [.int (c : Int), .lst (L.map LD), .lst (b.map .int), .lst (B.map LD), .int k] o = .ok (.bl true) [] o := by
  rw [run_eq (fn := f21) rfl]
  have J : JF (n + 4) o := jf
  let W := L.map wid
  have hW : Lns (c + 1) W := fun p hp => by
    obtain ⟨q, hq, rfl⟩ := List.mem_map.mp hp
    have := h q hq
    refine ⟨this.sg, by simp [wid, this.len], fun x hx => ?_⟩
    rcases List.mem_append.mp hx with hx | hx
    · exact this.sm x hx
    · simp at hx; subst hx; unfold Z.small; decide
  have z : ev prog.gl (run prog (n + 4)) (.lc (.tup [(.ix (.v 8) (.int 0)), (.catT (.ix (.v 8) (.int 1)) (.tup [(.int 0)]))]) (.n 8) (.v 1) []) (st9 (.int (c : Int)) (.lst (L.map LD)) (.lst (b.map .int)) (.lst (B.map LD)) (.int k) .non .non .non .non o) = .ok (.lst (W.map LD)) (st9 (.int (c : Int)) (.lst (L.map LD)) (.lst (b.map .int)) (.lst (B.map LD)) (.int k) .non .non .non .non o) := by
    rw [lc_n (l := L) (F := LD) (g := fun p => LD (wid p)) (evv rfl) rfl (by simp) (fun p hp => ?_) (by omega)]
    · simp only [W, List.map_map]; rfl
    · have e1 : opCatT (tupI p.2) (.tup [.int 0]) = some (tupI (p.2 ++ [0])) := by
        have hl := (h p hp).len
        unfold tupI
        rw [catT_t (by simp; omega)]; simp
      simp only [ev_tup, ev_catT, ev_ix, ev_v, ev_int, evL_cons, evL_nil, get_mk, set_mk, List.set_cons_zero, List.set_cons_succ, List.getElem?_cons_zero, List.getElem?_cons_succ, R.lift_some, R.bind_ok, LD0, LD1, e1]
      rfl
  have j1 : ∀ as st, callR (run prog (n + 4)) 12 as [.int (c : Int), .lst (L.map LD), .lst (b.map .int)] ⟨st, o⟩ = .ok (.bl true) ⟨st, o⟩ := fun as st => J c L b (by omega) h (by omega) as st
  have j2 : ∀ as st, callR (run prog (n + 4)) 12 as [.int (c : Int), .lst [], .lst (b.map .int)] ⟨st, o⟩ = .ok (.bl true) ⟨st, o⟩ := fun as st => J c [] b (by omega) Lns.nil (by simp) as st
  have hcat0 : opCat (.lst (b.map .int)) (.lst [.int 0]) = some (.lst ((b ++ [0]).map .int)) := by rw [cat_ok (by simp; omega)]; simp
  have j3 : ∀ as st, callR (run prog (n + 4)) 12 as [.int (c : Int), .lst (L.map LD), .lst ((b ++ [0]).map .int)] ⟨st, o⟩ = .ok (.bl true) ⟨st, o⟩ := fun as st => J c L _ (by omega) h (by omega) as st
  have body : ∀ (x : List Int) (a6 : D), x.length ≤ 2 → exs prog.gl (run prog (n + 4)) prog.sub gr1 (st9 (.int (c : Int)) (.lst (L.map LD)) (.lst (b.map .int)) (.lst (B.map LD)) (.int k) (.lst (W.map LD)) (.lst (x.map .int)) .non .non o) = .nx (st9 (.int (c : Int)) (.lst (L.map LD)) (.lst (b.map .int)) (.lst (B.map LD)) (.int k) (.lst (W.map LD)) (.lst (x.map .int)) .non .non o) := by
    intro x a6 hx
    have hcat : opCat (.lst (b.map .int)) (.lst (x.map .int)) = some (.lst ((b ++ x).map .int)) := by rw [cat_ok (by simp; omega)]; simp
    have hj : ∀ as st, callR (run prog (n + 4)) 12 as [.int ((c : Int) + 1), .lst (W.map LD), .lst ((b ++ x).map .int)] ⟨st, o⟩ = .ok (.bl true) ⟨st, o⟩ := fun as st => J (c + 1) W _ (by omega) hW (by simp [W]; omega) as st
    simp only [gr1, exs_one, ex_ite, ev_nt, ev_call, evL_cons, evL_nil, ev_op, ev_pk, ev_int, ev_v, ev_cat, get_mk, List.getElem?_cons_zero, List.getElem?_cons_succ, R.lift_some, R.bind_ok, op_add_i, hcat, hj, truth_bl, Option.map_some, Bool.not_true, R.st_ok, exs_nil]
  have b0 := body [] .non (by simp)
  have b1 := body [0] .non (by simp)
  have b2 := body [0, 0] .non (by simp)
  have b3 := body [5] .non (by simp)
  have b4 := body [-7] .non (by simp)
  simp only [List.map_cons, List.map_nil] at b0 b1 b2 b3 b4
  have loop1 : exs prog.gl (run prog (n + 4)) prog.sub [.fr (.n 6) (.lst [(.lst []), (.lst [(.int 0)]), (.lst [(.int 0), (.int 0)]), (.lst [(.int 5)]), (.lst [(.neg (.int 7))])]) gr1] (st9 (.int (c : Int)) (.lst (L.map LD)) (.lst (b.map .int)) (.lst (B.map LD)) (.int k) (.lst (W.map LD)) .non .non .non o) = .nx (st9 (.int (c : Int)) (.lst (L.map LD)) (.lst (b.map .int)) (.lst (B.map LD)) (.int k) (.lst (W.map LD)) (.lst [.int (-7)]) .non .non o) := by
    simp only [exs_one, ex_fr, ev_lst, evL_cons, evL_nil, ev_int, ev_neg, R.bind_ok, R.st_ok, items_lst, forL, asg_n, set_mk, List.set_cons_zero, List.set_cons_succ, b0, b1, b2, b3, b4]
  have head : exs prog.gl (run prog (n + 4)) prog.sub gh (st9 (.int (c : Int)) (.lst (L.map LD)) (.lst (b.map .int)) (.lst (B.map LD)) (.int k) .non .non .non .non o) = .nx (st9 (.int (c : Int)) (.lst (L.map LD)) (.lst (b.map .int)) (.lst (B.map LD)) (.int k) (.lst (W.map LD)) .non .non .non o) := by
    simp only [gh, exs_cons, exs_nil, ex_ite, ev_or, ev_nt, ev_call, evL_cons, evL_nil, ev_v, ev_lst, get_mk, set_mk, asg_n, List.set_cons_zero, List.set_cons_succ, List.getElem?_cons_zero, List.getElem?_cons_succ, R.lift_some, R.bind_ok, j1, j2, truth_bl, Option.map_some, Bool.not_true, R.st_ok, RS.seq_nx, ex_asg, z]
  have mid : exs prog.gl (run prog (n + 4)) prog.sub gm (st9 (.int (c : Int)) (.lst (L.map LD)) (.lst (b.map .int)) (.lst (B.map LD)) (.int k) (.lst (W.map LD)) (.lst [.int (-7)]) .non .non o) = .nx (st9 (.int (c : Int)) (.lst (L.map LD)) (.lst (b.map .int)) (.lst (B.map LD)) (.int k) (.lst (W.map LD)) (.lst [.int (-7)]) .non .non o) := by
    simp only [gm, exs_one, exs_nil, ex_ite, ev_nt, ev_call, evL_cons, evL_nil, ev_v, ev_lst, ev_int, ev_cat, get_mk, List.getElem?_cons_zero, List.getElem?_cons_succ, R.lift_some, R.bind_ok, hcat0, j3, truth_bl, Option.map_some, Bool.not_true, R.st_ok]
  rw [callFn_eq rfl, f21_body, exs_app]
  show ends f21 ((exs prog.gl (run prog (n + 4)) prog.sub gh (st9 (.int (c : Int)) (.lst (L.map LD)) (.lst (b.map .int)) (.lst (B.map LD)) (.int k) .non .non .non .non o)).seq _) = _
  rw [head, RS.seq_nx, exs_app, loop1, RS.seq_nx, exs_app, mid, RS.seq_nx]
  by_cases hc0 : c = 0
  · subst hc0
    have p1 : ∀ as st, callR (run prog (n + 4)) 14 as [.lst (L.map LD), .int k, .tup [.str [62], .tup []]] ⟨st, o⟩ = .ok (.lst ((ins L k.toNat (GT, [])).map LD)) ⟨st, o⟩ := fun as st => callR_ok (r_put (n := n + 3) (F := LD) (x := (GT, [])) h0 (by omega))
    have j4 : ∀ as st, callR (run prog (n + 4)) 12 as [.int 0, .lst ((ins L k.toNat (GT, [])).map LD), .lst []] ⟨st, o⟩ = .ok (.bl true) ⟨st, o⟩ := fun as st => J 0 (ins L k.toNat (GT, [])) [] (by omega) (Lns.ins (p := (GT, [])) (k := k.toNat) h ⟨.inl rfl, rfl, fun x hx => by simp at hx⟩) (Nat.le_trans ins_len (by omega)) as st
    have hcc : (((0 : Nat) : Int) == 0) = true := rfl
    simp only [exs_cons, exs_nil, ex_ite, ev_cmp, ev_pk, ev_int, get_mk, List.getElem?_cons_zero, List.getElem?_cons_succ, R.lift_some, R.bind_ok, R.st_ok, cp_eq_i, hcc, Option.map_some, truth_bl, ex_ret, ev_call, evL_cons, evL_nil, ev_v, ev_tup, ev_str, ev_lst, p1, j4, RS.seq_rt]
    rfl
  · have hcc : ((c : Int) == 0) = false := by simp only [beq_eq_false_iff_ne]; omega
    obtain ⟨e', h1, a7, rfl⟩ := for_run (t := .n 7) (b := exs prog.gl (run prog (n + 4)) prog.sub gr2) (F := fun k : Nat => D.int (k : Int)) (fun pre e => ∃ a7, e = st9 (.int (c : Int)) (.lst (L.map LD)) (.lst (b.map .int)) (.lst (B.map LD)) (.int k) (.lst (W.map LD)) (.lst [.int (-7)]) a7 .non o) (l := List.range (L.map LD).length) (pre := []) (e := st9 (.int (c : Int)) (.lst (L.map LD)) (.lst (b.map .int)) (.lst (B.map LD)) (.int k) (.lst (W.map LD)) (.lst [.int (-7)]) .non .non o) ⟨_, rfl⟩ (by
      rintro pre j e ⟨a7, rfl⟩ hj
      have hj : j < L.length := by simpa using hj
      refine ⟨st9 (.int (c : Int)) (.lst (L.map LD)) (.lst (b.map .int)) (.lst (B.map LD)) (.int k) (.lst (W.map LD)) (.lst [.int (-7)]) (.int (j : Int)) .non o, st9 (.int (c : Int)) (.lst (L.map LD)) (.lst (b.map .int)) (.lst (B.map LD)) (.int k) (.lst (W.map LD)) (.lst [.int (-7)]) (.int (j : Int)) .non o, rfl, ?_, _, rfl⟩
      have gB : opIx (.lst (B.map LD)) (.int (j : Int)) = some (LD (B.getD j ([], []))) := by rw [ix_l, get_nat (F := LD) (d := ([], [])) (by omega)]
      have hBj : LnOk c (B.getD j ([], [])) := hB.at_ (by omega)
      generalize B.getD j ([], []) = p at gB hBj
      obtain ⟨e1, e2⟩ := rep1_cat (F := LD) (x := p) (l := L) (k := (j : Int)) (by omega) (by omega)
      rw [Int.toNat_natCast] at e1 e2
      have hjj : ∀ as st, callR (run prog (n + 4)) 12 as [.int (c : Int), .lst ((rep1 L j p).map LD), .lst (b.map .int)] ⟨st, o⟩ = .ok (.bl true) ⟨st, o⟩ := fun as st => J c (rep1 L j p) b (by omega) (Lns.rep1 (k := j) h hBj) (Nat.le_trans rep1_le (by omega)) as st
      have inner : exs prog.gl (run prog (n + 4)) prog.sub [.ite (.nt (.call 12 [(.v 0), (.cat (.cat (.slT (.v 1) none (some (.pk 7))) (.lst [(.ix (.v 3) (.pk 7))])) (.slT (.v 1) (some (.op .add (.pk 7) (.int 1))) none)), (.v 2)])) [.ret (.bl false)] []] (st9 (.int (c : Int)) (.lst (L.map LD)) (.lst (b.map .int)) (.lst (B.map LD)) (.int k) (.lst (W.map LD)) (.lst [.int (-7)]) (.int (j : Int)) .non o) = .nx (st9 (.int (c : Int)) (.lst (L.map LD)) (.lst (b.map .int)) (.lst (B.map LD)) (.int k) (.lst (W.map LD)) (.lst [.int (-7)]) (.int (j : Int)) .non o) := by
        simp only [exs_one, exs_nil, ex_ite, ev_nt, ev_call, evL_cons, evL_nil, ev_cat, ev_slT, evO_none, evO_some, ev_op, ev_v, ev_pk, ev_int, ev_ix, ev_lst, get_mk, List.getElem?_cons_zero, List.getElem?_cons_succ, R.lift_some, R.bind_ok, optI_i, opSlT_l, gB, e1, op_add_i, e2, hjj, truth_bl, Option.map_some, Bool.not_true, R.st_ok]
      have cond : ∃ w : Bool, ev prog.gl (run prog (n + 4)) (.or (.cmp .lt (.bi .len [(.pk 1)]) (.int 9)) (.or (.cmp .eq (.pk 7) (.pk 4)) (.or (.cmp .eq (.pk 7) (.int 0)) (.or (.cmp .eq (.pk 7) (.op .sub (.bi .len [(.pk 1)]) (.int 1))) (.cmp .eq (.pk 7) (.op .mul (.int 2) (.pk 4))))))) (st9 (.int (c : Int)) (.lst (L.map LD)) (.lst (b.map .int)) (.lst (B.map LD)) (.int k) (.lst (W.map LD)) (.lst [.int (-7)]) (.int (j : Int)) .non o) = .ok (.bl w) (st9 (.int (c : Int)) (.lst (L.map LD)) (.lst (b.map .int)) (.lst (B.map LD)) (.int k) (.lst (W.map LD)) (.lst [.int (-7)]) (.int (j : Int)) .non o) := by
        have m2 : op2 .mul (.int 2) (.int k) = some (.int (2 * k)) := op_mul_l (by decide)
        cases w1 : decide ((L.length : Int) < 9) with
        | true => exact ⟨true, by simp only [ev_or, ev_cmp, ev_bi, evL_cons, evL_nil, ev_pk, ev_int, get_mk, List.getElem?_cons_zero, List.getElem?_cons_succ, R.lift_some, R.bind_ok, len_l, List.length_map, cp_lt_i, w1, Option.map_some, truth_bl]⟩
        | false =>
          cases w2 : ((j : Int) == k) with
          | true => exact ⟨true, by simp only [ev_or, ev_cmp, ev_bi, evL_cons, evL_nil, ev_pk, ev_int, get_mk, List.getElem?_cons_zero, List.getElem?_cons_succ, R.lift_some, R.bind_ok, len_l, List.length_map, cp_lt_i, w1, Option.map_some, truth_bl, cp_eq_i, w2]⟩
          | false =>
            cases w3 : ((j : Int) == 0) with
            | true => exact ⟨true, by simp only [ev_or, ev_cmp, ev_bi, evL_cons, evL_nil, ev_pk, ev_int, get_mk, List.getElem?_cons_zero, List.getElem?_cons_succ, R.lift_some, R.bind_ok, len_l, List.length_map, cp_lt_i, w1, Option.map_some, truth_bl, cp_eq_i, w2, w3]⟩
            | false =>
              cases w4 : ((j : Int) == (L.length : Int) - 1) with
              | true => exact ⟨true, by simp only [ev_or, ev_cmp, ev_bi, evL_cons, evL_nil, ev_op, ev_pk, ev_int, get_mk, List.getElem?_cons_zero, List.getElem?_cons_succ, R.lift_some, R.bind_ok, len_l, List.length_map, cp_lt_i, w1, Option.map_some, truth_bl, cp_eq_i, w2, w3, op_sub_i, w4]⟩
              | false => exact ⟨((j : Int) == 2 * k), by simp only [ev_or, ev_cmp, ev_bi, evL_cons, evL_nil, ev_op, ev_pk, ev_int, get_mk, List.getElem?_cons_zero, List.getElem?_cons_succ, R.lift_some, R.bind_ok, len_l, List.length_map, cp_lt_i, w1, Option.map_some, truth_bl, cp_eq_i, w2, w3, op_sub_i, w4, m2]⟩
      obtain ⟨w, hw⟩ := cond
      cases w with
      | true => rw [exs_one, ex_ite, hw, R.st_ok, truth_bl]; exact inner
      | false => rw [exs_one, ex_ite, hw, R.st_ok, truth_bl]; exact exs_nil)
    simp only [exs_cons, exs_nil, ex_ite, ev_cmp, ev_pk, ev_int, get_mk, List.getElem?_cons_zero, List.getElem?_cons_succ, R.lift_some, R.bind_ok, R.st_ok, cp_eq_i, hcc, Option.map_some, truth_bl, RS.seq_nx, ex_fr]
    rw [evrgl rfl (by simp; omega), R.st_ok]
    simp only [items_itr]
    rw [h1]
    simp [ends, outsOf, f21]
theorem r_law {n : Nat} {o : List Ob} (ns : List Int) : run prog (n + 9) 22 [.lst (ns.map .int)] o = .ok (.bl true) [] o := by
  rw [run_eq (fn := f22) rfl]
  obtain ⟨sh, s1, s2, s3⟩ := r_many (n := n + 6) (o := o) (ns := ns) (k := 0) (many := 16) (limit := 2520) (by decide) (by decide) (by decide) (by decide) (by decide) (by decide)
  have hsh : sh.length = 16 := s2
  obtain ⟨c, L, T, p, y1, y2, y3, y4, y5, y6⟩ := r_system (n := n + 5) (o := o) (ns := ns) hsh
  obtain ⟨c', L', B, b, x1, x2, x3, x4, x5, x6, x7⟩ := r_fitting (n := n + 5) (o := o) (ns := ns) hsh
  have hL : Lns c L := fun q hq => (y5 q hq).ok (by decide)
  have hL' : Lns c' L' := fun q hq => (x5 q hq).ok (by decide)
  have hB : Lns c' B := fun q hq => (x6 q hq).ok (by decide)
  have hBd : ∀ q ∈ L, ∀ x ∈ q.2, x.natAbs ≤ 1000000000 := fun q hq x hx => Nat.le_trans ((y5 q hq).bd x hx) (by decide)
  have g13 := gl_ (sh := sh) (k := 13) (i := 13) rfl (by omega)
  have g14 := gl_ (sh := sh) (k := 14) (i := 14) rfl (by omega)
  have g15 := gl_ (sh := sh) (k := 15) (i := 15) rfl (by omega)
  obtain ⟨t1, ht1, ht1b⟩ := fmod_nat (sh.getD 13 0) (show 0 < L.length + 1 by omega)
  obtain ⟨t2, ht2, ht2b⟩ := fmod_nat (sh.getD 14 0) (show 0 < L.length by omega)
  obtain ⟨t3, ht3, ht3b⟩ := fmod_nat (sh.getD 15 0) (show 0 < L'.length + 1 by omega)
  have m13 : op2 .mod (.int (sh.getD 13 0)) (.int ((L.length : Int) + 1)) = some (.int (t1 : Int)) := md_ (m := L.length + 1) (by simp) ht1 (by omega)
  have m14 : op2 .mod (.int (sh.getD 14 0)) (.int (L.length : Int)) = some (.int (t2 : Int)) := md_ (m := L.length) rfl ht2 (by omega)
  have m15 : op2 .mod (.int (sh.getD 15 0)) (.int ((L'.length : Int) + 1)) = some (.int (t3 : Int)) := md_ (m := L'.length + 1) (by simp) ht3 (by omega)
  have c5 : ∀ as st, callR (run prog (n + 8)) 5 as [.lst (ns.map .int), .int 0, .int 16, .int 2520] ⟨st, o⟩ = .ok (.lst (sh.map .int)) ⟨st, o⟩ := fun as st => callR_ok s1
  have c13 : ∀ as st, callR (run prog (n + 8)) 13 as [.lst (ns.map .int), .lst (sh.map .int)] ⟨st, o⟩ = .ok (.tup [.int (c : Int), .lst (L.map LD), .lst (T.map .int), .int (p : Int)]) ⟨st, o⟩ := fun as st => callR_ok y6
  have c20 : ∀ as st, callR (run prog (n + 8)) 20 as [.lst (ns.map .int), .lst (sh.map .int)] ⟨st, o⟩ = .ok (.tup [.int (c' : Int), .lst (L'.map LD), .lst (b.map .int), .lst (B.map LD)]) ⟨st, o⟩ := fun as st => callR_ok x7
  have c11 : ∀ as st, callR (run prog (n + 8)) 11 as [.int (c : Int), .lst (L.map LD), .lst (T.map .int)] ⟨st, o⟩ = .ok (.bl true) ⟨st, o⟩ := fun as st => callR_ok (r_balj (n := n + 4) hL (by omega) (by omega))
  have c15 : ∀ as st, callR (run prog (n + 8)) 15 as [.int (c : Int), .lst (L.map LD), .lst (T.map .int), .int (t1 : Int)] ⟨st, o⟩ = .ok (.bl true) ⟨st, o⟩ := fun as st => callR_ok (r_counted (n := n + 3) hL (by omega) (by omega) (by omega) (by omega))
  have c16 : ∀ (j : Nat) as st, j < L.length → callR (run prog (n + 8)) 16 as [.int (c : Int), .lst (L.map LD), .lst (T.map .int), .int (t1 : Int), .int (j : Int)] ⟨st, o⟩ = .ok (.bl true) ⟨st, o⟩ := fun j as st hj => callR_ok (r_twice (n := n + 3) hL (by omega) (by omega) y3 (by omega) (by omega) (by omega))
  have c16a := fun as st => c16 p as st y4
  have c16b := fun as st => c16 t2 as st ht2b
  have c17 : ∀ as st, callR (run prog (n + 8)) 17 as [.int (c : Int), .lst (L.map LD), .lst (T.map .int), .int (p : Int)] ⟨st, o⟩ = .ok (.bl true) ⟨st, o⟩ := fun as st => callR_ok (r_more (n := n + 3) hL (by omega) (by omega) (by omega) (by omega) (by omega))
  have c18 : ∀ as st, callR (run prog (n + 8)) 18 as [.int (c : Int), .lst (L.map LD), .lst (T.map .int), .int (p : Int)] ⟨st, o⟩ = .ok (.bl true) ⟨st, o⟩ := fun as st => callR_ok (r_each (n := n + 3) hL hBd (by omega) (by omega) (by omega) (by omega))
  have c21 : ∀ as st, callR (run prog (n + 8)) 21 as [.int (c' : Int), .lst (L'.map LD), .lst (b.map .int), .lst (B.map LD), .int (t3 : Int)] ⟨st, o⟩ = .ok (.bl true) ⟨st, o⟩ := fun as st => callR_ok (r_right (n := n + 3) x1 x3 x4 hL' hB (by omega) (by omega) (by omega))
  have q0 : ∀ a b c d : D, opIx (.tup [a, b, c, d]) (.int 0) = some a := fun _ _ _ _ => rfl
  have q1 : ∀ a b c d : D, opIx (.tup [a, b, c, d]) (.int 1) = some b := fun _ _ _ _ => rfl
  have q2 : ∀ a b c d : D, opIx (.tup [a, b, c, d]) (.int 2) = some c := fun _ _ _ _ => rfl
  have q3 : ∀ a b c d : D, opIx (.tup [a, b, c, d]) (.int 3) = some d := fun _ _ _ _ => rfl
  simp only [callFn, f22, List.length_cons, List.length_nil, if_true, List.replicate, List.cons_append, List.nil_append, exs_cons, exs_nil, ex_asg, ex_ite, ex_ret, ev_or, ev_nt, ev_call, ev_op, ev_bi, ev_ix, evL_cons, evL_nil, ev_v, ev_pk, ev_int, get_mk, set_mk, asg_n, List.set_cons_zero, List.set_cons_succ, List.getElem?_cons_zero, List.getElem?_cons_succ, R.lift_some, R.bind_ok, R.st_ok, RS.seq_nx, c5, c13, q0, q1, q2, q3, int_i, g13, g14, g15, len_l, List.length_map, op_add_i, m13, m14, m15, c11, c15, c16a, c16b, c17, c18, c20, c21, truth_bl, Option.map_some, Bool.not_true, RS.seq_rt]
  rfl
end LW

namespace LW
open PySem PySem.Spec L2 PyProof.Rows
abbrev rw := PySem.Challenge.rw_scalesfound_k07_judges_of_fit_one_condit
theorem hasGlo : ∀ D ∈ ds, He.Fa.glo D.d.name ∈ fa := fun D hD => List.mem_append_left _ (List.mem_map.mpr ⟨D, hD, rfl⟩)
theorem hasFree : ∀ x ∈ Z.blt, He.Fa.free x ∈ fa := fun x hx => List.mem_append_right _ (List.mem_map.mpr ⟨x, hx, rfl⟩)
theorem facts {K : PySem.W.Frag} {h : Heap} {mg : Str → Option Value} (KX : K.In h) (G : h.Ns mainGlobals mg) (c : He.SaysD fa (ds.map (·.d)) K) : Z.LawOk (lw K) ds 200 K mg where
  hK := rfl
  fns := rfl
  nm := rfl
  ck := List.all_eq_true.mp (ck K)
  sc := List.all_eq_true.mp sc
  fd := Z.fd_of c pl bd
  hmg := Z.mg_of' KX G c pl pl2 hasGlo
  bl := Z.free_of' KX G c hasFree
  gl := fun g v hg => by simp [lw, prog] at hg
end LW
open PySem PySem.W PySem.Calls PyProof.Rows
theorem PySem.Challenge.cw_scalesfound_k07_judges_of_fit_one_condit_holds : PySem.Challenge.rw_scalesfound_k07_judges_of_fit_one_condit.Holds := by
  w_on; o_law
  refine HandSHeadRun.head_any (r := OpenLaw.row PySem.Challenge.rw_scalesfound_k07_judges_of_fit_one_condit) (q := view (OpenLaw.row PySem.Challenge.rw_scalesfound_k07_judges_of_fit_one_condit).prog LW.vw) (H := LW.hk) (ob := LW.ob) (M := 3000) (loose := LW.loose) (d := HandSHeadRun.topDef (OpenLaw.row PySem.Challenge.rw_scalesfound_k07_judges_of_fit_one_condit).prog 24) (kwd := []) LW.ob_eq
    (by kernel_rfl) (fun s => by kernel_rfl) LW.headRun (by kernel_rfl) (by kernel_rfl) (by kernel_rfl) (by rfl) (by first | assumption | decide +kernel) (by decide +kernel) ⟨rfl, rfl, rfl, rfl, rfl, by decide +kernel⟩ ?hw ?hc
  case hw => w_witness2
  case hc =>
    refine Z.walk_Z (l := PySem.Challenge.rw_scalesfound_k07_judges_of_fit_one_condit) (n := 63) (k := 60) (ds := LW.ds) (lw := LW.lw) (m := 200) (iL := 22) rfl (by decide) (by kernel_rfl) ⟨rfl, by decide, by decide⟩ rfl rfl (by kernel_rfl) rfl rfl (LW.bd _ (by simp [LW.ds])) ?F ?P
    case F =>
      intro w mg fa h Y G
      obtain ⟨K, KX, c, nl⟩ := Y
      exact ⟨K, KX, nl, LW.facts KX G c⟩
    case P =>
      intro K ns hl hb
      exact ⟨_, LW.r_law (n := 51) ns⟩
