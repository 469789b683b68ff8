import PyProof.Rows.All
import Wide.All
import OpenK.AllK
import Wide.FinOn
import KE.KStateDown
import Lean
import HandS.ForMost
import HandS.Exc
import HandS.Text
import HandS.Style
import HandS.Flow
import HandS.Wide
import PyProof.StrBlock2
import PyProof.ListIndex
import PyProof.ListIndexNeg
import HandS.Walk
import KE.GoesEnum
import HandS.Zip
import HandS.TupAny
import HandS.IsInst
import HandS.ExcOwn
import HandS.Defaults
import KE.KExcSuper
import HandS.ExcInit
import HandS.ExcField
import HandS.FStr
import HandS.ExcIs
import HandS.TryMany
import KE.KExcIs
import PyProof.StrLawsTight
import PyProof.Rows.ReprOcc
import HandS.Gcd
import HandS.Conv
import HandS.Ends
import HandS.EndBits
import HandS.HeadEnd
import HandS.HeadHook1
import HandS.HeadHook2
import HandS.Head0
import HandS.Head1
import HandS.Head2
import PySem.Challenge.RW_scalesfound_k08_least_scale_or_ring
set_option Elab.async false
set_option linter.all false
set_option maxRecDepth 100000
set_option maxHeartbeats 0
/-! Z1: deep data, a small core language and its evaluator. Plain Lean. -/
namespace Z
abbrev Txt := List Nat
/-- the most items of a list or a text that the evaluator makes -/
def LIM : Nat := 4000000

inductive D where
  | non | bl (b : Bool) | int (i : Int) | str (s : Txt)
  | tup (xs : List D) | lst (xs : List D)
  | set (xs : List D)
  | itr (xs : List D)
  | dct (ks : List D) (vs : List D)
  | ob (l : Nat)
  | exc (c : Nat) (xs : List D)
deriving Inhabited

structure Ob where
  cls : Nat
  fs : List D

structure Env where
  s : List D
  o : List Ob

inductive O2 | add | sub | mul | fdiv | mod | pow | bor
deriving DecidableEq
inductive Cp | eq | ne | lt | le | gt | ge | is | isn | isin | nin
deriving DecidableEq
/-- built-in functions -/
inductive B1 | len | abs | int | str | list | tuple | sum | all | any | max | min | sorted | gcd | set | isInt | isBool | isStr | isList | isTuple | range1
deriving DecidableEq
/-- methods that read -/
inductive M1 | join | split | count | index | startswith | find
deriving DecidableEq

/-- targets -/
inductive T | n (i : Nat) | tp (is : List Nat)

inductive C where
  | non | bl (b : Bool) | int (i : Int) | str (s : Txt)
  /-- a local, shared from here on; moved; looked at -/
  | v (i : Nat) | mv (i : Nat) | pk (i : Nat)
  /-- an argument that the callee may change; one that it looks at -/
  | io (i : Nat) | bo (i : Nat)
  | gl (g : Nat)
  | op (o : O2) (a b : C)
  | cat (a b : C) | rep (a b : C) | catT (a b : C)
  | neg (a : C) | nt (a : C)
  | and (a b : C) | or (a b : C)
  | cmp (o : Cp) (a b : C)
  | cmp2 (o o' : Cp) (a b c : C)
  | ife (c a b : C)
  | call (f : Nat) (as : List C)
  | bi (f : B1) (as : List C)
  | mt (m : M1) (o : C) (as : List C)
  | ix (a i : C)
  /-- an item of a local -/
  | ixv (x : Nat) (i : C)
  | sl (a : C) (lo hi : Option C) | slT (a : C) (lo hi : Option C)
  | rev (a : C)
  | lst (as : List C) | tup (as : List C)
  | rg (a : C) | rg2 (a b : C) | en (a : C) | zp (a b : C)
  | lc (e : C) (t : T) (it : C) (cs : List C)
  | lc2 (e : C) (t : T) (it : C) (cs : List C) (t2 : T) (it2 : C) (cs2 : List C)
  | fst (as : List C)
  /-- a flat value: asked while it runs -/
  | fl (a : C)
  | pop (i : Nat)
  /-- a field of the caught exception -/
  | fx (i f : Nat)

inductive S where
  | pass | brk | ct
  | asg (t : T) (e : C)
  | par (i j : Nat) (a b : C)
  | aug (i : Nat) (o : O2) (e : C)
  /-- x[p]..[i] = e -/
  | six (p : C) (i : C) (e : C)
  | aix (p : C) (i : C) (o : O2) (e : C)
  | app (p : C) (e : C)
  | ext (p : C) (e : C)
  | ex (e : C)
  | ite (c : C) (a b : List S)
  | fr (t : T) (it : C) (b : List S)
  | wl (c : C) (b : List S)
  | ret (e : C) | retN
  /-- raise a class; m: its message shows the first argument -/
  | rs (c : Nat) (m : Bool) (as : List C)
  | tr (b : List S) (h : S)
  /-- an except clause: class, the slot of its name, the suite, the next clause -/
  | hc (c : Nat) (i : Nat) (b : List S) (nx : S)

inductive R (α : Type) where
  | ok (a : α) (e : Env)
  | exc (x : D) (e : Env)
  | bad
def R.bind {α β : Type} (r : R α) (f : α → Env → R β) : R β := match r with
  | .ok a e => f a e
  | .exc x e => .exc x e
  | .bad => .bad
@[simp] theorem R.bind_ok {α β : Type} (a : α) (e : Env) (f : α → Env → R β) : (R.ok a e).bind f = f a e := rfl
@[simp] theorem R.bind_exc {α β : Type} (x : D) (e : Env) (f : α → Env → R β) : (R.exc x e : R α).bind f = .exc x e := rfl
@[simp] theorem R.bind_bad {α β : Type} (f : α → Env → R β) : (R.bad : R α).bind f = .bad := rfl
/-- a pure answer -/
def R.lift {α : Type} (o : Option α) (e : Env) : R α := match o with
  | some a => .ok a e
  | none => .bad
@[simp] theorem R.lift_some {α : Type} (a : α) (e : Env) : R.lift (some a) e = .ok a e := rfl
@[simp] theorem R.lift_none {α : Type} (e : Env) : R.lift (none : Option α) e = .bad := rfl

inductive RS where
  | nx (e : Env) | bk (e : Env) | ct (e : Env)
  | rt (d : D) (e : Env)
  | exc (x : D) (e : Env)
  | bad
def R.st {α : Type} (r : R α) (f : α → Env → RS) : RS := match r with
  | .ok a e => f a e
  | .exc x e => .exc x e
  | .bad => .bad
@[simp] theorem R.st_ok {α : Type} (a : α) (e : Env) (f : α → Env → RS) : (R.ok a e).st f = f a e := rfl
@[simp] theorem R.st_exc {α : Type} (x : D) (e : Env) (f : α → Env → RS) : (R.exc x e : R α).st f = .exc x e := rfl
@[simp] theorem R.st_bad {α : Type} (f : α → Env → RS) : (R.bad : R α).st f = .bad := rfl
def RS.seq (r : RS) (f : Env → RS) : RS := match r with
  | .nx e => f e
  | r => r
@[simp] theorem RS.seq_nx (e : Env) (f : Env → RS) : (RS.nx e).seq f = f e := rfl
@[simp] theorem RS.seq_bk (e : Env) (f : Env → RS) : (RS.bk e).seq f = .bk e := rfl
@[simp] theorem RS.seq_ct (e : Env) (f : Env → RS) : (RS.ct e).seq f = .ct e := rfl
@[simp] theorem RS.seq_rt (d : D) (e : Env) (f : Env → RS) : (RS.rt d e).seq f = .rt d e := rfl
@[simp] theorem RS.seq_exc (d : D) (e : Env) (f : Env → RS) : (RS.exc d e).seq f = .exc d e := rfl
@[simp] theorem RS.seq_bad (f : Env → RS) : RS.bad.seq f = .bad := rfl

/-- a call's end: the answer, the changed arguments, the objects -/
inductive CR where
  | ok (r : D) (outs : List D) (o : List Ob)
  | exc (x : D) (o : List Ob)
  | bad

/-! ### levels -/
def dn (n : Nat) : Nat := if n ≤ 1 then n else if 100 ≤ n then 100 else n - 1
def up (n : Nat) : Nat := if 99 ≤ n then 100 else n + 1
/-- what a comprehension lets out: nothing raised -/
def R.nox {α : Type} : R α → R α
  | .exc _ _ => .bad
  | r => r
@[simp] theorem R.nox_ok {α : Type} (a : α) (e : Env) : (R.ok a e).nox = .ok a e := rfl
@[simp] theorem R.nox_exc {α : Type} (x : D) (e : Env) : (R.exc x e : R α).nox = .bad := rfl
@[simp] theorem R.nox_bad {α : Type} : (R.bad : R α).nox = .bad := rfl
/-! ### values -/
def truth : D → Option Bool
  | .non => some false
  | .bl b => some b
  | .int i => some (i != 0)
  | .str s => if s.length ≤ LIM then some (s.length != 0) else none
  | .tup xs => some (!xs.isEmpty)
  | .lst xs => some (!xs.isEmpty)
  | _ => none
def flat : D → Bool
  | .non => true
  | .bl _ => true
  | .int _ => true
  | .str _ => true
  | _ => false
mutual
/-- data: what == compares; no deeper than n -/
def isDataN : D → Nat → Bool
  | .non, _ => true
  | .bl _, _ => true
  | .int _, _ => true
  | .str s, _ => s.all fun c => decide (c < 1114112)
  | .tup xs, n => decide (0 < n) && isDataL xs (n - 1)
  | .lst xs, n => decide (0 < n) && isDataL xs (n - 1)
  | _, _ => false
def isDataL : List D → Nat → Bool
  | [], _ => true
  | x :: xs, n => isDataN x n && isDataL xs n
end
def isData (d : D) : Bool := isDataN d 60
/-- two flat values that == compares by their kinds -/
def scalD : D → D → Bool
  | .non, .non => true | .non, .int _ => true | .int _, .non => true | .non, .bl _ => true | .bl _, .non => true | .non, .str _ => true | .str _, .non => true
  | .int _, .int _ => true | .bl _, .bl _ => true | .str _, .str _ => true
  | .int _, .str _ => true | .str _, .int _ => true | .bl _, .str _ => true | .str _, .bl _ => true
  | _, _ => false
mutual
def eqD : D → D → Bool
  | .non, .non => true
  | .bl a, .bl b => a == b
  | .bl a, .int b => (if a then 1 else 0) == b
  | .int a, .bl b => a == (if b then 1 else 0)
  | .int a, .int b => a == b
  | .str a, .str b => a == b
  | .tup xs, .tup ys => eqDL xs ys
  | .lst xs, .lst ys => eqDL xs ys
  | _, _ => false
def eqDL : List D → List D → Bool
  | [], [] => true
  | x :: xs, y :: ys => eqD x y && eqDL xs ys
  | _, _ => false
end
def guardL {α : Type} (n : Nat) (a : α) : Option α := if n ≤ LIM then some a else none
theorem guardL_pos {α : Type} {n : Nat} {a : α} (h : n ≤ LIM) : guardL n a = some a := if_pos h

/-! ### operators -/
/-- bits of a number -/
def bits (i : Int) : Nat := i.natAbs.log2
def opAdd : D → D → Option D
  | .int i, .int j => some (.int (i + j))
  | .str a, .str b => guardL (a.length + b.length) (.str (a ++ b))
  | .int i, .bl k => some (.int (i + if k then 1 else 0))
  | _, _ => none
def opSub : D → D → Option D
  | .int i, .int j => some (.int (i - j))
  | _, _ => none
/-- a product: one factor small, or both together below a million bits -/
def mulOk (i j : Int) : Bool := decide (i.natAbs < 2 ^ 64) || decide (j.natAbs < 2 ^ 64) || decide (bits i + bits j < 1000000)
def opMul : D → D → Option D
  | .int i, .int j => if mulOk i j then some (.int (i * j)) else none
  | .str xs, .int k => if k ≤ (LIM : Int) ∧ -(LIM : Int) ≤ k ∧ xs.length * k.toNat ≤ LIM then some (.str (List.replicate k.toNat xs).flatten) else none
  | _, _ => none
def opDiv : D → D → Option D
  | .int i, .int j => if j ≠ 0 ∧ (j.natAbs < 1073741824 ∨ (0 < j ∧ bits j < 9000)) then some (.int (i.fdiv j)) else none
  | _, _ => none
def opMod : D → D → Option D
  | .int i, .int j => if j ≠ 0 then some (.int (i.fmod j)) else none
  | _, _ => none
def opPow : D → D → Option D
  | .int i, .int j => if 0 ≤ j ∧ j ≤ 1000000 ∧ i.natAbs < 2 ^ 64 then some (.int (i ^ j.toNat)) else none
  | _, _ => none
def opBor : D → D → Option D
  | .int (.ofNat i), .int (.ofNat j) => some (.int (.ofNat (i ||| j)))
  | _, _ => none
/-- lists, tuples one behind the other -/
def opCat : D → D → Option D
  | .lst a, .lst b => guardL (a.length + b.length) (.lst (a ++ b))
  | _, _ => none
/-- .. of any kind, the answer shared -/
def opCatT : D → D → Option D
  | .lst a, .lst b => guardL (a.length + b.length) (.lst (a ++ b))
  | .tup a, .tup b => guardL (a.length + b.length) (.tup (a ++ b))
  | _, _ => none
def opRep : D → D → Option D
  | .lst xs, .int k => if k ≤ (LIM : Int) ∧ -(LIM : Int) ≤ k ∧ xs.length * k.toNat ≤ LIM then some (.lst (List.replicate k.toNat xs).flatten) else none
  | _, _ => none
def op2 : O2 → D → D → Option D
  | .add => opAdd
  | .sub => opSub
  | .mul => opMul
  | .fdiv => opDiv
  | .mod => opMod
  | .pow => opPow
  | .bor => opBor
/-- x op= y at a local -/
def op2i : O2 → D → D → Option D
  | .add, .int i, .int j => some (.int (i + j))
  | .add, .str a, .str b => guardL (a.length + b.length) (.str (a ++ b))
  | .sub, .int i, .int j => some (.int (i - j))
  | _, _, _ => none
def opIn (x : D) : D → Option Bool
  | .str t => match x with
    | .str [c] => some (t.contains c)
    | _ => none
  | .lst ys => if flat x && ys.all flat then some (ys.any fun y => eqD y x) else none
  | .tup ys => if flat x && ys.all flat then some (ys.any fun y => eqD y x) else none
  | _ => none
def isD : D → D → Option Bool
  | .non, .non => some true
  | .bl a, .bl b => some (a == b)
  | _, .non => some false
  | x, .bl _ => if flat x || (match x with | .tup _ => true | .lst _ => true | _ => false) then some false else none
  | _, _ => none
def lexI : List Int → List Int → Bool
  | [], [] => false
  | [], _ :: _ => true
  | _ :: _, [] => false
  | x :: xs, y :: ys => if x = y then lexI xs ys else decide (x < y)
def cmpI (p : Int → Int → Bool) : D → D → Option Bool
  | .int i, .int j => some (p i j)
  | _, _ => none
def cp : Cp → D → D → Option Bool
  | .eq, x, y => if scalD x y || (isData x && isData y) then some (eqD x y) else none
  | .ne, x, y => if scalD x y || (isData x && isData y) then some (!eqD x y) else none
  | .lt, x, y => cmpI (fun i j => decide (i < j)) x y
  | .le, x, y => cmpI (fun i j => decide (i ≤ j)) x y
  | .gt, x, y => cmpI (fun i j => decide (j < i)) x y
  | .ge, x, y => cmpI (fun i j => decide (j ≤ i)) x y
  | .is, x, y => isD x y
  | .isn, x, y => (isD x y).map (!·)
  | .isin, x, y => opIn x y
  | .nin, x, y => (opIn x y).map (!·)
/-- the place that an index of any sign means -/
def ixn (n : Nat) (i : Int) : Option Nat := if 0 ≤ i then (if i < n then some i.toNat else none) else if -(n : Int) ≤ i then some (i + n).toNat else none
def getI {α : Type} (xs : List α) (i : Int) : Option α := (ixn xs.length i).bind fun j => xs[j]?
def opIx : D → D → Option D
  | .lst xs, .int i => getI xs i
  | .tup xs, .int i => getI xs i
  | .str s, .int i => if s.length ≤ LIM then (getI s i).map fun c => .str [c] else none
  | _, _ => none
/-- a slice's bound -/
def sIx (n d : Nat) : Option Int → Nat
  | none => d
  | some v => if v < 0 then (v + (n : Int)).toNat else min v.toNat n
def cut {α : Type} (xs : List α) (lo hi : Option Int) : List α := (xs.drop (sIx xs.length 0 lo)).take (sIx xs.length xs.length hi - sIx xs.length 0 lo)
def opSl (lo hi : Option Int) : D → Option D
  | .lst xs => some (.lst (cut xs lo hi))
  | .str xs => if xs.length ≤ LIM then some (.str (cut xs lo hi)) else none
  | _ => none
/-- .. of any kind, the answer shared -/
def opSlT (lo hi : Option Int) : D → Option D
  | .lst xs => some (.lst (cut xs lo hi))
  | .tup xs => some (.tup (cut xs lo hi))
  | .str xs => if xs.length ≤ LIM then some (.str (cut xs lo hi)) else none
  | _ => none
def opRev : D → Option D
  | .lst xs => some (.lst xs.reverse)
  | _ => none

/-! ### built-ins -/
def ints? : List D → Option (List Int)
  | [] => some []
  | .int i :: r => (ints? r).map (i :: ·)
  | _ => none
def bls? : List D → Option (List Bool)
  | [] => some []
  | .bl b :: r => (bls? r).map (b :: ·)
  | _ => none
def strs? : List D → Option (List Txt)
  | [] => some []
  | .str b :: r => (strs? r).map (b :: ·)
  | _ => none
/-- sorting by insertion -/
def insI (x : Int) : List Int → List Int
  | [] => [x]
  | y :: r => if x ≤ y then x :: y :: r else y :: insI x r
def sortI : List Int → List Int
  | [] => []
  | x :: r => insI x (sortI r)
def maxL : List Int → Option Int
  | [] => none
  | x :: r => some (r.foldl (fun m y => if m < y then y else m) x)
def minL : List Int → Option Int
  | [] => none
  | x :: r => some (r.foldl (fun m y => if y < m then y else m) x)
/-- unlike items, each once -/
def uniq : List D → List D
  | [] => []
  | x :: r => if r.any (fun y => eqD y x) then uniq r else x :: uniq r
/-- the written form of a number -/
def digs (n : Nat) : Txt := (Nat.toDigits 10 n).map Char.toNat
def itxt (i : Int) : Txt := if i < 0 then 45 :: digs i.natAbs else digs i.natAbs
/-- the numbers, each once -/
def distI (l : List Int) : List Int := l.foldl (fun s v => if s.any (· == v) then s else s ++ [v]) []
def enumD (k : Nat) : List D → List D
  | [] => []
  | x :: r => .tup [.int k, x] :: enumD (k + 1) r
def zipD : List D → List D → List D
  | x :: xs, y :: ys => .tup [x, y] :: zipD xs ys
  | _, _ => []
def rangeD (lo : Int) (n : Nat) : List D := (List.range n).map fun (k : Nat) => .int (lo + (k : Int))
/-- range(n), range(m, n) -/
def rgD (x : D) : Option D := match x with
  | .int n => if n ≤ (LIM : Int) ∧ -(LIM : Int) ≤ n then some (.itr (rangeD 0 n.toNat)) else none
  | _ => none
def rg2D (x y : D) : Option D := match x, y with
  | .int m, .int n => if (n ≤ (LIM : Int) ∧ -(LIM : Int) ≤ n) ∧ m ≤ (LIM : Int) ∧ -(LIM : Int) ≤ m then some (.itr (rangeD m (n - m).toNat)) else none
  | _, _ => none
/-- what a loop walks -/
def items : D → Option (List D)
  | .lst xs => some xs
  | .tup xs => some xs
  | .str s => if s.length ≤ LIM then some (s.map fun c => .str [c]) else none
  | .itr xs => some xs
  | _ => none
def b1 : B1 → List D → Option D
  | .len, [.lst xs] => some (.int xs.length)
  | .len, [.tup xs] => some (.int xs.length)
  | .len, [.str s] => if s.length ≤ LIM then some (.int s.length) else none
  | .len, [.set xs] => some (.int (uniq xs).length)
  | .abs, [.int i] => some (.int (if i < 0 then -i else i))
  | .int, [.int i] => some (.int i)
  | .int, [.bl b] => some (.int (if b then 1 else 0))
  | .str, [.int i] => if bits i < 1900 then some (.str (itxt i)) else none
  | .list, [.lst xs] => some (.lst xs)
  | .list, [.tup xs] => some (.lst xs)
  | .tuple, [.lst xs] => some (.tup xs)
  | .tuple, [.tup xs] => some (.tup xs)
  | .sum, [.lst xs] => (ints? xs).map fun l => .int l.sum
  | .all, [.lst xs] => (bls? xs).map fun l => .bl (l.all id)
  | .any, [.lst xs] => (bls? xs).map fun l => .bl (l.any id)
  | .max, [.lst xs] => ((ints? xs).bind maxL).map .int
  | .min, [.lst xs] => ((ints? xs).bind minL).map .int
  | .max, [.int i, .int j] => some (.int (if j > i then j else i))
  | .min, [.int i, .int j] => some (.int (if j < i then j else i))
  | .sorted, [.lst xs] => (ints? xs).map fun l => .lst ((sortI l).map .int)
  | .set, [.lst xs] => (ints? xs).bind fun l => if l.length ≤ 4000 then some (.int (distI l).length) else none
  | .gcd, [.int i, .int j] => some (.int (Int.gcd i j))
  | .isInt, [x] => (match x with | .int _ => some true | .bl _ => some true | .ob _ => none | .exc .. => none | .set _ => none | .itr _ => none | .dct .. => none | _ => some false).map .bl
  | .isBool, [x] => (match x with | .bl _ => some true | .ob _ => none | .exc .. => none | .set _ => none | .itr _ => none | .dct .. => none | _ => some false).map .bl
  | .isStr, [x] => (match x with | .str _ => some true | .ob _ => none | .exc .. => none | .set _ => none | .itr _ => none | .dct .. => none | _ => some false).map .bl
  | .isList, [x] => (match x with | .lst _ => some true | .ob _ => none | .exc .. => none | .set _ => none | .itr _ => none | .dct .. => none | _ => some false).map .bl
  | .isTuple, [x] => (match x with | .tup _ => some true | .ob _ => none | .exc .. => none | .set _ => none | .itr _ => none | .dct .. => none | _ => some false).map .bl
  | _, _ => none
/-- texts joined by a text -/
def joinT (sep : Txt) : List Txt → Txt
  | [] => []
  | [x] => x
  | x :: r => x ++ sep ++ joinT sep r
def splitT (c : Nat) : Txt → List Txt
  | [] => [[]]
  | x :: r => if x = c then [] :: splitT c r else match splitT c r with
    | [] => [[x]]
    | w :: ws => (x :: w) :: ws
def idxD (x : D) (k : Nat) : List D → Option Nat
  | [] => none
  | y :: r => if eqD y x then some k else idxD x (k + 1) r
def m1 : M1 → D → List D → Option D
  | .join, .str s, [.lst xs] => if s.length ≤ LIM then (strs? xs).bind fun l => guardL (joinT s l).length (.str (joinT s l)) else none
  | .count, .str s, [.str [c]] => if s.length ≤ LIM then some (.int (s.count c)) else none
  | .index, .lst xs, [x] => if flat x && xs.all flat then (idxD x 0 xs).map fun (k : Nat) => .int (k : Int) else none
  | .split, .str s, [.str [c]] => guardL s.length (.lst ((splitT c s).map .str))
  | _, _, _ => none

/-- what has such a method -/
def mtOk : M1 → D → Bool
  | .index, .lst _ => true
  | .join, .str _ => true
  | .count, .str _ => true
  | .split, .str _ => true
  | .startswith, .str _ => true
  | .find, .str _ => true
  | _, _ => false

/-- what a message can show -/
def msgOk (m : Bool) (xs : List D) : Bool := match m, xs with
  | false, [_] => true
  | true, [.int i] => decide (i.natAbs.log2 < 1900)
  | _, _ => false
/-! ### places within a value -/
/-- the value at a path, changed by f -/
def updAt (f : D → Option D) : List D → D → Option D
  | [], d => f d
  | .int i :: p, .lst xs => (ixn xs.length i).bind fun j => (xs[j]?).bind fun x => (updAt f p x).map fun y => .lst (xs.set j y)
  | .int i :: p, .tup xs => (ixn xs.length i).bind fun j => (xs[j]?).bind fun x => (updAt f p x).map fun y => .tup (xs.set j y)
  | _, _ => none
def getP : List D → D → Option D
  | [], d => some d
  | .int i :: p, .lst xs => (ixn xs.length i).bind fun j => (xs[j]?).bind fun x => getP p x
  | .int i :: p, .tup xs => (ixn xs.length i).bind fun j => (xs[j]?).bind fun x => getP p x
  | _, _ => none
def setIx (i v : D) : D → Option D
  | .lst xs => match i with
    | .int k => (ixn xs.length k).map fun j => .lst (xs.set j v)
    | _ => none
  | _ => none
def appD (v : D) : D → Option D
  | .lst xs => if xs.length < LIM then some (.lst (xs ++ [v])) else none
  | _ => none
def extD (v : D) : D → Option D
  | .lst xs => match v with
    | .lst ys => guardL (xs.length + ys.length) (.lst (xs ++ ys))
    | _ => none
  | _ => none

/-! ### the evaluator -/
def Env.get (e : Env) (i : Nat) : Option D := e.s[i]?
def Env.set (e : Env) (i : Nat) (d : D) : Env := { e with s := e.s.set i d }
def setAll : List Nat → List D → Env → Env
  | i :: is, x :: xs, e => setAll is xs (e.set i x)
  | _, _, e => e
def asgT : T → D → Env → Option Env
  | .n i, d, e => some (e.set i d)
  | .tp is, d, e => match d with
    | .tup xs => if xs.length = is.length then some (setAll is xs e) else none
    | _ => none
/-- the slots of a target -/
def T.is : T → List Nat
  | .n i => [i]
  | .tp is => is
def compL (f : D → Env → R (List D)) : List D → Env → R (List D)
  | [], e => .ok [] e
  | x :: xs, e => (f x e).bind fun ys e1 => (compL f xs e1).bind fun zs e2 => .ok (ys ++ zs) e2
/-- the changed arguments are put back -/
def putBack : List C → List D → Env → Env
  | .io i :: as, d :: ds, e => putBack as ds (e.set i d)
  | .io _ :: _, [], e => e
  | _ :: as, ds, e => putBack as ds e
  | [], _, e => e
abbrev Oracle := Nat → List D → List Ob → CR
def callR (k : Oracle) (f : Nat) (as : List C) (xs : List D) (e : Env) : R D := match k f xs e.o with
  | .ok r outs o => .ok r (putBack as outs { e with o := o })
  | .exc x o => .exc x { e with o := o }
  | .bad => .bad
/-- the slots of a clause's names get their old values back -/
def restore : List Nat → Env → Env → Env
  | [], _, e => e
  | i :: is, e0, e => restore is e0 (e.set i ((e0.s[i]?).getD .non))
/-- one turn of a clause -/
def turnD (t : T) (f : Env → R (List D)) (y : D) (e : Env) : R (List D) := match asgT t y e with
  | none => .bad
  | some e1 => (f e1).bind fun zs e2 => .ok zs (restore t.is e e2)
def optI : D → Option (Option Int)
  | .int i => some (some i)
  | _ => none
section
variable (G : List D) (k : Oracle)
mutual
def ev : C → Env → R D
  | .non, e => .ok .non e
  | .bl b, e => .ok (.bl b) e
  | .int i, e => .ok (.int i) e
  | .str s, e => .ok (.str s) e
  | .v i, e => R.lift (e.get i) e
  | .mv i, e => R.lift (e.get i) e
  | .pk i, e => R.lift (e.get i) e
  | .io i, e => R.lift (e.get i) e
  | .bo i, e => R.lift (e.get i) e
  | .gl g, e => R.lift (G[g]?) e
  | .op o a b, e => (ev a e).bind fun x e1 => (ev b e1).bind fun y e2 => R.lift (op2 o x y) e2
  | .cat a b, e => (ev a e).bind fun x e1 => (ev b e1).bind fun y e2 => R.lift (opCat x y) e2
  | .catT a b, e => (ev a e).bind fun x e1 => (ev b e1).bind fun y e2 => R.lift (opCatT x y) e2
  | .rep a b, e => (ev a e).bind fun x e1 => (ev b e1).bind fun y e2 => R.lift (opRep x y) e2
  | .neg a, e => (ev a e).bind fun x e1 => match x with
    | .int i => .ok (.int (-i)) e1
    | _ => .bad
  | .nt a, e => (ev a e).bind fun x e1 => R.lift ((truth x).map fun b => .bl (!b)) e1
  | .and a b, e => (ev a e).bind fun x e1 => match truth x with
    | some true => ev b e1
    | some false => .ok x e1
    | none => .bad
  | .or a b, e => (ev a e).bind fun x e1 => match truth x with
    | some true => .ok x e1
    | some false => ev b e1
    | none => .bad
  | .cmp o a b, e => (ev a e).bind fun x e1 => (ev b e1).bind fun y e2 => R.lift ((cp o x y).map .bl) e2
  | .cmp2 o o' a b c, e => (ev a e).bind fun x e1 => (ev b e1).bind fun y e2 => match cp o x y with
    | some true => (ev c e2).bind fun z e3 => R.lift ((cp o' y z).map .bl) e3
    | some false => .ok (.bl false) e2
    | none => .bad
  | .ife c a b, e => (ev c e).bind fun x e1 => match truth x with
    | some true => ev a e1
    | some false => ev b e1
    | none => .bad
  | .call f as, e => (evL as e).bind fun xs e1 => callR k f as xs e1
  | .bi f as, e => (evL as e).bind fun xs e1 => R.lift (b1 f xs) e1
  | .mt m o as, e => (ev o e).bind fun x e1 => if mtOk m x = true then (evL as e1).bind fun xs e2 => R.lift (m1 m x xs) e2 else .bad
  | .ix a i, e => (ev a e).bind fun x e1 => (ev i e1).bind fun y e2 => R.lift (opIx x y) e2
  | .ixv x i, e => (R.lift (e.get x) e).bind fun x e1 => (ev i e1).bind fun y e2 => R.lift (opIx x y) e2
  | .sl a lo hi, e => (ev a e).bind fun x e1 => (evO lo e1).bind fun l e2 => (evO hi e2).bind fun h e3 => R.lift (opSl l h x) e3
  | .slT a lo hi, e => (ev a e).bind fun x e1 => (evO lo e1).bind fun l e2 => (evO hi e2).bind fun h e3 => R.lift (opSlT l h x) e3
  | .rev a, e => (ev a e).bind fun x e1 => R.lift (opRev x) e1
  | .lst as, e => (evL as e).bind fun xs e1 => .ok (.lst xs) e1
  | .tup as, e => (evL as e).bind fun xs e1 => .ok (.tup xs) e1
  | .rg a, e => (ev a e).bind fun x e1 => R.lift (rgD x) e1
  | .rg2 a b, e => (ev a e).bind fun x e1 => (ev b e1).bind fun y e2 => R.lift (rg2D x y) e2
  | .en a, e => (ev a e).bind fun x e1 => R.lift ((items x).map fun xs => .itr (enumD 0 xs)) e1
  | .zp a b, e => (ev a e).bind fun x e1 => (ev b e1).bind fun y e2 => R.lift ((items x).bind fun xs => (items y).map fun ys => .itr (zipD xs ys)) e2
  | .lc e t it cs, env => (ev it env).bind fun x e1 => match items x with
    | none => .bad
    | some xs => (compL (turnD t fun e3 => (evT cs e3).bind fun b e4 => if b = true then (ev e e4).bind fun z e5 => .ok [z] e5 else .ok [] e4) xs e1).nox.bind fun zs e6 =>
      R.lift (guardL zs.length (.lst zs)) e6
  | .lc2 e t it cs t2 it2 cs2, env => (ev it env).bind fun x e1 => match items x with
    | none => .bad
    | some xs => (compL (turnD t fun e3 => (evT cs e3).bind fun b e4 => if b = true then (ev it2 e4).bind fun x2 e5 => match items x2 with
          | none => .bad
          | some xs2 => compL (turnD t2 fun e7 => (evT cs2 e7).bind fun b2 e8 => if b2 = true then (ev e e8).bind fun z e9 => .ok [z] e9 else .ok [] e8) xs2 e5
          else .ok [] e4) xs e1).nox.bind fun zs e6 => R.lift (guardL zs.length (.lst zs)) e6
  | .fst as, e => (evL as e).bind fun xs e1 => R.lift ((strs? xs).bind fun l => guardL l.flatten.length (.str l.flatten)) e1
  | .fl a, e => (ev a e).bind fun x e1 => if flat x = true then .ok x e1 else .bad
  | .fx i f, e => match e.get i with
    | some (.exc _ xs) => (match xs[f]? with
      | some x => if flat x = true then .ok x e else .bad
      | none => .bad)
    | _ => .bad
  | .pop i, e => match e.get i with
    | some (.lst xs) => (match xs.getLast? with
      | some x => if flat x = true then .ok x (e.set i (.lst xs.dropLast)) else .bad
      | none => .bad)
    | _ => .bad
def evL : List C → Env → R (List D)
  | [], e => .ok [] e
  | a :: as, e => (ev a e).bind fun x e1 => (evL as e1).bind fun xs e2 => .ok (x :: xs) e2
/-- all tests -/
def evT : List C → Env → R Bool
  | [], e => .ok true e
  | a :: as, e => (ev a e).bind fun x e1 => match truth x with
    | some true => evT as e1
    | some false => .ok false e1
    | none => .bad
def evO : Option C → Env → R (Option Int)
  | none, e => .ok none e
  | some a, e => (ev a e).bind fun x e1 => R.lift (optI x) e1
end
/-- a place: a local and the places within it -/
def evP : C → Env → R (Nat × List D)
  | .pk x, e => .ok (x, []) e
  | .ix p i, e => (evP p e).bind fun ps e1 => (ev G k i e1).nox.bind fun j e2 => .ok (ps.1, ps.2 ++ [j]) { e2 with s := e1.s }
  | _, _ => .bad
/-- the list that a for walks is walked item by item -/
def forL (t : T) (b : Env → RS) : List D → Env → RS
  | [], e => .nx e
  | x :: xs, e => match asgT t x e with
    | none => .bad
    | some e1 => match b e1 with
      | .nx e2 => forL t b xs e2
      | .ct e2 => forL t b xs e2
      | .bk e2 => .nx e2
      | r => r
def BIG : Nat := 10 ^ 60
def whL (c : Env → R D) (b : Env → RS) : Nat → Env → RS
  | 0, _ => .bad
  | n + 1, e => (c e).st fun x e1 => match truth x with
    | some false => .nx e1
    | none => .bad
    | some true => match b e1 with
      | .nx e2 => whL c b n e2
      | .ct e2 => whL c b n e2
      | .bk e2 => .nx e2
      | r => r
/-- a change at a place of a local -/
def chg (x : Nat) (p : List D) (f : D → Option D) (e : Env) : RS := match (e.get x).bind (updAt f p) with
  | some d => .nx (e.set x d)
  | none => .bad
variable (sub : Nat → Nat → Bool)
mutual
def ex : S → Env → RS
  | .pass, e => .nx e
  | .brk, e => .bk e
  | .ct, e => .ct e
  | .asg t a, e => (ev G k a e).st fun x e1 => match asgT t x e1 with
    | some e2 => .nx e2
    | none => .bad
  | .par i j a b, e => (ev G k a e).st fun x e1 => (ev G k b e1).st fun y e2 => .nx ((e2.set i x).set j y)
  | .aug i o a, e => match e.get i with
    | none => .bad
    | some x => (ev G k a e).st fun y e1 => match op2i o x y with
      | some z => .nx (e1.set i z)
      | none => .bad
  | .six p i a, e => (ev G k a e).st fun v e1 => (evP G k p e1).st fun ps e2 => match (e2.get ps.1).bind (getP ps.2) with
    | some (.lst _) => (ev G k i e2).st fun i e3 => chg ps.1 ps.2 (setIx i v) e3
    | _ => .bad
  | .aix p i o a, e => (evP G k p e).st fun ps e1 => match (e1.get ps.1).bind (getP ps.2) with
    | some (.lst xs) => (ev G k i e1).st fun i e2 => match opIx (.lst xs) i with
      | none => .bad
      | some old => (ev G k a e2).st fun y e3 => match op2i o old y with
        | some z => chg ps.1 ps.2 (setIx i z) e3
        | none => .bad
    | _ => .bad
  | .app p a, e => (evP G k p e).st fun ps e1 => match (e1.get ps.1).bind (getP ps.2) with
    | some (.lst _) => (ev G k a e1).st fun v e2 => chg ps.1 ps.2 (appD v) e2
    | _ => .bad
  | .ext p a, e => (evP G k p e).st fun ps e1 => match (e1.get ps.1).bind (getP ps.2) with
    | some (.lst _) => (ev G k a e1).st fun v e2 => chg ps.1 ps.2 (extD v) e2
    | _ => .bad
  | .ex a, e => (ev G k a e).st fun _ e1 => .nx e1
  | .ite c a b, e => (ev G k c e).st fun x e1 => match truth x with
    | some true => exs a e1
    | some false => exs b e1
    | none => .bad
  | .fr t it b, e => (ev G k it e).st fun x e1 => match items x with
    | none => .bad
    | some xs => forL t (exs b) xs e1
  | .wl c b, e => whL (ev G k c) (exs b) BIG e
  | .ret a, e => (ev G k a e).st fun x e1 => .rt x e1
  | .retN, e => .rt .non e
  | .rs c m as, e => (evL G k as e).st fun xs e1 => if msgOk m xs = true then .exc (.exc c xs) e1 else .bad
  | .tr b h, e => match exs b e with
    | .exc x e1 => hnd h x e1
    | r => r
  | .hc .., _ => .bad
def exs : List S → Env → RS
  | [], e => .nx e
  | a :: as, e => (ex a e).seq (exs as)
def hnd : S → D → Env → RS
  | .hc c i b nx, x, e => match x with
    | .exc c' _ => if sub c' c = true then exs b (e.set i x) else hnd nx x e
    | _ => .bad
  | _, x, e => .exc x e
end
end

/-! ### defs -/
structure Fn where
  np : Nat
  ns : Nat
  /-- the parameters that may be changed, their levels -/
  io : List Nat
  il : List Nat
  /-- the level of what is handed back -/
  rl : Nat
  body : List S
structure Prog where
  fns : List Fn
  gl : List D
  sub : Nat → Nat → Bool
def outsOf (e : Env) : List Nat → List D
  | [] => []
  | i :: is => (e.s[i]?.getD .non) :: outsOf e is
def ends (fn : Fn) : RS → CR
  | .rt d e => .ok d (outsOf e fn.io) e.o
  | .nx e => .ok .non (outsOf e fn.io) e.o
  | .exc x e => .exc x e.o
  | _ => .bad
def callFn (P : Prog) (k : Oracle) (fn : Fn) (args : List D) (o : List Ob) : CR :=
  if args.length = fn.np then ends fn (exs P.gl k P.sub fn.body ⟨args ++ List.replicate (fn.ns - fn.np) .non, o⟩) else .bad
def run (P : Prog) : Nat → Nat → List D → List Ob → CR
  | 0, _, _, _ => .bad
  | n + 1, f, args, o => match P.fns[f]? with
    | none => .bad
    | some fn => callFn P (run P n) fn args o
theorem run_eq {P : Prog} {n f : Nat} {fn : Fn} {args : List D} {o : List Ob} (h : P.fns[f]? = some fn) : run P (n + 1) f args o = callFn P (run P n) fn args o := by
  show (match P.fns[f]? with
    | none => CR.bad
    | some fn => callFn P (run P n) fn args o) = _
  rw [h]
end Z

/-! Z2: what stands in the abstract heap for a value: shared (in the part F that nobody changes) or one's own. -/
namespace Z
open PySem L2
abbrev AS := Addr → Prop
def emp : AS := fun _ => False
def txt (s : Txt) : Str := ⟨s.toArray⟩
def Sub (F H : Hp) : Prop := ∀ a o, F a = some o → H a = some o
theorem Sub.refl (F : Hp) : Sub F F := fun _ _ h => h
theorem Sub.trans {F G H : Hp} (a : Sub F G) (b : Sub G H) : Sub F H := fun _ _ h => b _ _ (a _ _ h)
def Dis (f g : AS) : Prop := ∀ a, f a → g a → False

mutual
def RF (K : PySem.W.Frag) (F : Hp) : D → V → Prop
  | .non, v => v = .non
  | .bl b, v => v = .bl b
  | .int i, v => v = .int i
  | .str s, v => v = .str (txt s)
  | .lst xs, v => ∃ a vs, v = .ref a ∧ Rd F a (.lst vs) ∧ RFL K F xs vs
  | .tup xs, v => ∃ a vs, v = .ref a ∧ SqT K F a vs ∧ RFL K F xs vs
  | _, _ => False
def RFL (K : PySem.W.Frag) (F : Hp) : List D → List V → Prop
  | [], vs => vs = []
  | x :: xs, vs => ∃ w ws, vs = w :: ws ∧ RF K F x w ∧ RFL K F xs ws
end
mutual
/-- level 1: shared; above: the object at its place is one's own -/
def RO (K : PySem.W.Frag) (F H : Hp) : D → Nat → V → AS → Prop
  | .lst xs, n, v, f => if n ≤ 1 then RF K F (.lst xs) v ∧ f = emp else
      ∃ a vs g, v = .ref a ∧ H a = some (.lst vs) ∧ F a = none ∧ ¬ g a ∧ ROL K F H xs (dn n) vs g ∧ f = fun b => b = a ∨ g b
  | .tup xs, n, v, f => if n ≤ 1 then RF K F (.tup xs) v ∧ f = emp else
      ∃ a vs g, v = .ref a ∧ H a = some (.tup vs) ∧ F a = none ∧ ¬ g a ∧ ROL K F H xs (dn n) vs g ∧ f = fun b => b = a ∨ g b
  | .non, _, v, f => v = .non ∧ f = emp
  | .bl b, _, v, f => v = .bl b ∧ f = emp
  | .int i, _, v, f => v = .int i ∧ f = emp
  | .str s, _, v, f => v = .str (txt s) ∧ f = emp
  | _, _, _, _ => False
def ROL (K : PySem.W.Frag) (F H : Hp) : List D → Nat → List V → AS → Prop
  | [], _, vs, f => vs = [] ∧ f = emp
  | x :: xs, n, vs, f => ∃ w ws g1 g2, vs = w :: ws ∧ RO K F H x n w g1 ∧ ROL K F H xs n ws g2 ∧ Dis g1 g2 ∧ f = fun b => g1 b ∨ g2 b
end
section
variable {K : PySem.W.Frag} {F F' H H' : Hp}
theorem SqL.sub {a : Addr} {xs : List V} (s : Sub F F') (h : SqL K F a xs) : SqL K F' a xs := by
  rcases h with (h | ⟨o, h⟩) | h
  · exact .inl (.inl (s _ _ h))
  · exact .inl (.inr ⟨o, s _ _ h⟩)
  · exact .inr h
theorem SqT.sub {a : Addr} {xs : List V} (s : Sub F F') (h : SqT K F a xs) : SqT K F' a xs := by
  rcases h with (h | ⟨o, h⟩) | h
  · exact .inl (.inl (s _ _ h))
  · exact .inl (.inr ⟨o, s _ _ h⟩)
  · exact .inr h
theorem Rd.sub {a : Addr} {u : HO} (s : Sub F F') (h : Rd F a u) : Rd F' a u := by
  rcases h with h | ⟨o, h⟩
  · exact .inl (s _ _ h)
  · exact .inr ⟨o, s _ _ h⟩
mutual
theorem RF.sub (s : Sub F F') : ∀ (d : D) (v : V), RF K F d v → RF K F' d v
  | .non, _, h => h
  | .bl _, _, h => h
  | .int _, _, h => h
  | .str _, _, h => h
  | .lst xs, v, h => by
    simp only [RF] at h ⊢
    obtain ⟨a, vs, e, q, r⟩ := h
    exact ⟨a, vs, e, Rd.sub s q, RFL.sub s xs vs r⟩
  | .tup xs, v, h => by
    simp only [RF] at h ⊢
    obtain ⟨a, vs, e, q, r⟩ := h
    exact ⟨a, vs, e, SqT.sub s q, RFL.sub s xs vs r⟩
  | .set _, _, h => h
  | .itr _, _, h => h
  | .dct _ _, _, h => h
  | .ob _, _, h => h
  | .exc _ _, _, h => h
theorem RFL.sub (s : Sub F F') : ∀ (xs : List D) (vs : List V), RFL K F xs vs → RFL K F' xs vs
  | [], _, h => h
  | x :: xs, vs, h => by
    simp only [RFL] at h ⊢
    obtain ⟨w, ws, e, q, r⟩ := h
    exact ⟨w, ws, e, RF.sub s x w q, RFL.sub s xs ws r⟩
end
mutual
/-- what is one's own reads in the heap -/
theorem RO.rf (s : Sub F H) : ∀ (d : D) (n : Nat) (v : V) (f : AS), RO K F H d n v f → RF K H d v
  | .non, _, _, _, h => by simp only [RO] at h; simp only [RF]; exact h.1
  | .bl _, _, _, _, h => by simp only [RO] at h; simp only [RF]; exact h.1
  | .int _, _, _, _, h => by simp only [RO] at h; simp only [RF]; exact h.1
  | .str _, _, _, _, h => by simp only [RO] at h; simp only [RF]; exact h.1
  | .lst xs, n, v, f, h => by
    unfold RO at h
    split at h
    · exact RF.sub s _ _ h.1
    · obtain ⟨a, vs, g, e, q, _, _, r, _⟩ := h
      simp only [RF]
      exact ⟨a, vs, e, .inl q, ROL.rf s xs _ vs g r⟩
  | .tup xs, n, v, f, h => by
    unfold RO at h
    split at h
    · exact RF.sub s _ _ h.1
    · obtain ⟨a, vs, g, e, q, _, _, r, _⟩ := h
      simp only [RF]
      exact ⟨a, vs, e, .inl (.inl q), ROL.rf s xs _ vs g r⟩
  | .set _, _, _, _, h => by simp only [RO] at h
  | .itr _, _, _, _, h => by simp only [RO] at h
  | .dct _ _, _, _, _, h => by simp only [RO] at h
  | .ob _, _, _, _, h => by simp only [RO] at h
  | .exc _ _, _, _, _, h => by simp only [RO] at h
theorem ROL.rf (s : Sub F H) : ∀ (xs : List D) (n : Nat) (vs : List V) (f : AS), ROL K F H xs n vs f → RFL K H xs vs
  | [], _, _, _, h => by simp only [ROL] at h; simp only [RFL]; exact h.1
  | x :: xs, n, vs, f, h => by
    simp only [ROL] at h
    obtain ⟨w, ws, g1, g2, e, q, r, _, _⟩ := h
    simp only [RFL]
    exact ⟨w, ws, e, RO.rf s x n w g1 q, ROL.rf s xs n ws g2 r⟩
end
/-- the cells are kept, and stay out of what is shared -/
structure Kept (f : AS) (F H F' H' : Hp) : Prop where
  sub : Sub F F'
  at_ : ∀ a, f a → H' a = H a
  out : ∀ a, f a → F a = none → F' a = none
theorem Kept.mono {f g : AS} (k : Kept f F H F' H') (s : ∀ a, g a → f a) : Kept g F H F' H' :=
  ⟨k.sub, fun a h => k.at_ a (s a h), fun a h => k.out a (s a h)⟩
mutual
theorem RO.kept : ∀ (d : D) (n : Nat) (v : V) (f : AS), Kept f F H F' H' → RO K F H d n v f → RO K F' H' d n v f
  | .non, _, _, _, _, h => h
  | .bl _, _, _, _, _, h => h
  | .int _, _, _, _, _, h => h
  | .str _, _, _, _, _, h => h
  | .lst xs, n, v, f, k, h => by
    unfold RO at h ⊢
    split at h <;> rename_i hn
    · rw [if_pos hn]
      exact ⟨RF.sub k.sub _ _ h.1, h.2⟩
    · rw [if_neg hn]
      obtain ⟨a, vs, g, e, q, z, na, r, rfl⟩ := h
      refine ⟨a, vs, g, e, ?_, k.out a (.inl rfl) z, na, ROL.kept xs _ vs g (k.mono fun b hb => .inr hb) r, rfl⟩
      rw [k.at_ a (.inl rfl), q]
  | .tup xs, n, v, f, k, h => by
    unfold RO at h ⊢
    split at h <;> rename_i hn
    · rw [if_pos hn]
      exact ⟨RF.sub k.sub _ _ h.1, h.2⟩
    · rw [if_neg hn]
      obtain ⟨a, vs, g, e, q, z, na, r, rfl⟩ := h
      refine ⟨a, vs, g, e, ?_, k.out a (.inl rfl) z, na, ROL.kept xs _ vs g (k.mono fun b hb => .inr hb) r, rfl⟩
      rw [k.at_ a (.inl rfl), q]
  | .set _, _, _, _, _, h => h
  | .itr _, _, _, _, _, h => h
  | .dct _ _, _, _, _, _, h => h
  | .ob _, _, _, _, _, h => h
  | .exc _ _, _, _, _, _, h => h
theorem ROL.kept : ∀ (xs : List D) (n : Nat) (vs : List V) (f : AS), Kept f F H F' H' → ROL K F H xs n vs f → ROL K F' H' xs n vs f
  | [], _, _, _, _, h => h
  | x :: xs, n, vs, f, k, h => by
    simp only [ROL] at h ⊢
    obtain ⟨w, ws, g1, g2, e, q, r, d, rfl⟩ := h
    exact ⟨w, ws, g1, g2, e, RO.kept x n w g1 (k.mono fun b hb => .inl hb) q, ROL.kept xs n ws g2 (k.mono fun b hb => .inr hb) r, d, rfl⟩
end
mutual
/-- own cells stand in the heap, outside of what is shared -/
theorem RO.cells : ∀ (d : D) (n : Nat) (v : V) (f : AS), RO K F H d n v f → ∀ a, f a → F a = none ∧ H a ≠ none
  | .non, _, _, _, h => by simp only [RO] at h; rw [h.2]; exact fun _ z => z.elim
  | .bl _, _, _, _, h => by simp only [RO] at h; rw [h.2]; exact fun _ z => z.elim
  | .int _, _, _, _, h => by simp only [RO] at h; rw [h.2]; exact fun _ z => z.elim
  | .str _, _, _, _, h => by simp only [RO] at h; rw [h.2]; exact fun _ z => z.elim
  | .lst xs, n, v, f, h => by
    unfold RO at h
    split at h
    · rw [h.2]; exact fun _ z => z.elim
    · obtain ⟨a, vs, g, e, q, z, na, r, rfl⟩ := h
      rintro b (rfl | hb)
      · exact ⟨z, by rw [q]; simp⟩
      · exact ROL.cells xs _ vs g r b hb
  | .tup xs, n, v, f, h => by
    unfold RO at h
    split at h
    · rw [h.2]; exact fun _ z => z.elim
    · obtain ⟨a, vs, g, e, q, z, na, r, rfl⟩ := h
      rintro b (rfl | hb)
      · exact ⟨z, by rw [q]; simp⟩
      · exact ROL.cells xs _ vs g r b hb
  | .set _, _, _, _, h => by simp only [RO] at h
  | .itr _, _, _, _, h => by simp only [RO] at h
  | .dct _ _, _, _, _, h => by simp only [RO] at h
  | .ob _, _, _, _, h => by simp only [RO] at h
  | .exc _ _, _, _, _, h => by simp only [RO] at h
theorem ROL.cells : ∀ (xs : List D) (n : Nat) (vs : List V) (f : AS), ROL K F H xs n vs f → ∀ a, f a → F a = none ∧ H a ≠ none
  | [], _, _, _, h => by simp only [ROL] at h; rw [h.2]; exact fun _ z => z.elim
  | x :: xs, n, vs, f, h => by
    simp only [ROL] at h
    obtain ⟨w, ws, g1, g2, e, q, r, d, rfl⟩ := h
    rintro b (hb | hb)
    · exact RO.cells x n w g1 q b hb
    · exact ROL.cells xs n ws g2 r b hb
end
/-- F with the cells g of H -/
noncomputable def frz (F H : Hp) (g : AS) : Hp := fun a => open Classical in if g a then H a else F a
theorem frz_in {g : AS} {a : Addr} (h : g a) : frz F H g a = H a := by unfold frz; rw [if_pos h]
theorem frz_out {g : AS} {a : Addr} (h : ¬ g a) : frz F H g a = F a := by unfold frz; rw [if_neg h]
theorem frz_sub {g : AS} (h : ∀ a, g a → F a = none) : Sub F (frz F H g) := fun a o e => by
  by_cases hg : g a
  · rw [h a hg] at e; cases e
  · rw [frz_out hg]; exact e
theorem frz_le {g : AS} (s : Sub F H) : Sub (frz F H g) H := fun a o e => by
  by_cases hg : g a
  · rw [frz_in hg] at e; exact e
  · rw [frz_out hg] at e; exact s _ _ e
theorem frz_emp : frz F H emp = F := by
  funext a
  exact frz_out fun z => z
theorem frz_frz {g g' : AS} : frz (frz F H g) H g' = frz F H (fun a => g a ∨ g' a) := by
  funext a
  by_cases h' : g' a
  · rw [frz_in h', frz_in (.inr h')]
  · rw [frz_out h']
    by_cases h : g a
    · rw [frz_in h, frz_in (.inl h)]
    · rw [frz_out h, frz_out (by simp [h, h'])]
theorem frz_kept {g f : AS} (h : ∀ a, g a → F a = none) (d : Dis f g) : Kept f F H (frz F H g) H :=
  ⟨frz_sub h, fun _ _ => rfl, fun a hf e => by rw [frz_out fun z => d a hf z]; exact e⟩
theorem dn_le_one {n : Nat} (h : n ≤ 1) : dn n = n := by unfold dn; rw [if_pos h]
theorem dn_mono {m n : Nat} (h : m ≤ n) : dn m ≤ dn n := by unfold dn; split <;> split <;> (try split) <;> (try split) <;> omega
theorem dn_pos {n : Nat} (h : 1 ≤ n) : 1 ≤ dn n := by unfold dn; split <;> (try split) <;> omega
theorem one_flat_lst {xs : List D} {n : Nat} {v : V} (hn : n ≤ 1) (h : RF K F (.lst xs) v) : RO K F H (.lst xs) n v emp := by
  unfold RO; rw [if_pos hn]; exact ⟨h, rfl⟩
theorem one_flat_tup {xs : List D} {n : Nat} {v : V} (hn : n ≤ 1) (h : RF K F (.tup xs) v) : RO K F H (.tup xs) n v emp := by
  unfold RO; rw [if_pos hn]; exact ⟨h, rfl⟩
/-- what is shared, at level 1 -/
theorem RO.of1 : ∀ {d : D} {v : V} {n : Nat}, n ≤ 1 → RF K F d v → RO K F H d n v emp
  | .non, _, _, _, h => by simp only [RF] at h; simp only [RO]; exact ⟨h, trivial⟩
  | .bl _, _, _, _, h => by simp only [RF] at h; simp only [RO]; exact ⟨h, trivial⟩
  | .int _, _, _, _, h => by simp only [RF] at h; simp only [RO]; exact ⟨h, trivial⟩
  | .str _, _, _, _, h => by simp only [RF] at h; simp only [RO]; exact ⟨h, trivial⟩
  | .lst _, _, _, hn, h => one_flat_lst hn h
  | .tup _, _, _, hn, h => one_flat_tup hn h
  | .set _, _, _, _, h => by simp only [RF] at h
  | .itr _, _, _, _, h => by simp only [RF] at h
  | .dct _ _, _, _, _, h => by simp only [RF] at h
  | .ob _, _, _, _, h => by simp only [RF] at h
  | .exc _ _, _, _, _, h => by simp only [RF] at h
theorem RO.to1 : ∀ {d : D} {v : V} {n : Nat} {f : AS}, n ≤ 1 → RO K F H d n v f → RF K F d v ∧ f = emp
  | .non, _, _, _, _, h => by simp only [RO] at h; simp only [RF]; exact h
  | .bl _, _, _, _, _, h => by simp only [RO] at h; simp only [RF]; exact h
  | .int _, _, _, _, _, h => by simp only [RO] at h; simp only [RF]; exact h
  | .str _, _, _, _, _, h => by simp only [RO] at h; simp only [RF]; exact h
  | .lst _, _, _, _, hn, h => by unfold RO at h; rw [if_pos hn] at h; exact h
  | .tup _, _, _, _, hn, h => by unfold RO at h; rw [if_pos hn] at h; exact h
  | .set _, _, _, _, _, h => by simp only [RO] at h
  | .itr _, _, _, _, _, h => by simp only [RO] at h
  | .dct _ _, _, _, _, _, h => by simp only [RO] at h
  | .ob _, _, _, _, _, h => by simp only [RO] at h
  | .exc _ _, _, _, _, _, h => by simp only [RO] at h
theorem RO.flat : ∀ {d : D} {v : V} {n m : Nat} {f : AS}, flat d = true → RO K F H d n v f → RO K F' H' d m v f
  | .non, _, _, _, _, _, h => by simp only [RO] at h ⊢; exact h
  | .bl _, _, _, _, _, _, h => by simp only [RO] at h ⊢; exact h
  | .int _, _, _, _, _, _, h => by simp only [RO] at h ⊢; exact h
  | .str _, _, _, _, _, _, h => by simp only [RO] at h ⊢; exact h
theorem RF.flat : ∀ {d : D} {v : V} {m : Nat}, Z.flat d = true → RF K F d v → RO K F' H' d m v emp
  | .non, _, _, _, h => by simp only [RF] at h; simp only [RO]; exact ⟨h, trivial⟩
  | .bl _, _, _, _, h => by simp only [RF] at h; simp only [RO]; exact ⟨h, trivial⟩
  | .int _, _, _, _, h => by simp only [RF] at h; simp only [RO]; exact ⟨h, trivial⟩
  | .str _, _, _, _, h => by simp only [RF] at h; simp only [RO]; exact ⟨h, trivial⟩
theorem ROL.to1 {G : Hp} : ∀ (xs : List D) (m : Nat) (vs : List V) (f : AS), m ≤ 1 → Sub F G → ROL K F H xs m vs f → RFL K G xs vs
  | [], _, _, _, _, _, h => by simp only [ROL] at h; simp only [RFL]; exact h.1
  | x :: xs, m, vs, f, hm, sg, h => by
    simp only [ROL] at h
    obtain ⟨w, ws, g1, g2, e, q, r, d, rfl⟩ := h
    simp only [RFL]
    exact ⟨w, ws, e, RF.sub sg _ _ (RO.to1 hm q).1, ROL.to1 xs m ws g2 hm sg r⟩
mutual
/-- a part g of the own cells is given up: level m -/
theorem RO.weak (s : Sub F H) : ∀ (d : D) (n m : Nat) (v : V) (f : AS), 1 ≤ m → m ≤ n → RO K F H d n v f →
    ∃ g f', (∀ a, f a ↔ g a ∨ f' a) ∧ Dis g f' ∧ RO K (frz F H g) H d m v f'
  | .non, _, _, _, f, _, _, h => ⟨emp, f, fun a => by simp [emp], fun a z => z.elim, h⟩
  | .bl _, _, _, _, f, _, _, h => ⟨emp, f, fun a => by simp [emp], fun a z => z.elim, h⟩
  | .int _, _, _, _, f, _, _, h => ⟨emp, f, fun a => by simp [emp], fun a z => z.elim, h⟩
  | .str _, _, _, _, f, _, _, h => ⟨emp, f, fun a => by simp [emp], fun a z => z.elim, h⟩
  | .lst xs, n, m, v, f, h1, hm, h => by
    by_cases hn : n ≤ 1
    · obtain ⟨h2, rfl⟩ := RO.to1 hn h
      refine ⟨emp, emp, fun a => by simp [emp], fun a z => z.elim, ?_⟩
      rw [frz_emp]
      exact RO.of1 (by omega) h2
    · unfold RO at h
      rw [if_neg hn] at h
      obtain ⟨a, vs, g, e, q, z, na, r, rfl⟩ := h
      obtain ⟨g1, f1, hs, hd, r1⟩ := ROL.weak s xs (dn n) (dn m) vs g (dn_pos h1) (dn_mono hm) r
      have hc := ROL.cells xs _ vs g r
      by_cases hm1 : m ≤ 1
      · have em : dn m = m := dn_le_one hm1
        rw [em] at r1
        refine ⟨fun b => b = a ∨ g b, emp, fun b => by simp [emp], fun _ _ z => z, ?_⟩
        refine RO.of1 hm1 ?_
        simp only [RF]
        have hsub : Sub (frz F H g1) (frz F H fun b => b = a ∨ g b) := fun b o eb => by
          by_cases hb : g1 b
          · rw [frz_in hb] at eb
            rw [frz_in (.inr ((hs b).mpr (.inl hb)))]
            exact eb
          · rw [frz_out hb] at eb
            by_cases hb' : b = a ∨ g b
            · rw [frz_in hb']; exact s _ _ eb
            · rw [frz_out hb']; exact eb
        refine ⟨a, vs, e, .inl (by rw [frz_in (.inl rfl)]; exact q), ?_⟩
        exact ROL.to1 xs m vs f1 hm1 hsub r1
      · refine ⟨g1, fun b => b = a ∨ f1 b, fun b => ?_, ?_, ?_⟩
        · have := hs b
          grind
        · rintro b hb (rfl | hb2)
          · exact na ((hs b).mpr (.inl hb))
          · exact hd b hb hb2
        · unfold RO
          rw [if_neg hm1]
          refine ⟨a, vs, f1, e, q, ?_, fun hb => na ((hs a).mpr (.inr hb)), r1, rfl⟩
          rw [frz_out fun hb => na ((hs a).mpr (.inl hb))]
          exact z
  | .tup xs, n, m, v, f, h1, hm, h => by
    by_cases hn : n ≤ 1
    · obtain ⟨h2, rfl⟩ := RO.to1 hn h
      refine ⟨emp, emp, fun a => by simp [emp], fun a z => z.elim, ?_⟩
      rw [frz_emp]
      exact RO.of1 (by omega) h2
    · unfold RO at h
      rw [if_neg hn] at h
      obtain ⟨a, vs, g, e, q, z, na, r, rfl⟩ := h
      obtain ⟨g1, f1, hs, hd, r1⟩ := ROL.weak s xs (dn n) (dn m) vs g (dn_pos h1) (dn_mono hm) r
      by_cases hm1 : m ≤ 1
      · have em : dn m = m := dn_le_one hm1
        rw [em] at r1
        refine ⟨fun b => b = a ∨ g b, emp, fun b => by simp [emp], fun _ _ z => z, ?_⟩
        refine RO.of1 hm1 ?_
        simp only [RF]
        have hsub : Sub (frz F H g1) (frz F H fun b => b = a ∨ g b) := fun b o eb => by
          by_cases hb : g1 b
          · rw [frz_in hb] at eb
            rw [frz_in (.inr ((hs b).mpr (.inl hb)))]
            exact eb
          · rw [frz_out hb] at eb
            by_cases hb' : b = a ∨ g b
            · rw [frz_in hb']; exact s _ _ eb
            · rw [frz_out hb']; exact eb
        refine ⟨a, vs, e, .inl (.inl (by rw [frz_in (.inl rfl)]; exact q)), ?_⟩
        exact ROL.to1 xs m vs f1 hm1 hsub r1
      · refine ⟨g1, fun b => b = a ∨ f1 b, fun b => ?_, ?_, ?_⟩
        · have := hs b
          grind
        · rintro b hb (rfl | hb2)
          · exact na ((hs b).mpr (.inl hb))
          · exact hd b hb hb2
        · unfold RO
          rw [if_neg hm1]
          refine ⟨a, vs, f1, e, q, ?_, fun hb => na ((hs a).mpr (.inr hb)), r1, rfl⟩
          rw [frz_out fun hb => na ((hs a).mpr (.inl hb))]
          exact z
  | .set _, _, _, _, _, _, _, h => by simp only [RO] at h
  | .itr _, _, _, _, _, _, _, h => by simp only [RO] at h
  | .dct _ _, _, _, _, _, _, _, h => by simp only [RO] at h
  | .ob _, _, _, _, _, _, _, h => by simp only [RO] at h
  | .exc _ _, _, _, _, _, _, _, h => by simp only [RO] at h
theorem ROL.weak (s : Sub F H) : ∀ (xs : List D) (n m : Nat) (vs : List V) (f : AS), 1 ≤ m → m ≤ n → ROL K F H xs n vs f →
    ∃ g f', (∀ a, f a ↔ g a ∨ f' a) ∧ Dis g f' ∧ ROL K (frz F H g) H xs m vs f'
  | [], _, _, _, f, _, _, h => ⟨emp, f, fun a => by simp [emp], fun a z => z.elim, by simp only [ROL] at h ⊢; exact h⟩
  | x :: xs, n, m, vs, f, h1, hm, h => by
    simp only [ROL] at h
    obtain ⟨w, ws, g1, g2, e, q, r, d, rfl⟩ := h
    obtain ⟨a1, b1, hs1, hd1, q1⟩ := RO.weak s x n m w g1 h1 hm q
    obtain ⟨a2, b2, hs2, hd2, r2⟩ := ROL.weak s xs n m ws g2 h1 hm r
    have c1 := RO.cells x n w g1 q
    have c2 := ROL.cells xs n ws g2 r
    refine ⟨fun b => a1 b ∨ a2 b, fun b => b1 b ∨ b2 b, fun b => ?_, fun b => ?_, ?_⟩
    · have := hs1 b; have := hs2 b; grind
    · have := hs1 b; have := hs2 b; have := d b; have := hd1 b; have := hd2 b; grind
    · simp only [ROL]
      refine ⟨w, ws, b1, b2, e, ?_, ?_, fun b hb1 hb2 => d b ((hs1 b).mpr (.inr hb1)) ((hs2 b).mpr (.inr hb2)), rfl⟩
      · have k : Kept b1 (frz F H a1) H (frz (frz F H a1) H a2) H := frz_kept (fun b hb => by
          by_cases hb1 : a1 b
          · exact (d b ((hs1 b).mpr (.inl hb1)) ((hs2 b).mpr (.inl hb))).elim
          · rw [frz_out hb1]; exact (c2 b ((hs2 b).mpr (.inl hb))).1) fun b hb1 hb2 => d b ((hs1 b).mpr (.inr hb1)) ((hs2 b).mpr (.inl hb2))
        have := RO.kept x m w b1 k q1
        rw [frz_frz] at this
        exact this
      · have k : Kept b2 (frz F H a2) H (frz (frz F H a2) H a1) H := frz_kept (fun b hb => by
          by_cases hb1 : a2 b
          · exact (d b ((hs1 b).mpr (.inl hb)) ((hs2 b).mpr (.inl hb1))).elim
          · rw [frz_out hb1]; exact (c1 b ((hs1 b).mpr (.inl hb))).1) fun b hb1 hb2 => d b ((hs1 b).mpr (.inl hb2)) ((hs2 b).mpr (.inr hb1))
        have := ROL.kept xs m ws b2 k r2
        rw [frz_frz] at this
        have e3 : (fun a => a2 a ∨ a1 a) = fun b => a1 b ∨ a2 b := by funext b; exact propext or_comm
        rw [e3] at this
        exact this
end
end
end Z

/-! Z3: the judgement SE: what the evaluator says of an expression, the machine does. -/
namespace Z
open PySem L2
abbrev Gm := List Nat
def lvOf (Γ : Gm) (i : Nat) : Nat := Γ.getD i 0
def own (n : Nat) : Bool := decide (1 ≤ n) && decide (n ≤ 100)
theorem own_pos {n : Nat} (h : own n = true) : 1 ≤ n := by simp [own] at h; exact h.1
theorem own_ne {n : Nat} (h : own n = true) : n ≠ 0 := by have := own_pos h; omega
def Own (fp : Nat → AS) : AS := fun a => ∃ i, fp i a
/-- the locals, by their levels -/
structure St (K : PySem.W.Frag) (Γ : Gm) (e : List D) (σ : L2.St) (F H : Hp) (fp : Nat → AS) : Prop where
  sub : Sub F H
  lG : Γ.length = σ.length
  le : e.length = σ.length
  at_ : ∀ i, 1 ≤ lvOf Γ i → ∃ d v, e[i]? = some d ∧ σ[i]? = some (some v) ∧ RO K F H d (lvOf Γ i) v (fp i)
  dis : ∀ i j, i ≠ j → Dis (fp i) (fp j)
  dead : ∀ i, lvOf Γ i = 0 → fp i = emp
structure Ch (o w : AS) (F H F' H' : Hp) : Prop where
  sub : Sub F F'
  keep : ∀ a x, H a = some x → ¬ w a → H' a = some x
  new : ∀ a, F a = none → F' a ≠ none → o a ∨ H a = none
def Wr (q : Bool) (fp : Nat → AS) : AS := fun a => q = false ∧ Own fp a
/-- the cells grow out of one's own or are new -/
def Grow (f g : AS) (H : Hp) : Prop := ∀ a, f a → g a ∨ H a = none
/-- 0: it reads now; else by its level -/
def Val (K : PySem.W.Frag) (m : Nat) (F H : Hp) (d : D) (v : V) (f : AS) : Prop := if m = 0 then RF K H d v ∧ f = emp else RO K F H d m v f
def ValL (K : PySem.W.Frag) (F H : Hp) : List Nat → List D → List V → AS → Prop
  | [], [], vs, f => vs = [] ∧ f = emp
  | m :: ms, x :: xs, vs, f => ∃ w ws g1 g2, vs = w :: ws ∧ Val K m F H x w g1 ∧ ValL K F H ms xs ws g2 ∧ Dis g1 g2 ∧ f = fun b => g1 b ∨ g2 b
  | _, _, _, _ => False
structure Go (K : PySem.W.Frag) (q : Bool) (Γ' : Gm) (σ : L2.St) (F H : Hp) (fp : Nat → AS) (e0 e' : List D) (F' H' : Hp) (fp' : Nat → AS) (f : AS) : Prop where
  same : q = true → e' = e0
  st : St K Γ' e' σ F' H' fp'
  dis : Dis f (Own fp')
  ch : Ch (Own fp) (Wr q fp) F H F' H'
  grow : Grow (fun a => Own fp' a ∨ f a) (Own fp) H
/-- the tables of a law -/
structure Tb where
  K : PySem.W.Frag
  P : Prog
  ca : Nat → Addr
  cf : Nat → List Str
/-- an exception that was raised -/
def Exc (T : Tb) (F H : Hp) : D → Value → Option Addr → Prop
  | .exc c xs, cls, dx => cls = .ref (T.ca c) ∧ T.cf c ≠ [] ∧ ∃ a vs, dx = some a ∧ H a = some (.xd ((T.cf c).zip vs)) ∧ vs.length = (T.cf c).length ∧ RFL T.K F xs vs
  | _, _, _ => False
/-- what is wanted of an exception -/
def XW (T : Tb) (W : WX) (kp : List Nat) (σ : L2.St) (F H : Hp) (fp : Nat → AS) (x : D) (e' : List D) : Prop :=
  ∀ F' H' cls dx, Sub F' H' → e'.length = σ.length → Ch (Own fp) (Own fp) F H F' H' → (∀ i ∈ kp, ∃ d v, e'[i]? = some d ∧ σ[i]? = some (some v) ∧ RF T.K F' d v) → Exc T F' H' x cls dx → W cls dx σ H'
section
variable (T : Tb) (W : WX) (kp : List Nat) (k : Oracle)
def rdE (q : Bool) (r : Env → R D) (Γ : Gm) (m : Nat) (Γ' : Gm) : TE := fun σ H Q => ∃ e F fp, St T.K Γ e.s σ F H fp ∧ match r e with
  | .ok d e' => ∀ F' H' fp' v f, Go T.K q Γ' σ F H fp e.s e'.s F' H' fp' f → Val T.K m F' H' d v f → Q v H'
  | .exc x e' => XW T W kp σ F H fp x e'.s
  | .bad => False
def rdL (q : Bool) (r : Env → R (List D)) (Γ : Gm) (ms : List Nat) (Γ' : Gm) : TA := fun σ H Q => ∃ e F fp, St T.K Γ e.s σ F H fp ∧ match r e with
  | .ok xs e' => ∀ F' H' fp' vs f, Go T.K q Γ' σ F H fp e.s e'.s F' H' fp' f → ValL T.K F' H' ms xs vs f → Q vs H'
  | .exc x e' => XW T W kp σ F H fp x e'.s
  | .bad => False
end
/-- THE JUDGEMENT of an expression; of a list of expressions -/
def SE (X : Cx) (T : Tb) (W : WX) (kp : List Nat) (q : Bool) (r : Env → R D) (x : Expr) (Γ : Gm) (m : Nat) (Γ' : Gm) : Prop := PE X x (rdE T W kp q r Γ m Γ')
def SL (X : Cx) (T : Tb) (W : WX) (kp : List Nat) (q : Bool) (r : Env → R (List D)) (xs : List Expr) (Γ : Gm) (ms : List Nat) (Γ' : Gm) : Prop := PA X xs (rdL T W kp q r Γ ms Γ')

theorem PE.mono {X : Cx} {x : Expr} {t t' : TE} (h : PE X x t) (m : ∀ σ H Q, t' σ H Q → t σ H Q) : PE X x t' := ⟨fun pins s σ H Q I z => h.run pins s σ H Q I (m σ H Q z)⟩
theorem PA.mono {X : Cx} {x : List Expr} {t t' : TA} (h : PA X x t) (m : ∀ σ H Q, t' σ H Q → t σ H Q) : PA X x t' := ⟨fun pos pins s σ H Q I z => h.run pos pins s σ H Q I (m σ H Q z)⟩
theorem PT.mono {X : Cx} {x : Expr} {t t' : TT} (h : PT X x t) (m : ∀ σ H Q, t' σ H Q → t σ H Q) : PT X x t' := ⟨fun pins s σ H Q I z => h.run pins s σ H Q I (m σ H Q z)⟩

section
variable {K : PySem.W.Frag} {F H F' H' F2 H2 : Hp} {fp fp' fp2 : Nat → AS} {o w : AS}
theorem Wr_own {q : Bool} {a : Addr} (h : Wr q fp a) : Own fp a := h.2
theorem Ch.refl : Ch o w F H F H := ⟨Sub.refl F, fun _ _ h _ => h, fun a h h' => (h' h).elim⟩
theorem Ch.mono {o' w' : AS} (c : Ch o w F H F' H') (ho : ∀ a, o a → o' a) (hw : ∀ a, w a → w' a) : Ch o' w' F H F' H' :=
  ⟨c.sub, fun a x h n => c.keep a x h fun z => n (hw a z), fun a h h' => (c.new a h h').imp (ho a) id⟩
theorem Grow.none {f g : AS} (c : Ch o w F H F' H') (hw : ∀ a, w a → o a) {a : Addr} (h : H' a = none) : o a ∨ H a = none := by
  cases e : H a with
  | none => exact .inr rfl
  | some x =>
    refine .inl (Classical.byContradiction fun n => ?_)
    have := c.keep a x e fun z => n (hw a z)
    rw [h] at this; cases this
/-- one behind the other -/
theorem Ch.trans {o1 w1 : AS} (c : Ch o w F H F' H') (hw : ∀ a, w a → o a) (g : Grow o1 o H) (c1 : Ch o1 w1 F' H' F2 H2) (hw1 : ∀ a, w1 a → o1 a) (hz : ∀ a, w1 a → o a → w a) : Ch o w F H F2 H2 := by
  refine ⟨c.sub.trans c1.sub, fun a x h n => ?_, fun a h h' => ?_⟩
  · refine c1.keep a x (c.keep a x h n) fun z => ?_
    rcases g a (hw1 a z) with z1 | z1
    · exact n (hz a z z1)
    · rw [h] at z1; cases z1
  · cases e : F' a with
    | some y => exact c.new a h (by rw [e]; simp)
    | none =>
      rcases c1.new a e h' with z | z
      · exact g a z
      · exact Grow.none (f := o) (g := o) c hw z
theorem Ch.kept {f : AS} (c : Ch o w F H F' H') (hw : ∀ a, w a → o a) (d : Dis f o) (hc : ∀ a, f a → F a = none ∧ H a ≠ none) : Kept f F H F' H' :=
  ⟨c.sub, fun a hf => by
    cases e : H a with
    | none => exact absurd e (hc a hf).2
    | some x => rw [c.keep a x e fun z => d a hf (hw a z)], fun a hf _ => by
    cases e : F' a with
    | none => rfl
    | some y => exact ((c.new a (hc a hf).1 (by rw [e]; simp)).elim (d a hf) (hc a hf).2).elim⟩
theorem Ch.subH {q : Bool} (c : Ch (Own fp) (Wr q fp) F H F' H') (hq : q = true) : Sub H H' := fun a x h => c.keep a x h fun z => by rw [hq] at z; exact absurd z.1 (by decide)
theorem Val.cells {m : Nat} {d : D} {v : V} {f : AS} (h : Val K m F H d v f) : ∀ a, f a → F a = none ∧ H a ≠ none := by
  unfold Val at h
  split at h
  · rw [h.2]; exact fun _ z => z.elim
  · exact RO.cells d m v f h
theorem Val.rf {m : Nat} {d : D} {v : V} {f : AS} (s : Sub F H) (h : Val K m F H d v f) : RF K H d v := by
  unfold Val at h
  split at h
  · exact h.1
  · exact RO.rf s d m v f h
theorem Val.ro {m : Nat} {d : D} {v : V} {f : AS} (hm : own m = true) (h : Val K m F H d v f) : RO K F H d m v f := by
  unfold Val at h; rw [if_neg (own_ne hm)] at h; exact h
theorem Val.of {m : Nat} {d : D} {v : V} {f : AS} (hm : m ≠ 0) (h : RO K F H d m v f) : Val K m F H d v f := by
  unfold Val; rw [if_neg hm]; exact h
theorem Val.flat {m : Nat} {d : D} {v : V} (hd : flat d = true) (h : RF K H d v) : Val K m F H d v emp := by
  unfold Val
  split
  · exact ⟨h, rfl⟩
  · exact RF.flat hd h
theorem ValL.cells : ∀ {ms : List Nat} {xs : List D} {vs : List V} {f : AS}, ValL K F H ms xs vs f → ∀ a, f a → F a = none ∧ H a ≠ none
  | [], [], _, _, h => by simp only [ValL] at h; rw [h.2]; exact fun _ z => z.elim
  | m :: ms, x :: xs, _, _, h => by
    simp only [ValL] at h
    obtain ⟨w, ws, g1, g2, _, h1, h2, _, rfl⟩ := h
    rintro a (z | z)
    · exact h1.cells a z
    · exact ValL.cells h2 a z
  | [], _ :: _, _, _, h => by simp only [ValL] at h
  | _ :: _, [], _, _, h => by simp only [ValL] at h
theorem ValL.rf (s : Sub F H) : ∀ {ms : List Nat} {xs : List D} {vs : List V} {f : AS}, ValL K F H ms xs vs f → RFL K H xs vs
  | [], [], _, _, h => by simp only [ValL] at h; simp only [RFL]; exact h.1
  | m :: ms, x :: xs, _, _, h => by
    simp only [ValL] at h
    obtain ⟨w, ws, g1, g2, e, h1, h2, _, rfl⟩ := h
    simp only [RFL]
    exact ⟨w, ws, e, h1.rf s, ValL.rf s h2⟩
  | [], _ :: _, _, _, h => by simp only [ValL] at h
  | _ :: _, [], _, _, h => by simp only [ValL] at h
/-- a value while the rest runs -/
theorem Val.stay {m : Nat} {d : D} {v : V} {f : AS} {q : Bool} (h : Val K m F H d v f) (c : Ch (Own fp) (Wr q fp) F H F' H') (hd : Dis f (Own fp)) (hs : own m = true ∨ q = true) (hm : m ≠ 0 ∨ q = true) : Val K m F' H' d v f := by
  have hc := h.cells
  unfold Val at h ⊢
  split at h <;> rename_i h0
  · rw [if_pos h0]
    refine ⟨RF.sub (c.subH ?_) _ _ h.1, h.2⟩
    rcases hm with z | z
    · exact absurd h0 z
    · exact z
  · rw [if_neg h0]
    exact RO.kept d m v f (c.kept (fun _ z => z.2) hd hc) h
theorem ValL.stay {q : Bool} (c : Ch (Own fp) (Wr q fp) F H F' H') : ∀ {ms : List Nat} {xs : List D} {vs : List V} {f : AS}, ValL K F H ms xs vs f → Dis f (Own fp) → (ms.all own = true ∨ q = true) → ValL K F' H' ms xs vs f
  | [], [], _, _, h, _, _ => h
  | m :: ms, x :: xs, _, _, h, hd, hs => by
    simp only [ValL] at h ⊢
    obtain ⟨w, ws, g1, g2, e, h1, h2, d, rfl⟩ := h
    have hs1 : own m = true ∨ q = true := hs.imp (fun z => by simp only [List.all_cons, Bool.and_eq_true] at z; exact z.1) id
    have hs2 : ms.all own = true ∨ q = true := hs.imp (fun z => by simp only [List.all_cons, Bool.and_eq_true] at z; exact z.2) id
    exact ⟨w, ws, g1, g2, e, h1.stay c (fun a z => hd a (.inl z)) hs1 (hs1.imp own_ne id), ValL.stay c h2 (fun a z => hd a (.inr z)) hs2, d, rfl⟩
  | [], _ :: _, _, _, h, _, _ => by simp only [ValL] at h
  | _ :: _, [], _, _, h, _, _ => by simp only [ValL] at h
theorem Go.refl {Γ : Gm} {σ : L2.St} {e : List D} {q : Bool} (s : St K Γ e σ F H fp) : Go K q Γ σ F H fp e e F H fp emp :=
  ⟨fun _ => rfl, s, fun _ z => z.elim, .refl, fun a z => z.elim .inl fun z => z.elim⟩
theorem and_tt {a b : Bool} (h : (a && b) = true) : a = true ∧ b = true := by simpa using h
/-- two runs, one behind the other -/
theorem Go.trans {q1 q2 : Bool} {Γ1 Γ2 : Gm} {σ : L2.St} {e0 e1 e2 : List D} {f1 f2 : AS} (a : Go K q1 Γ1 σ F H fp e0 e1 F' H' fp' f1) (b : Go K q2 Γ2 σ F' H' fp' e1 e2 F2 H2 fp2 f2) (hc : ∀ x, f1 x → F' x = none ∧ H' x ≠ none) :
    Go K (q1 && q2) Γ2 σ F H fp e0 e2 F2 H2 fp2 (fun x => f1 x ∨ f2 x) := by
  have gr : Grow (Own fp') (Own fp) H := fun x z => a.grow x (.inl z)
  refine ⟨fun z => (b.same (and_tt z).2).trans (a.same (and_tt z).1), b.st, ?_, ?_, ?_⟩
  · rintro x (z | z) y
    · rcases b.grow x (.inl y) with u | u
      · exact a.dis x z u
      · exact (hc x z).2 u
    · exact b.dis x z y
  · refine Ch.trans (a.ch.mono (fun _ z => z) fun x z => ?_) (fun _ z => z.2) gr b.ch (fun _ z => z.2) fun x z y => ?_
    · exact ⟨by rw [z.1]; rfl, z.2⟩
    · exact ⟨by rw [z.1]; cases q1 <;> rfl, y⟩
  · rintro x (z | z | z)
    · rcases b.grow x (.inl z) with u | u
      · exact gr x u
      · exact Grow.none (f := emp) (g := emp) a.ch (fun _ z => z.2) u
    · exact a.grow x (.inr z)
    · rcases b.grow x (.inr z) with u | u
      · exact gr x u
      · exact Grow.none (f := emp) (g := emp) a.ch (fun _ z => z.2) u
theorem XW.back {T : Tb} {W : WX} {kp : List Nat} {σ : L2.St} {q : Bool} {Γ1 : Gm} {e0 e1 e2 : List D} {f : AS} {x : D} (h : XW T W kp σ F H fp x e2) (a : Go K q Γ1 σ F H fp e0 e1 F' H' fp' f) : XW T W kp σ F' H' fp' x e2 :=
  fun F2 H2 cls dx s l c kr ex => h F2 H2 cls dx s l (Ch.trans (a.ch.mono (fun _ z => z) fun _ z => z.2) (fun _ z => z) (fun x z => a.grow x (.inl z)) c (fun _ z => z) fun _ _ z => z) kr ex
end

section
variable {X : Cx} {T : Tb} {W : WX} {kp : List Nat}
theorem go_app {K : PySem.W.Frag} {q : Bool} {Γ' : Gm} {σ : L2.St} {F H : Hp} {fp : Nat → AS} {e0 e' : List D} {F' H' : Hp} {fp' : Nat → AS} {f g : AS} (h : Go K q Γ' σ F H fp e0 e' F' H' fp' f) (e : ∀ a, g a → f a) : Go K q Γ' σ F H fp e0 e' F' H' fp' g :=
  ⟨h.same, h.st, fun a z => h.dis a (e a z), h.ch, fun a z => h.grow a (z.imp id (e a))⟩
/-- the empty list of expressions -/
theorem sl_nil {Γ : Gm} {q : Bool} : SL X T W kp q (fun e => .ok [] e) [] Γ [] Γ := by
  refine PA.mono pa_nil fun σ H Q h => ?_
  obtain ⟨e, F, fp, s, h⟩ := h
  exact h F H fp [] emp (Go.refl s) ⟨rfl, rfl⟩
theorem sl_cons {q1 q2 : Bool} {r : Env → R D} {rs : Env → R (List D)} {x : Expr} {xs : List Expr} {Γ Γ1 Γ2 : Gm} {m : Nat} {ms : List Nat} (ha : SE X T W kp q1 r x Γ m Γ1) (hs : SL X T W kp q2 rs xs Γ1 ms Γ2) (hm : own m = true ∨ q2 = true)
    (hst : starEach (x :: xs) X.env = (false, eval x X.env) :: starEach xs X.env) : SL X T W kp (q1 && q2) (fun e => (r e).bind fun d e1 => (rs e1).bind fun ds e2 => .ok (d :: ds) e2) (x :: xs) Γ (m :: ms) Γ2 := by
  refine PA.mono (pa_cons ha hs hst) fun σ H Q h => ?_
  obtain ⟨e, F, fp, s, h⟩ := h
  refine ⟨e, F, fp, s, ?_⟩
  dsimp only at h
  cases e1 : r e with
  | bad => rw [e1] at h; exact h
  | exc y e' => rw [e1] at h; exact h
  | ok d e' =>
    rw [e1] at h
    simp only [R.bind_ok] at h
    intro F1 H1 fp1 v f g val
    refine ⟨e', F1, fp1, g.st, ?_⟩
    cases e2 : rs e' with
    | bad => rw [e2] at h; exact h
    | exc y e2' => rw [e2] at h; exact XW.back h g
    | ok ds e2' =>
      rw [e2] at h
      simp only [R.bind_ok] at h
      intro F2 H2 fp2 vs f2 g2 val2
      refine h F2 H2 fp2 (v :: vs) _ (Go.trans g g2 val.cells) ?_
      have val' := val.stay g2.ch g.dis hm (hm.imp own_ne id)
      refine ⟨v, vs, f, f2, rfl, val', val2, fun a z1 z2 => ?_, rfl⟩
      rcases g2.grow a (.inr z2) with u | u
      · exact g.dis a z1 u
      · exact (val.cells a z1).2 u
end
/-! ### side conditions on syntax -/
def ns : Expr → Bool
  | .Starred _ _ => false
  | _ => true
theorem star_cons {e : Expr} {es : List Expr} {env : PySem.Env} (h : ns e = true) : starEach (e :: es) env = (false, eval e env) :: starEach es env := by
  cases e <;> first
    | rfl
    | (simp [ns] at h)
theorem star_any {pos : Pos} {env : PySem.Env} : ∀ {es : List Expr}, es.all ns = true → (backTo pos (starEach es env)).any (·.1) = false
  | [], _ => rfl
  | e :: es, h => by
    simp only [List.all_cons, Bool.and_eq_true] at h
    rw [star_cons h.1]
    have := star_any (pos := pos) (env := env) h.2
    simp only [backTo, List.map_cons, List.any_cons, Bool.false_or] at this ⊢
    exact this
theorem star_all {pos : Pos} {env : PySem.Env} : ∀ {es : List Expr}, es.all ns = true → (backTo pos (starEach es env)).all (fun x => !x.1) = true
  | [], _ => rfl
  | e :: es, h => by
    simp only [List.all_cons, Bool.and_eq_true] at h
    rw [star_cons h.1]
    have := star_all (pos := pos) (env := env) h.2
    simp only [backTo, List.map_cons, List.all_cons, Bool.not_false, Bool.true_and] at this ⊢
    exact this
/-- no super() -/
def nsup : Expr → Bool
  | .Call (.Name id _) [] [] _ => id != "super"
  | _ => true
theorem base_ok {o : Expr} {a : Str} {env : PySem.Env} {w : Sem Value} (h : nsup o = true) : attributeBase o a env w = w := by
  unfold attributeBase
  split
  · rename_i id _ _
    have : (id != "super") = true := h
    simp only [this, Bool.true_or, if_true]
  · rfl
theorem bm_few {cpos : Pos} {e : Expr} {es : List Expr} {env : PySem.Env} (h : (e :: es).all ns = true) (hl : es.length < 20) : ((backTo cpos (starEach (e :: es) env)).all (fun x => !x.1) && (backToKw cpos (keywordEach [] env)).all (fun x => x.1.isSome)
      && decide ((e :: es).length + ([] : List Keyword).length + (if ([] : List Keyword).isEmpty then 0 else 1) < 30)) = true := by
  rw [star_all h]
  have e1 : (backToKw cpos (keywordEach [] env)).all (fun x => x.1.isSome) = true := by simp [backToKw, keywordEach]
  rw [e1]
  simp
  try omega
/-- no comprehension on its own -/
def nlc : Expr → Bool
  | .ListComp .. => false
  | .SetComp .. => false
  | .DictComp .. => false
  | _ => true
theorem swaps_ok {e : Expr} {t : Option Expr} {l : Nat} {env : PySem.Env} (h : nlc e = true) : swapsWith e t l env = pure false := by
  cases e <;> first
    | rfl
    | (simp [nlc] at h)
end Z

/-! Z4: the operators' rules: what the evaluator says of values, the machine says. -/
namespace Z
open PySem L2
theorem txt_len (s : Txt) : (txt s).length = s.length := by simp [txt, Str.length]
theorem txt_app (a b : Txt) : txt a ++ txt b = txt (a ++ b) := by
  show Str.append (txt a) (txt b) = txt (a ++ b)
  simp [txt, Str.append]
theorem txt_list (s : Txt) : (txt s).cps.toList = s := by simp [txt]
theorem txt_inj {a b : Txt} (h : txt a = txt b) : a = b := by
  have := congrArg (fun z : Str => z.cps.toList) h
  simpa [txt] using this
theorem txt_dec (a b : Txt) : decide (V.str (txt a) = V.str (txt b)) = (a == b) := by
  by_cases h : a = b
  · subst h; simp
  · have : ¬ (V.str (txt a) = V.str (txt b)) := fun e => h (txt_inj (V.str.inj e))
    simp [this, h]
theorem lim_line {n : Nat} (h : n ≤ LIM) : n ≤ sizeLine := Nat.le_trans h (by decide)
/-- a rule with a flat answer -/
def Flat2 (K : PySem.W.Frag) (rr : R2) (g : D → D → Option D) : Prop :=
  ∀ (H : Hp) (x y : D) (v u : V) (d : D) (Q : VK), RF K H x v → RF K H y u → g x y = some d → flat d = true ∧ ((∀ w, RF K H d w → Q w H) → rr v u H Q)
theorem _root_.L2.OpR.imp {X : Cx} {f : Value → Value → Sem Value} {r r' : R2} (h : OpR X f r) (m : ∀ x y H Q, r' x y H Q → r x y H Q) : OpR X f r' :=
  fun pins s σ H x y v u Q I rx ry z => h pins s σ H x y v u Q I rx ry (m x y H Q z)
/-- the rule that the evaluator asks -/
def rG (K : PySem.W.Frag) (g : D → D → Option D) : R2 := fun v u H Q => ∃ x y d, RF K H x v ∧ RF K H y u ∧ g x y = some d ∧ ∀ w, RF K H d w → Q w H
theorem rG_of {X : Cx} {f : Value → Value → Sem Value} {rr : R2} {g : D → D → Option D} (h : OpR X f rr) (m : Flat2 X.K rr g) : OpR X f (rG X.K g) :=
  h.imp fun v u H Q ⟨x, y, d, h1, h2, h3, h4⟩ => (m H x y v u d Q h1 h2 h3).2 h4
section
variable {K : PySem.W.Frag} {H : Hp}
theorem rf_int {i : Int} {v : V} (h : RF K H (.int i) v) : v = .int i := by simp only [RF] at h; exact h
theorem rf_bl {i : Bool} {v : V} (h : RF K H (.bl i) v) : v = .bl i := by simp only [RF] at h; exact h
theorem rf_str {i : Txt} {v : V} (h : RF K H (.str i) v) : v = .str (txt i) := by simp only [RF] at h; exact h
theorem rf_non {v : V} (h : RF K H .non v) : v = .non := by simp only [RF] at h; exact h
theorem mk_int {i : Int} : RF K H (.int i) (.int i) := by simp only [RF]
theorem mk_bl {i : Bool} : RF K H (.bl i) (.bl i) := by simp only [RF]
theorem mk_str {i : Txt} : RF K H (.str i) (.str (txt i)) := by simp only [RF]
theorem mk_non : RF K H .non .non := by simp only [RF]
end
section
variable {X : Cx}
theorem g_add : OpR X (binaryOp .Add) (rG X.K opAdd) := by
  have h := OpR.or (OpR.or (op_add (X := X)) op_add_str) op_add_ib
  refine h.imp fun v u H Q ⟨x, y, d, h1, h2, h3, h4⟩ => ?_
  cases x <;> cases y <;> simp only [opAdd, reduceCtorEq, Option.some.injEq] at h3
  · obtain rfl := rf_int h1; obtain rfl := rf_bl h2; subst h3
    exact .inr ⟨_, _, rfl, rfl, h4 _ mk_int⟩
  · obtain rfl := rf_int h1; obtain rfl := rf_int h2; subst h3
    exact .inl (.inl ⟨_, _, rfl, rfl, h4 _ mk_int⟩)
  · obtain rfl := rf_str h1; obtain rfl := rf_str h2
    unfold guardL at h3
    split at h3 <;> simp only [reduceCtorEq, Option.some.injEq] at h3
    rename_i hl
    subst h3
    refine .inl (.inr ⟨_, _, rfl, rfl, ?_, ?_⟩)
    · rw [txt_len, txt_len]; exact lim_line hl
    · rw [txt_app]; exact h4 _ mk_str
theorem g_sub : OpR X (binaryOp .Sub) (rG X.K opSub) := by
  refine op_sub.imp fun v u H Q ⟨x, y, d, h1, h2, h3, h4⟩ => ?_
  cases x <;> cases y <;> simp only [opSub, reduceCtorEq, Option.some.injEq] at h3
  obtain rfl := rf_int h1; obtain rfl := rf_int h2; subst h3
  exact ⟨_, _, rfl, rfl, h4 _ mk_int⟩
theorem fold_app (xs : List Nat) : ∀ (k : Nat) (acc : Array Nat), (List.replicate k xs.toArray).foldl (· ++ ·) acc = acc ++ (List.replicate k xs).flatten.toArray
  | 0, acc => by simp
  | k + 1, acc => by
    rw [List.replicate_succ, List.foldl_cons, fold_app xs k, List.replicate_succ, List.flatten_cons]
    simp [Array.append_assoc]
theorem mul_txt (s : Txt) (n : Int) : PySem.Txt.mul (txt s) n = txt (List.replicate n.toNat s).flatten := by
  unfold PySem.Txt.mul
  by_cases h1 : n < 1
  · rw [if_pos h1, show n.toNat = 0 by omega]; rfl
  · rw [if_neg h1]
    by_cases h2 : (n == 1 || (txt s).length == 0) = true
    · rw [if_pos h2]
      simp only [Bool.or_eq_true, beq_iff_eq, txt_len] at h2
      rcases h2 with h2 | h2
      · subst h2; simp
      · have : s = [] := List.length_eq_zero_iff.mp h2
        subst this; simp
    · rw [if_neg h2]
      show (⟨_⟩ : Str) = ⟨_⟩
      congr 1
      show (List.replicate n.toNat s.toArray).foldl (· ++ ·) #[] = _
      rw [fold_app]; simp
theorem op_str_rep : OpR X (binaryOp .Mult) (fun x y H Q => ∃ (s : Txt) (k : Int), x = .str (txt s) ∧ y = .int k ∧ (k ≤ (LIM : Int) ∧ -(LIM : Int) ≤ k ∧ s.length * k.toNat ≤ LIM) ∧ Q (.str (txt (List.replicate k.toNat s).flatten)) H) := by
  intro pins st σ H x y v u Q I rx ry h
  obtain ⟨s, k, rfl, rfl, ⟨h1, h2, h3⟩, q⟩ := h
  obtain ⟨t, rfl⟩ := rx
  obtain ⟨t', rfl⟩ := ry
  have hL : LIM = 4000000 := rfl
  refine SB.mul ⟨?_, fun g1 _ => ?_, fun g1 _ => ?_⟩ fun t' k' => ?_
  · have e1 : ¬ k < -(2 ^ 63 : Int) := by omega
    have e2 : ¬ k ≥ (2 ^ 63 : Int) := by omega
    rw [decide_eq_false e1, decide_eq_false e2]; rfl
  · rw [txt_len]
    intro hgt
    have hk : (s.length : Int) * k ≤ 4000000 := by
      have e : ((s.length * k.toNat : Nat) : Int) ≤ (LIM : Int) := by omega
      rw [hL] at e
      have e2 : ((s.length * k.toNat : Nat) : Int) = (s.length : Int) * k := by
        rw [Int.natCast_mul, Int.toNat_of_nonneg (by omega)]
      omega
    have hle : (s.length : Int) ≤ (2 ^ 63 - 1) / k := by
      rw [Int.le_ediv_iff_mul_le (by omega)]
      omega
    omega
  · rw [txt_len]
    unfold Builtin.Str.tooLong
    rw [decide_eq_false]
    have : (4000000 : Nat) ≤ sizeLine := by decide
    omega
  · rw [mul_txt]
    exact ⟨.str _, H, I.tok _, ⟨_, rfl⟩, q⟩
theorem natAbs_bounds {i : Int} (h : i.natAbs < 2 ^ 64) : -(2 ^ 64) < i ∧ i < 2 ^ 64 := by omega
theorem g_mul : OpR X (binaryOp .Mult) (rG X.K opMul) := by
  have h := OpR.or (OpR.or (op_mul (X := X)) op_mulW) op_str_rep
  refine h.imp fun v u H Q ⟨x, y, d, h1, h2, h3, h4⟩ => ?_
  cases x <;> cases y <;> simp only [opMul, reduceCtorEq] at h3
  rotate_left
  · obtain rfl := rf_str h1; obtain rfl := rf_int h2
    split at h3 <;> simp only [reduceCtorEq, Option.some.injEq] at h3
    rename_i hm
    subst h3
    exact .inr ⟨_, _, rfl, rfl, hm, h4 _ mk_str⟩
  obtain rfl := rf_int h1; obtain rfl := rf_int h2
  split at h3 <;> simp only [reduceCtorEq, Option.some.injEq] at h3
  rename_i hm
  subst h3
  simp only [mulOk, Bool.or_eq_true, decide_eq_true_eq, bits] at hm
  rcases hm with (hm | hm) | hm
  · exact .inl (.inl ⟨_, _, rfl, rfl, .inl (natAbs_bounds hm), h4 _ mk_int⟩)
  · exact .inl (.inl ⟨_, _, rfl, rfl, .inr (natAbs_bounds hm), h4 _ mk_int⟩)
  · exact .inl (.inr ⟨_, _, rfl, rfl, (by have hm2 := of_decide_eq_true hm; exact hm2), h4 _ mk_int⟩)
theorem g_div : OpR X (binaryOp .FloorDiv) (rG X.K opDiv) := by
  have h := OpR.or (op_fdivN (X := X)) op_fdivW
  refine h.imp fun v u H Q ⟨x, y, d, h1, h2, h3, h4⟩ => ?_
  cases x <;> cases y <;> simp only [opDiv, reduceCtorEq] at h3
  obtain rfl := rf_int h1; obtain rfl := rf_int h2
  split at h3 <;> simp only [reduceCtorEq, Option.some.injEq] at h3
  rename_i hm
  subst h3
  obtain ⟨h0, hm | hm⟩ := hm
  · exact .inl ⟨_, _, rfl, rfl, ⟨h0, hm⟩, h4 _ mk_int⟩
  · refine .inr ⟨_, _, rfl, rfl, hm, ?_⟩
    have := h4 _ mk_int
    rw [Int.fdiv_eq_ediv_of_nonneg _ (by omega)] at this
    exact this
theorem g_mod : OpR X (binaryOp .Mod) (rG X.K opMod) := by
  refine op_modN.imp fun v u H Q ⟨x, y, d, h1, h2, h3, h4⟩ => ?_
  cases x <;> cases y <;> simp only [opMod, reduceCtorEq] at h3
  obtain rfl := rf_int h1; obtain rfl := rf_int h2
  split at h3 <;> simp only [reduceCtorEq, Option.some.injEq] at h3
  rename_i hm
  subst h3
  exact ⟨_, _, rfl, rfl, hm, h4 _ mk_int⟩
theorem g_pow : OpR X (binaryOp .Pow) (rG X.K opPow) := by
  refine op_pow.imp fun v u H Q ⟨x, y, d, h1, h2, h3, h4⟩ => ?_
  cases x <;> cases y <;> simp only [opPow, reduceCtorEq] at h3
  obtain rfl := rf_int h1; obtain rfl := rf_int h2
  split at h3 <;> simp only [reduceCtorEq, Option.some.injEq] at h3
  rename_i hm
  subst h3
  exact ⟨_, _, rfl, rfl, hm, h4 _ mk_int⟩
theorem bitOr_nat (a b : Nat) : Builtin.bitOr (Int.ofNat a) (Int.ofNat b) = Int.ofNat (a ||| b) := by
  have h := Bits.bitOr_pp (x := Int.ofNat a) (y := Int.ofNat b) (Int.natCast_nonneg a) (Int.natCast_nonneg b)
  exact h
theorem g_bor : OpR X (binaryOp .BitOr) (rG X.K opBor) := by
  refine op_or.imp fun v u H Q ⟨x, y, d, h1, h2, h3, h4⟩ => ?_
  cases x <;> cases y <;> try (simp only [opBor, reduceCtorEq] at h3; done)
  rename_i i j
  cases i <;> cases j <;> simp only [opBor, reduceCtorEq, Option.some.injEq] at h3
  obtain rfl := rf_int h1; obtain rfl := rf_int h2
  subst h3
  refine ⟨_, _, rfl, rfl, ?_⟩
  have := h4 _ mk_int
  rw [← bitOr_nat] at this
  exact this
def opOf : O2 → Operator
  | .add => .Add
  | .sub => .Sub
  | .mul => .Mult
  | .fdiv => .FloorDiv
  | .mod => .Mod
  | .pow => .Pow
  | .bor => .BitOr
theorem g_op2 (o : O2) : OpR X (binaryOp (opOf o)) (rG X.K (op2 o)) := by
  cases o with
  | add => exact g_add
  | sub => exact g_sub
  | mul => exact g_mul
  | fdiv => exact g_div
  | mod => exact g_mod
  | pow => exact g_pow
  | bor => exact g_bor
theorem flat_op2 {o : O2} {x y d : D} (h : op2 o x y = some d) : flat d = true := by
  cases o <;> cases x <;> cases y <;> first
    | (simp [op2, opAdd, opSub, opMul, opDiv, opMod, opPow, opBor, guardL] at h; done)
    | (simp only [op2, opAdd, opSub, opMul, opDiv, opMod, opPow, opBor, guardL, Option.some.injEq] at h; subst h; rfl)
    | (simp only [op2, opAdd, opSub, opMul, opDiv, opMod, opPow, opBor, guardL] at h; split at h <;> simp only [reduceCtorEq, Option.some.injEq] at h; subst h; rfl)
    | (rename_i i j; cases i <;> cases j <;> simp only [op2, opBor, reduceCtorEq, Option.some.injEq] at h <;> (subst h; rfl))
/-! ### comparisons -/
mutual
def toPy : D → PyData
  | .non => .none
  | .bl b => .bool b
  | .int i => .int i
  | .str s => .str (txt s)
  | .tup xs => .tuple (toPyL xs)
  | .lst xs => .list (toPyL xs)
  | _ => .none
def toPyL : List D → List PyData
  | [] => []
  | x :: xs => toPy x :: toPyL xs
end
theorem txt_beq (a b : Txt) : ((txt a) == (txt b)) = (a == b) := by
  by_cases h : a = b
  · subst h; rw [beq_self_eq_true, beq_self_eq_true]
  · have : txt a ≠ txt b := fun e => h (txt_inj e)
    rw [beq_eq_false_iff_ne.mpr this, beq_eq_false_iff_ne.mpr h]
mutual
theorem eqv_toPy : ∀ (x y : D) (n m : Nat), isDataN x n = true → isDataN y m = true → PyData.eqv (toPy x) (toPy y) = eqD x y
  | .tup xs, .tup ys, n, m, hx, hy => by
    simp only [isDataN, Bool.and_eq_true] at hx hy
    simp only [toPy, PyData.eqv, eqD]
    exact eqv_toPyL xs ys _ _ hx.2 hy.2
  | .lst xs, .lst ys, n, m, hx, hy => by
    simp only [isDataN, Bool.and_eq_true] at hx hy
    simp only [toPy, PyData.eqv, eqD]
    exact eqv_toPyL xs ys _ _ hx.2 hy.2
  | .str a, .str b, _, _, _, _ => by simp only [toPy, PyData.eqv, eqD, txt_beq]
  | .non, y, _, _, _, hy => by cases y <;> simp [toPy, PyData.eqv, eqD, isDataN] at hy ⊢
  | .bl _, y, _, _, _, hy => by cases y <;> simp [toPy, PyData.eqv, eqD, isDataN] at hy ⊢
  | .int _, y, _, _, _, hy => by cases y <;> simp [toPy, PyData.eqv, eqD, isDataN] at hy ⊢
  | .str _, .non, _, _, _, _ => by simp [toPy, PyData.eqv, eqD]
  | .str _, .bl _, _, _, _, _ => by simp [toPy, PyData.eqv, eqD]
  | .str _, .int _, _, _, _, _ => by simp [toPy, PyData.eqv, eqD]
  | .str _, .tup _, _, _, _, _ => by simp [toPy, PyData.eqv, eqD]
  | .str _, .lst _, _, _, _, _ => by simp [toPy, PyData.eqv, eqD]
  | .tup _, .non, _, _, _, _ => by simp [toPy, PyData.eqv, eqD]
  | .tup _, .bl _, _, _, _, _ => by simp [toPy, PyData.eqv, eqD]
  | .tup _, .int _, _, _, _, _ => by simp [toPy, PyData.eqv, eqD]
  | .tup _, .str _, _, _, _, _ => by simp [toPy, PyData.eqv, eqD]
  | .tup _, .lst _, _, _, _, _ => by simp [toPy, PyData.eqv, eqD]
  | .lst _, .non, _, _, _, _ => by simp [toPy, PyData.eqv, eqD]
  | .lst _, .bl _, _, _, _, _ => by simp [toPy, PyData.eqv, eqD]
  | .lst _, .int _, _, _, _, _ => by simp [toPy, PyData.eqv, eqD]
  | .lst _, .str _, _, _, _, _ => by simp [toPy, PyData.eqv, eqD]
  | .lst _, .tup _, _, _, _, _ => by simp [toPy, PyData.eqv, eqD]
  | x, .set _, _, _, _, hy => by simp [isDataN] at hy
  | x, .itr _, _, _, _, hy => by simp [isDataN] at hy
  | x, .dct _ _, _, _, _, hy => by simp [isDataN] at hy
  | x, .ob _, _, _, _, hy => by simp [isDataN] at hy
  | x, .exc _ _, _, _, _, hy => by simp [isDataN] at hy
  | .set _, _, _, _, hx, _ => by simp [isDataN] at hx
  | .itr _, _, _, _, hx, _ => by simp [isDataN] at hx
  | .dct _ _, _, _, _, hx, _ => by simp [isDataN] at hx
  | .ob _, _, _, _, hx, _ => by simp [isDataN] at hx
  | .exc _ _, _, _, _, hx, _ => by simp [isDataN] at hx
theorem eqv_toPyL : ∀ (xs ys : List D) (n m : Nat), isDataL xs n = true → isDataL ys m = true → PyData.eqvAll (toPyL xs) (toPyL ys) = eqDL xs ys
  | [], [], _, _, _, _ => by simp [toPyL, PyData.eqvAll, eqDL]
  | [], _ :: _, _, _, _, _ => by simp [toPyL, PyData.eqvAll, eqDL]
  | _ :: _, [], _, _, _, _ => by simp [toPyL, PyData.eqvAll, eqDL]
  | x :: xs, y :: ys, n, m, hx, hy => by
    simp only [isDataL, Bool.and_eq_true] at hx hy
    simp only [toPyL, PyData.eqvAll, eqDL]
    rw [eqv_toPy x y n m hx.1 hy.1, eqv_toPyL xs ys n m hx.2 hy.2]
end
mutual
theorem canLay_of : ∀ (x : D) (n : Nat), isDataN x n = true → (toPy x).canLay0 = true ∧ (toPy x).depth ≤ n
  | .non, _, _ => by simp [toPy, PyData.canLay0, PyData.depth]
  | .bl _, _, _ => by simp [toPy, PyData.canLay0, PyData.depth]
  | .int _, _, _ => by simp [toPy, PyData.canLay0, PyData.depth]
  | .str s, _, h => by
    simp only [isDataN] at h
    simp only [toPy, PyData.canLay0, PyData.depth]
    refine ⟨?_, Nat.zero_le _⟩
    unfold PyData.strOk txt
    simpa using h
  | .tup xs, n, h => by
    simp only [isDataN, Bool.and_eq_true, decide_eq_true_eq] at h
    have := canLay_ofL xs (n - 1) h.2
    simp only [toPy, PyData.canLay0, PyData.depth]
    exact ⟨this.1, by omega⟩
  | .lst xs, n, h => by
    simp only [isDataN, Bool.and_eq_true, decide_eq_true_eq] at h
    have := canLay_ofL xs (n - 1) h.2
    simp only [toPy, PyData.canLay0, PyData.depth]
    exact ⟨this.1, by omega⟩
  | .set _, _, h => by simp [isDataN] at h
  | .itr _, _, h => by simp [isDataN] at h
  | .dct _ _, _, h => by simp [isDataN] at h
  | .ob _, _, h => by simp [isDataN] at h
  | .exc _ _, _, h => by simp [isDataN] at h
theorem canLay_ofL : ∀ (xs : List D) (n : Nat), isDataL xs n = true → PyData.canLayAll0 (toPyL xs) = true ∧ PyData.depthAll (toPyL xs) ≤ n
  | [], _, _ => by simp [toPyL, PyData.canLayAll0, PyData.depthAll]
  | x :: xs, n, h => by
    simp only [isDataL, Bool.and_eq_true] at h
    have h1 := canLay_of x n h.1
    have h2 := canLay_ofL xs n h.2
    simp only [toPyL, PyData.canLayAll0, PyData.depthAll, Bool.and_eq_true]
    exact ⟨⟨h1.1, h2.1⟩, by omega⟩
end
theorem shaped_of {x : D} (h : isData x = true) : SeqAt.shaped (toPy x) = true := by
  have := canLay_of x 60 h
  unfold SeqAt.shaped
  simp only [Bool.and_eq_true, decide_eq_true_eq]
  exact ⟨this.1, by omega⟩
mutual
theorem dp_of {K : PySem.W.Frag} {H : Hp} : ∀ (x : D) (n : Nat) (v : V), isDataN x n = true → RF K H x v → Dp K H v (toPy x)
  | .non, _, _, _, h => by obtain rfl := rf_non h; simp only [toPy]; exact .non
  | .bl _, _, _, _, h => by obtain rfl := rf_bl h; simp only [toPy]; exact .bl _
  | .int _, _, _, _, h => by obtain rfl := rf_int h; simp only [toPy]; exact .int _
  | .str _, _, _, _, h => by obtain rfl := rf_str h; simp only [toPy]; exact .str _
  | .tup xs, n, v, hd, h => by
    simp only [RF] at h
    obtain ⟨a, vs, rfl, q, r⟩ := h
    simp only [isDataN, Bool.and_eq_true] at hd
    simp only [toPy]
    exact .tup q (dp_ofL xs _ vs hd.2 r)
  | .lst xs, n, v, hd, h => by
    simp only [RF] at h
    obtain ⟨a, vs, rfl, q, r⟩ := h
    simp only [isDataN, Bool.and_eq_true] at hd
    simp only [toPy]
    exact .lst (.inl q) (dp_ofL xs _ vs hd.2 r)
  | .set _, _, _, h, _ => by simp [isDataN] at h
  | .itr _, _, _, h, _ => by simp [isDataN] at h
  | .dct _ _, _, _, h, _ => by simp [isDataN] at h
  | .ob _, _, _, h, _ => by simp [isDataN] at h
  | .exc _ _, _, _, h, _ => by simp [isDataN] at h
theorem dp_ofL {K : PySem.W.Frag} {H : Hp} : ∀ (xs : List D) (n : Nat) (vs : List V), isDataL xs n = true → RFL K H xs vs → DpAll K H vs (toPyL xs)
  | [], _, _, _, h => by simp only [RFL] at h; subst h; simp only [toPyL]; exact .nil
  | x :: xs, n, vs, hd, h => by
    simp only [RFL] at h
    obtain ⟨w, ws, rfl, q, r⟩ := h
    simp only [isDataL, Bool.and_eq_true] at hd
    simp only [toPyL]
    exact .cons (dp_of x n w hd.1 q) (dp_ofL xs n ws hd.2 r)
end
def blR (g : D → D → Option Bool) : D → D → Option D := fun x y => (g x y).map .bl
theorem scal_eq {K : PySem.W.Frag} {H : Hp} {x y : D} {v u : V} (h : scalD x y = true) (h1 : RF K H x v) (h2 : RF K H y u) : scal v u = true ∧ decide (v = u) = eqD x y := by
  cases x <;> cases y <;> simp [scalD] at h <;> simp only [RF] at h1 h2 <;> subst h1 h2 <;> first
    | (refine ⟨rfl, ?_⟩; simp [eqD]; done)
    | (refine ⟨rfl, ?_⟩; rw [txt_dec]; simp [eqD]; done)
    | (refine ⟨rfl, ?_⟩; simp only [eqD]; rw [Bool.eq_iff_iff]; simp)
theorem g_eq (hu : X.A.units + 64 < cLine) : OpR X (compareOp .Eq) (rG X.K (blR (cp .eq))) := by
  refine (OpR.or op_eq (op_eqD hu)).imp fun v u H Q ⟨x, y, d, h1, h2, h3, h4⟩ => ?_
  simp only [blR, cp] at h3
  split at h3 <;> simp only [Option.map_some, Option.map_none, reduceCtorEq, Option.some.injEq] at h3
  rename_i hc
  subst h3
  by_cases hs : scalD x y = true
  · obtain ⟨e1, e2⟩ := scal_eq hs h1 h2
    exact .inl ⟨e1, by rw [e2]; exact h4 _ mk_bl⟩
  · simp only [hs, Bool.false_or, Bool.and_eq_true, Bool.or_eq_true, false_or] at hc
    refine .inr ⟨toPy x, toPy y, dp_of x 60 v hc.1 h1, dp_of y 60 u hc.2 h2, shaped_of hc.1, shaped_of hc.2, ?_⟩
    rw [eqv_toPy x y 60 60 hc.1 hc.2]
    exact h4 _ mk_bl
theorem g_ne (hu : X.A.units + 64 < cLine) : OpR X (compareOp .NotEq) (rG X.K (blR (cp .ne))) := by
  refine (OpR.or op_ne (op_neD hu)).imp fun v u H Q ⟨x, y, d, h1, h2, h3, h4⟩ => ?_
  simp only [blR, cp] at h3
  split at h3 <;> simp only [Option.map_some, Option.map_none, reduceCtorEq, Option.some.injEq] at h3
  rename_i hc
  subst h3
  by_cases hs : scalD x y = true
  · obtain ⟨e1, e2⟩ := scal_eq hs h1 h2
    exact .inl ⟨e1, by rw [e2]; exact h4 _ mk_bl⟩
  · simp only [hs, Bool.false_or, Bool.and_eq_true, Bool.or_eq_true, false_or] at hc
    refine .inr ⟨toPy x, toPy y, dp_of x 60 v hc.1 h1, dp_of y 60 u hc.2 h2, shaped_of hc.1, shaped_of hc.2, ?_⟩
    rw [eqv_toPy x y 60 60 hc.1 hc.2]
    exact h4 _ mk_bl
theorem g_cmpI {op : CmpOp} {p : Int → Int → Bool} (h : OpR X (compareOp op) (rI0 fun i j => .bl (p i j))) : OpR X (compareOp op) (rG X.K (blR (cmpI p))) := by
  refine h.imp fun v u H Q ⟨x, y, d, h1, h2, h3, h4⟩ => ?_
  cases x <;> cases y <;> simp only [blR, cmpI, Option.map_some, Option.map_none, reduceCtorEq, Option.some.injEq] at h3
  obtain rfl := rf_int h1; obtain rfl := rf_int h2; subst h3
  exact ⟨_, _, rfl, rfl, h4 _ mk_bl⟩
/-- is with None, with a bool -/
theorem op_isB2 : OpR X (compareOp .Is) (fun x y H Q => ∃ b : Bool, y = .bl b ∧ (∃ a, x = .ref a) ∧ Q (.bl false) H) := by
  intro pins s σ H x y v u Q I rx ry h
  obtain ⟨b, rfl, ⟨a, rfl⟩, q⟩ := h
  cases (show u = Value.bool b from ry)
  cases (show v = Value.ref a from rx)
  exact wpAny_is_other rfl (fun z => nomatch z) ⟨.bl false, H, I, rfl, q⟩
theorem op_isB3 : OpR X (compareOp .Is) (fun x y H Q => ∃ b : Bool, y = .bl b ∧ (x = .non ∨ (∃ i, x = .int i) ∨ ∃ z, x = .str z) ∧ Q (.bl false) H) := by
  intro pins s σ H x y v u Q I rx ry h
  obtain ⟨b, rfl, hx, q⟩ := h
  cases (show u = Value.bool b from ry)
  rcases hx with rfl | ⟨i, rfl⟩ | ⟨z, rfl⟩
  · cases (show v = Value.none from rx)
    exact wpAny_is_other rfl (fun z => nomatch z) ⟨.bl false, H, I, rfl, q⟩
  · obtain ⟨t, rfl⟩ := (show ∃ t, v = Value.int i t from rx)
    exact wpAny_is_other rfl (fun z => nomatch z) ⟨.bl false, H, I, rfl, q⟩
  · obtain ⟨t, rfl⟩ := (show ∃ t, v = Value.str z t from rx)
    exact wpAny_is_other rfl (fun z => nomatch z) ⟨.bl false, H, I, rfl, q⟩
theorem op_isnB2 : OpR X (compareOp .IsNot) (fun x y H Q => ∃ b : Bool, y = .bl b ∧ (∃ a, x = .ref a) ∧ Q (.bl true) H) := by
  intro pins s σ H x y v u Q I rx ry h
  obtain ⟨b, rfl, ⟨a, rfl⟩, q⟩ := h
  cases (show u = Value.bool b from ry)
  cases (show v = Value.ref a from rx)
  exact wpAny_isNot_other rfl (fun z => nomatch z) ⟨.bl true, H, I, rfl, q⟩
theorem op_isnB3 : OpR X (compareOp .IsNot) (fun x y H Q => ∃ b : Bool, y = .bl b ∧ (x = .non ∨ (∃ i, x = .int i) ∨ ∃ z, x = .str z) ∧ Q (.bl true) H) := by
  intro pins s σ H x y v u Q I rx ry h
  obtain ⟨b, rfl, hx, q⟩ := h
  cases (show u = Value.bool b from ry)
  rcases hx with rfl | ⟨i, rfl⟩ | ⟨z, rfl⟩
  · cases (show v = Value.none from rx)
    exact wpAny_isNot_other rfl (fun z => nomatch z) ⟨.bl true, H, I, rfl, q⟩
  · obtain ⟨t, rfl⟩ := (show ∃ t, v = Value.int i t from rx)
    exact wpAny_isNot_other rfl (fun z => nomatch z) ⟨.bl true, H, I, rfl, q⟩
  · obtain ⟨t, rfl⟩ := (show ∃ t, v = Value.str z t from rx)
    exact wpAny_isNot_other rfl (fun z => nomatch z) ⟨.bl true, H, I, rfl, q⟩
theorem non_iff {K : PySem.W.Frag} {H : Hp} {x : D} {v : V} (h : RF K H x v) : decide (v = .non) = (match x with | .non => true | _ => false) := by
  cases x <;> simp only [RF] at h
  · subst h; rfl
  · subst h; rfl
  · subst h; rfl
  · subst h; rfl
  · obtain ⟨a, vs, rfl, _⟩ := h; rfl
  · obtain ⟨a, vs, rfl, _⟩ := h; rfl
theorem g_is : OpR X (compareOp .Is) (rG X.K (blR (cp .is))) := by
  refine (OpR.or (OpR.or op_isN op_isBl) (OpR.or op_isB2 op_isB3)).imp fun v u H Q ⟨x, y, d, h1, h2, h3, h4⟩ => ?_
  simp only [blR, cp] at h3
  have hn := non_iff h1
  cases y <;> (try (cases x <;> simp [isD] at h3; done))
  · obtain rfl := rf_non h2
    refine .inl (.inl ⟨rfl, ?_⟩)
    rw [hn]
    cases x <;> simp only [isD, Option.map_some, Option.some.injEq] at h3 <;> subst h3 <;> exact h4 _ mk_bl
  · obtain rfl := rf_bl h2
    cases x <;> simp only [isD, flat, Bool.true_or, Bool.or_true, Bool.false_or, if_true, Bool.false_eq_true, if_false, Option.map_some, Option.map_none, reduceCtorEq, Option.some.injEq] at h3
    · subst h3; obtain rfl := rf_non h1
      exact .inr (.inr ⟨_, rfl, .inl rfl, h4 _ mk_bl⟩)
    · subst h3; obtain rfl := rf_bl h1
      refine .inl (.inr ⟨_, _, rfl, rfl, ?_⟩)
      have := h4 _ mk_bl
      rw [Bool.beq_eq_decide_eq] at this
      exact this
    · subst h3; obtain rfl := rf_int h1
      exact .inr (.inr ⟨_, rfl, .inr (.inl ⟨_, rfl⟩), h4 _ mk_bl⟩)
    · subst h3; obtain rfl := rf_str h1
      exact .inr (.inr ⟨_, rfl, .inr (.inr ⟨_, rfl⟩), h4 _ mk_bl⟩)
    · subst h3; simp only [RF] at h1; obtain ⟨a, vs, rfl, _⟩ := h1
      exact .inr (.inl ⟨_, rfl, ⟨_, rfl⟩, h4 _ mk_bl⟩)
    · subst h3; simp only [RF] at h1; obtain ⟨a, vs, rfl, _⟩ := h1
      exact .inr (.inl ⟨_, rfl, ⟨_, rfl⟩, h4 _ mk_bl⟩)
theorem g_isn : OpR X (compareOp .IsNot) (rG X.K (blR (cp .isn))) := by
  refine (OpR.or (OpR.or op_notN op_notBl) (OpR.or op_isnB2 op_isnB3)).imp fun v u H Q ⟨x, y, d, h1, h2, h3, h4⟩ => ?_
  simp only [blR, cp] at h3
  have hn := non_iff h1
  cases y <;> (try (cases x <;> simp [isD] at h3; done))
  · obtain rfl := rf_non h2
    refine .inl (.inl ⟨rfl, ?_⟩)
    rw [hn]
    cases x <;> simp only [isD, Option.map_some, Option.some.injEq] at h3 <;> subst h3 <;> exact h4 _ mk_bl
  · obtain rfl := rf_bl h2
    cases x <;> simp only [isD, flat, Bool.true_or, Bool.or_true, Bool.false_or, if_true, Bool.false_eq_true, if_false, Option.map_some, Option.map_none, reduceCtorEq, Option.some.injEq] at h3
    · subst h3; obtain rfl := rf_non h1
      exact .inr (.inr ⟨_, rfl, .inl rfl, h4 _ mk_bl⟩)
    · subst h3; obtain rfl := rf_bl h1
      refine .inl (.inr ⟨_, _, rfl, rfl, ?_⟩)
      have := h4 _ mk_bl
      rw [Bool.beq_eq_decide_eq] at this
      exact this
    · subst h3; obtain rfl := rf_int h1
      exact .inr (.inr ⟨_, rfl, .inr (.inl ⟨_, rfl⟩), h4 _ mk_bl⟩)
    · subst h3; obtain rfl := rf_str h1
      exact .inr (.inr ⟨_, rfl, .inr (.inr ⟨_, rfl⟩), h4 _ mk_bl⟩)
    · subst h3; simp only [RF] at h1; obtain ⟨a, vs, rfl, _⟩ := h1
      exact .inr (.inl ⟨_, rfl, ⟨_, rfl⟩, h4 _ mk_bl⟩)
    · subst h3; simp only [RF] at h1; obtain ⟨a, vs, rfl, _⟩ := h1
      exact .inr (.inl ⟨_, rfl, ⟨_, rfl⟩, h4 _ mk_bl⟩)
/-! ### in -/
theorem flatV_of {K : PySem.W.Frag} {H : Hp} {x : D} {v : V} (h : RF K H x v) (f : flat x = true) : flatV v = true := by
  cases x <;> simp only [flat, Bool.false_eq_true] at f <;> simp only [RF] at h <;> subst h <;> rfl
theorem eqV_of {K : PySem.W.Frag} {H : Hp} {x y : D} {v u : V} (h : RF K H x v) (f : flat x = true) (h' : RF K H y u) (f' : flat y = true) : eqV v u = eqD x y := by
  cases x <;> simp only [flat, Bool.false_eq_true] at f <;> cases y <;> simp only [flat, Bool.false_eq_true] at f' <;> simp only [RF] at h h' <;> subst h h' <;> first
    | rfl
    | simp only [eqV, eqD, txt_beq]
    | simp [eqV, eqD]
theorem flatL_of {K : PySem.W.Frag} {H : Hp} : ∀ {xs : List D} {vs : List V}, RFL K H xs vs → xs.all flat = true → vs.all flatV = true
  | [], _, h, _ => by simp only [RFL] at h; subst h; rfl
  | x :: xs, vs, h, f => by
    simp only [RFL] at h
    obtain ⟨w, ws, rfl, q, r⟩ := h
    simp only [List.all_cons, Bool.and_eq_true] at f ⊢
    exact ⟨flatV_of q f.1, flatL_of r f.2⟩
theorem inV_of {K : PySem.W.Frag} {H : Hp} {x : D} {v : V} (h : RF K H x v) (f : flat x = true) : ∀ {xs : List D} {vs : List V}, RFL K H xs vs → xs.all flat = true → inV v vs = xs.any fun y => eqD y x
  | [], _, h, _ => by simp only [RFL] at h; subst h; rfl
  | y :: xs, vs, h', f' => by
    simp only [RFL] at h'
    obtain ⟨w, ws, rfl, q, r⟩ := h'
    simp only [List.all_cons, Bool.and_eq_true] at f'
    show (eqV w v || inV v ws) = (eqD y x || xs.any fun y => eqD y x)
    rw [eqV_of q f'.1 h f, inV_of h f r f'.2]
theorem txt_one (c : Nat) : txt [c] = ⟨#[c]⟩ := rfl
theorem mem_txt (c : Nat) (t : Txt) : decide (c ∈ (txt t).cps.toList) = t.contains c := by
  rw [txt_list]
  rw [Bool.eq_iff_iff]; simp
theorem g_in : OpR X (compareOp .In) (rG X.K (blR (cp .isin))) := by
  refine (OpR.or op_in_sign op_in_seq).imp fun v u H Q ⟨x, y, d, h1, h2, h3, h4⟩ => ?_
  simp only [blR, cp] at h3
  cases y <;> simp only [opIn, Option.map_none, reduceCtorEq] at h3
  · obtain rfl := rf_str h2
    cases x <;> try (simp only [Option.map_none, reduceCtorEq] at h3; done)
    rename_i t s
    match s, h3 with
    | [c], h3 =>
      obtain rfl := rf_str h1
      simp only [Option.map_some, Option.some.injEq] at h3
      subst h3
      refine .inl ⟨c, _, by rw [txt_one], rfl, ?_⟩
      rw [mem_txt]
      exact h4 _ mk_bl
    | [], h3 => simp at h3
    | _ :: _ :: _, h3 => simp at h3
  · split at h3 <;> simp only [Option.map_some, Option.map_none, reduceCtorEq, Option.some.injEq] at h3
    rename_i hc
    simp only [Bool.and_eq_true] at hc
    subst h3
    simp only [RF] at h2
    obtain ⟨a, vs, rfl, q, r⟩ := h2
    refine .inr ⟨a, vs, rfl, .inr q, flatV_of h1 hc.1, flatL_of r hc.2, ?_⟩
    simp only [Bool.false_eq_true, if_false]
    rw [inV_of h1 hc.1 r hc.2]
    exact h4 _ mk_bl
  · split at h3 <;> simp only [Option.map_some, Option.map_none, reduceCtorEq, Option.some.injEq] at h3
    rename_i hc
    simp only [Bool.and_eq_true] at hc
    subst h3
    simp only [RF] at h2
    obtain ⟨a, vs, rfl, q, r⟩ := h2
    refine .inr ⟨a, vs, rfl, .inl (.inl q), flatV_of h1 hc.1, flatL_of r hc.2, ?_⟩
    simp only [Bool.false_eq_true, if_false]
    rw [inV_of h1 hc.1 r hc.2]
    exact h4 _ mk_bl
theorem g_nin : OpR X (compareOp .NotIn) (rG X.K (blR (cp .nin))) := by
  refine (OpR.or op_notIn_sign op_notIn_seq).imp fun v u H Q ⟨x, y, d, h1, h2, h3, h4⟩ => ?_
  simp only [blR, cp] at h3
  cases y <;> simp only [opIn, Option.map_none, reduceCtorEq] at h3
  · obtain rfl := rf_str h2
    cases x <;> try (simp only [Option.map_none, reduceCtorEq] at h3; done)
    rename_i t s
    match s, h3 with
    | [c], h3 =>
      obtain rfl := rf_str h1
      simp only [Option.map_some, Option.some.injEq] at h3
      subst h3
      refine .inl ⟨c, _, by rw [txt_one], rfl, ?_⟩
      rw [mem_txt]
      exact h4 _ mk_bl
    | [], h3 => simp at h3
    | _ :: _ :: _, h3 => simp at h3
  · split at h3 <;> simp only [Option.map_some, Option.map_none, reduceCtorEq, Option.some.injEq] at h3
    rename_i hc
    simp only [Bool.and_eq_true] at hc
    subst h3
    simp only [RF] at h2
    obtain ⟨a, vs, rfl, q, r⟩ := h2
    refine .inr ⟨a, vs, rfl, .inr q, flatV_of h1 hc.1, flatL_of r hc.2, ?_⟩
    simp only [if_true]
    rw [inV_of h1 hc.1 r hc.2]
    exact h4 _ mk_bl
  · split at h3 <;> simp only [Option.map_some, Option.map_none, reduceCtorEq, Option.some.injEq] at h3
    rename_i hc
    simp only [Bool.and_eq_true] at hc
    subst h3
    simp only [RF] at h2
    obtain ⟨a, vs, rfl, q, r⟩ := h2
    refine .inr ⟨a, vs, rfl, .inl (.inl q), flatV_of h1 hc.1, flatL_of r hc.2, ?_⟩
    simp only [if_true]
    rw [inV_of h1 hc.1 r hc.2]
    exact h4 _ mk_bl
def cpOf : Cp → CmpOp
  | .eq => .Eq
  | .ne => .NotEq
  | .lt => .Lt
  | .le => .LtE
  | .gt => .Gt
  | .ge => .GtE
  | .is => .Is
  | .isn => .IsNot
  | .isin => .In
  | .nin => .NotIn
theorem g_cp (hu : X.A.units + 64 < cLine) (o : Cp) : OpR X (compareOp (cpOf o)) (rG X.K (blR (cp o))) := by
  cases o with
  | eq => exact g_eq hu
  | ne => exact g_ne hu
  | lt => exact g_cmpI op_lt
  | le => exact g_cmpI op_le
  | gt => exact g_cmpI op_gt
  | ge => exact g_cmpI op_ge
  | is => exact g_is
  | isn => exact g_isn
  | isin => exact g_in
  | nin => exact g_nin
end
end Z

/-! Z5: SE of constants, locals, operators, tests, subscripts, displays. -/
namespace Z
open PySem L2
section
variable {X : Cx} {T : Tb} {W : WX} {kp : List Nat}
/-! ### constants, locals -/
theorem se_const {x : Expr} {d : D} {v : V} {q : Bool} {Γ : Gm} {m : Nat} (h : PE X x (tC v)) (fl : flat d = true) (r : ∀ H, RF T.K H d v) : SE X T W kp q (fun e => .ok d e) x Γ m Γ := by
  refine PE.mono h fun σ H Q h => ?_
  obtain ⟨e, F, fp, s, h⟩ := h
  exact h F H fp v emp (Go.refl s) (Val.flat fl (r H))
theorem lvOf_set {Γ : Gm} {i j n : Nat} (hi : i < Γ.length) : lvOf (Γ.set i n) j = if j = i then n else lvOf Γ j := by
  unfold lvOf
  by_cases h : j = i
  · subst h; rw [if_pos rfl]; simp [List.getD_eq_getElem?_getD, List.getElem?_set, hi]
  · rw [if_neg h]; simp [List.getD_eq_getElem?_getD, List.getElem?_set, Ne.symm h]
theorem lvOf_lt {Γ : Gm} {i : Nat} (h : 1 ≤ lvOf Γ i) : i < Γ.length := by
  unfold lvOf at h
  rw [List.getD_eq_getElem?_getD] at h
  cases e : Γ[i]? with
  | none => rw [e] at h; simp at h
  | some n => exact (List.getElem?_eq_some_iff.mp e).1
/-- a local comes down to level m, its cells g given up -/
def putF (fp : Nat → AS) (i : Nat) (f : AS) : Nat → AS := fun j => if j = i then f else fp j
theorem own_putF {fp : Nat → AS} {i : Nat} {f : AS} {a : Addr} (h : Own (putF fp i f) a) : f a ∨ ∃ j, j ≠ i ∧ fp j a := by
  obtain ⟨j, h⟩ := h
  unfold putF at h
  split at h
  · exact .inl h
  · rename_i hj; exact .inr ⟨j, hj, h⟩
theorem St.cells {K : PySem.W.Frag} {Γ : Gm} {e : List D} {σ : L2.St} {F H : Hp} {fp : Nat → AS} (s : St K Γ e σ F H fp) {a : Addr} (h : Own fp a) : F a = none ∧ H a ≠ none := by
  obtain ⟨i, hi⟩ := h
  by_cases h0 : lvOf Γ i = 0
  · rw [s.dead i h0] at hi; exact hi.elim
  · obtain ⟨d, v, _, _, r⟩ := s.at_ i (by omega)
    exact RO.cells d _ v _ r a hi
/-- .. and the rest stays -/
theorem St.low {K : PySem.W.Frag} {Γ : Gm} {e : List D} {σ : L2.St} {F H : Hp} {fp : Nat → AS} (s : St K Γ e σ F H fp) {i m : Nat} (h1 : 1 ≤ m) (hm : m ≤ lvOf Γ i) :
    ∃ F' fp', St K (Γ.set i m) e σ F' H fp' ∧ Ch (Own fp) emp F H F' H ∧ (∀ a, Own fp' a → Own fp a) ∧ (∀ j, j ≠ i → fp' j = fp j) ∧ ∀ a, fp' i a → fp i a := by
  have hi := lvOf_lt (Nat.le_trans h1 hm)
  obtain ⟨d, v, e1, e2, r⟩ := s.at_ i (Nat.le_trans h1 hm)
  obtain ⟨g, f', hs, hd, r'⟩ := RO.weak s.sub d _ m v _ h1 hm r
  have hg : ∀ a, g a → F a = none := fun a ha => (s.cells ⟨i, (hs a).mpr (.inl ha)⟩).1
  refine ⟨frz F H g, putF fp i f', ⟨frz_le s.sub, by rw [List.length_set]; exact s.lG, s.le, fun j hj => ?_, fun j l hjl a h1 h2 => ?_, fun j hj => ?_⟩, ⟨frz_sub hg, fun _ _ h _ => h, fun a h h' => ?_⟩, fun a h => ?_, fun j hj => by unfold putF; rw [if_neg hj], fun a ha => ?_⟩
  · rw [lvOf_set hi] at hj ⊢
    by_cases hji : j = i
    · subst hji
      rw [if_pos rfl]
      refine ⟨d, v, e1, e2, ?_⟩
      unfold putF; rw [if_pos rfl]; exact r'
    · rw [if_neg hji] at hj ⊢
      obtain ⟨d2, v2, e3, e4, r2⟩ := s.at_ j hj
      refine ⟨d2, v2, e3, e4, ?_⟩
      unfold putF; rw [if_neg hji]
      exact RO.kept d2 _ v2 _ (frz_kept hg fun a z1 z2 => s.dis j i hji a z1 ((hs a).mpr (.inl z2))) r2
  · unfold putF at h1 h2
    split at h1 <;> split at h2
    · rename_i a1 a2; exact hjl (a1.trans a2.symm)
    · rename_i a1 a2; exact s.dis i l (fun z => a2 z.symm) a ((hs a).mpr (.inr h1)) h2
    · rename_i a1 a2; exact s.dis j i a1 a h1 ((hs a).mpr (.inr h2))
    · exact s.dis j l hjl a h1 h2
  · rw [lvOf_set hi] at hj
    by_cases hji : j = i
    · rw [if_pos hji] at hj; omega
    · rw [if_neg hji] at hj
      unfold putF; rw [if_neg hji]; exact s.dead j hj
  · refine .inl ⟨i, ?_⟩
    by_cases hga : g a
    · exact (hs a).mpr (.inl hga)
    · rw [frz_out hga] at h'; exact absurd h h'
  · rcases own_putF h with h | ⟨j, _, h⟩
    · exact ⟨i, (hs a).mpr (.inr h)⟩
    · exact ⟨j, h⟩
  · unfold putF at ha; rw [if_pos rfl] at ha; exact (hs a).mpr (.inr ha)
/-- a local is given away -/
theorem St.kill {K : PySem.W.Frag} {Γ : Gm} {e : List D} {σ : L2.St} {F H : Hp} {fp : Nat → AS} (s : St K Γ e σ F H fp) {i : Nat} (hi : i < Γ.length) : St K (Γ.set i 0) e σ F H (putF fp i emp) := by
  refine ⟨s.sub, by rw [List.length_set]; exact s.lG, s.le, fun j hj => ?_, fun j l hjl a h1 h2 => ?_, fun j hj => ?_⟩
  · rw [lvOf_set hi] at hj ⊢
    by_cases hji : j = i
    · rw [if_pos hji] at hj; omega
    · rw [if_neg hji] at hj ⊢
      unfold putF; rw [if_neg hji]; exact s.at_ j hj
  · unfold putF at h1 h2
    split at h1
    · exact h1
    · split at h2
      · exact h2
      · exact s.dis j l hjl a h1 h2
  · rw [lvOf_set hi] at hj
    unfold putF
    split
    · rfl
    · rename_i hji; rw [if_neg hji] at hj; exact s.dead j hj
theorem rd_v {q : Bool} {Γ : Gm} {i : Nat} (h1 : 1 ≤ lvOf Γ i) : ∀ σ H Q, rdE T W kp q (fun e => R.lift (e.get i) e) Γ 1 (Γ.set i 1) σ H Q → tVar i σ H Q := fun σ H Q h => by
  obtain ⟨e, F, fp, s, h⟩ := h
  obtain ⟨d, v, e1, e2, r⟩ := s.at_ i h1
  refine ⟨v, e2, ?_⟩
  have e1' : e.get i = some d := e1
  simp only [e1', R.lift_some] at h
  obtain ⟨F', fp', s', c, o, _, hf⟩ := s.low (Nat.le_refl 1) h1
  have hi := lvOf_lt h1
  obtain ⟨d2, v2, e3, e4, r2⟩ := s'.at_ i (by rw [lvOf_set hi, if_pos rfl]; exact Nat.le_refl 1)
  rw [e1] at e3; cases e3
  rw [e2] at e4; cases e4
  rw [lvOf_set hi, if_pos rfl] at r2
  obtain ⟨r3, hfe⟩ := RO.to1 (Nat.le_refl 1) r2
  refine h F' H fp' v emp ⟨fun _ => rfl, s', fun _ z => z.elim, c.mono (fun _ z => z) fun _ z => z.elim, fun a z => ?_⟩ (Val.of (by decide) ?_)
  · rcases z with z | z
    · exact .inl (o a z)
    · exact z.elim
  · exact RO.of1 (Nat.le_refl 1) r3
theorem se_v {x : Expr} {q : Bool} {Γ : Gm} {i : Nat} (h : PE X x (tVar i)) (h1 : 1 ≤ lvOf Γ i) : SE X T W kp q (fun e => R.lift (e.get i) e) x Γ 1 (Γ.set i 1) := PE.mono h (rd_v h1)
theorem se_mv {q : Bool} {x : Expr} {Γ : Gm} {i : Nat} (h : PE X x (tVar i)) (h1 : 1 ≤ lvOf Γ i) : SE X T W kp q (fun e => R.lift (e.get i) e) x Γ (lvOf Γ i) (Γ.set i 0) := by
  refine PE.mono h fun σ H Q h => ?_
  obtain ⟨e, F, fp, s, h⟩ := h
  obtain ⟨d, v, e1, e2, r⟩ := s.at_ i h1
  refine ⟨v, e2, ?_⟩
  have e1' : e.get i = some d := e1
  simp only [e1', R.lift_some] at h
  have hi := lvOf_lt h1
  refine h F H _ v (fp i) ⟨fun _ => rfl, s.kill hi, fun a z1 z2 => ?_, .refl, fun a z => ?_⟩ (Val.of (by omega) r)
  · rcases own_putF z2 with z | ⟨j, hj, z⟩
    · exact z
    · exact s.dis i j (Ne.symm hj) a z1 z
  · rcases z with z | z
    · rcases own_putF z with z | ⟨j, hj, z⟩
      · exact z.elim
      · exact .inl ⟨j, z⟩
    · exact .inl ⟨i, z⟩
theorem se_pk {x : Expr} {q : Bool} {Γ : Gm} {i m : Nat} (h : PE X x (tVar i)) (h1 : 1 ≤ lvOf Γ i) (hm : m = if lvOf Γ i = 1 then 1 else 0) : SE X T W kp q (fun e => R.lift (e.get i) e) x Γ m Γ := by
  refine PE.mono h fun σ H Q h => ?_
  obtain ⟨e, F, fp, s, h⟩ := h
  obtain ⟨d, v, e1, e2, r⟩ := s.at_ i h1
  refine ⟨v, e2, ?_⟩
  have e1' : e.get i = some d := e1
  simp only [e1', R.lift_some] at h
  refine h F H fp v emp (Go.refl s) ?_
  by_cases hl : lvOf Γ i = 1
  · rw [if_pos hl] at hm
    subst hm
    rw [hl] at r
    exact Val.of (by decide) (RO.of1 (Nat.le_refl 1) (RO.to1 (Nat.le_refl 1) r).1)
  · rw [if_neg hl] at hm
    subst hm
    unfold Val
    rw [if_pos rfl]
    exact ⟨RO.rf s.sub d _ v _ r, rfl⟩
/-! ### two operands -/
/-- behind two operands: what holds -/
theorem rd_two {q1 q2 : Bool} {ra rb : Env → R D} {Γ Γ1 Γ2 : Gm} {m n : Nat} {g : D → D → Option D} {mo : Nat} {σ : L2.St} {H : Hp} {Q : VK} {rr : R2} (hm : own m = true ∨ q2 = true)
    (h : rdE T W kp (q1 && q2) (fun e => (ra e).bind fun x e1 => (rb e1).bind fun y e2 => R.lift (g x y) e2) Γ mo Γ2 σ H Q)
    (rule : ∀ F H' x y v u f d, Sub F H' → ValL T.K F H' [m, n] [x, y] [v, u] f → g x y = some d →
      (∀ F2 H2 w f2, Sub F2 H2 → Sub F F2 → Sub H' H2 → (∀ a, F a = none → F2 a ≠ none → f a ∨ H' a = none) → (∀ a, f2 a → f a ∨ H' a = none) → Val T.K mo F2 H2 d w f2 → Q w H2) → rr v u H' Q) :
    tOp rr (rdE T W kp q1 ra Γ m Γ1) (rdE T W kp q2 rb Γ1 n Γ2) σ H Q := by
  obtain ⟨e, F, fp, s, h⟩ := h
  refine ⟨e, F, fp, s, ?_⟩
  dsimp only at h
  cases e1 : ra e with
  | bad => rw [e1] at h; exact h
  | exc y e' => rw [e1] at h; exact h
  | ok x e' =>
    rw [e1] at h
    simp only [R.bind_ok] at h
    intro F1 H1 fp1 v f1 g1 val1
    refine ⟨e', F1, fp1, g1.st, ?_⟩
    cases e2 : rb e' with
    | bad => rw [e2] at h; exact h
    | exc y e2' => rw [e2] at h; exact XW.back h g1
    | ok y e2' =>
      rw [e2] at h
      simp only [R.bind_ok] at h
      intro F2 H2 fp2 u f2 g2 val2
      cases hg : g x y with
      | none => rw [hg] at h; exact h.elim
      | some d =>
        rw [hg] at h
        simp only [R.lift_some] at h
        have gg := Go.trans g1 g2 val1.cells
        have dis12 : Dis f1 f2 := fun a z1 z2 => by
          rcases g2.grow a (.inr z2) with z | z
          · exact g1.dis a z1 z
          · exact (val1.cells a z1).2 z
        refine rule F2 H2 x y v u (fun a => f1 a ∨ f2 a) d g2.st.sub ⟨v, [u], f1, f2, rfl, val1.stay g2.ch g1.dis hm (hm.imp own_ne id), ⟨u, [], f2, emp, rfl, val2, ⟨rfl, rfl⟩, fun _ _ z => z, by funext a; simp [emp]⟩, dis12, rfl⟩ hg ?_
        intro F3 H3 w f3 s3 sF sH nw gr vw
        have hcell : ∀ a, (f1 a ∨ f2 a) → F2 a = none ∧ H2 a ≠ none := fun a z => by
          rcases z with z | z
          · have k := g2.ch.kept (fun _ z => z.2) g1.dis val1.cells
            exact ⟨k.out a z (val1.cells a z).1, by rw [k.at_ a z]; exact (val1.cells a z).2⟩
          · exact val2.cells a z
        refine h F3 H3 fp2 w f3 ⟨gg.same, ⟨s3, gg.st.lG, gg.st.le, fun i hi => ?_, gg.st.dis, gg.st.dead⟩, fun a z1 z2 => ?_, ?_, fun a z => ?_⟩ vw
        · obtain ⟨d2, v2, e3, e4, r2⟩ := gg.st.at_ i hi
          refine ⟨d2, v2, e3, e4, RO.kept d2 _ v2 _ ⟨sF, fun a ha => ?_, fun a ha hn => ?_⟩ r2⟩
          · have := (gg.st.cells ⟨i, ha⟩).2
            cases eh : H2 a with
            | none => exact absurd eh this
            | some z => exact sH a z eh
          · cases ef : F3 a with
            | none => rfl
            | some z =>
              rcases nw a hn (by rw [ef]; simp) with y | y
              · exact (gg.dis a y ⟨i, ha⟩).elim
              · exact ((gg.st.cells ⟨i, ha⟩).2 y).elim
        · rcases gr a z1 with z | z
          · exact gg.dis a z z2
          · exact (gg.st.cells z2).2 z
        · refine ⟨gg.ch.sub.trans sF, fun a z hz hw => sH a z (gg.ch.keep a z hz hw), fun a z z' => ?_⟩
          cases ef : F2 a with
          | some y => exact gg.ch.new a z (by rw [ef]; simp)
          | none =>
            rcases nw a ef z' with y | y
            · exact gg.grow a (.inr y)
            · exact Grow.none (f := emp) (g := emp) gg.ch (fun _ z => z.2) y
        · rcases z with z | z
          · exact gg.grow a (.inl z)
          · rcases gr a z with z | z
            · exact gg.grow a (.inr z)
            · exact Grow.none (f := emp) (g := emp) gg.ch (fun _ z => z.2) z
theorem rd_flat2 {q1 q2 : Bool} {ra rb : Env → R D} {Γ Γ1 Γ2 : Gm} {m n mo : Nat} {g : D → D → Option D} {σ : L2.St} {H : Hp} {Q : VK} (hm : own m = true ∨ q2 = true) (fl : ∀ x y d, g x y = some d → flat d = true)
    (h : rdE T W kp (q1 && q2) (fun e => (ra e).bind fun x e1 => (rb e1).bind fun y e2 => R.lift (g x y) e2) Γ mo Γ2 σ H Q) :
    tOp (rG T.K g) (rdE T W kp q1 ra Γ m Γ1) (rdE T W kp q2 rb Γ1 n Γ2) σ H Q := by
  refine rd_two hm h fun F H' x y v u f d s val hg k => ?_
  obtain ⟨w1, ws, g1, g2, e1, v1, v2, _, rfl⟩ := val
  cases e1
  obtain ⟨w2, ws2, g3, g4, e2, v3, _⟩ := v2
  cases e2
  exact ⟨x, y, d, v1.rf s, v3.rf s, hg, fun w rw_ => k F H' w emp s (Sub.refl F) (Sub.refl H') (fun a z z' => (z' z).elim) (fun a z => z.elim) (Val.flat (fl x y d hg) rw_)⟩
theorem se_op {q1 q2 : Bool} {ra rb : Env → R D} {a b : Expr} {pos : Pos} {Γ Γ1 Γ2 : Gm} {m n mo : Nat} {o : O2} (hK : X.K = T.K) (ha : SE X T W kp q1 ra a Γ m Γ1) (hb : SE X T W kp q2 rb b Γ1 n Γ2) (hm : own m = true ∨ q2 = true) :
    SE X T W kp (q1 && q2) (fun e => (ra e).bind fun x e1 => (rb e1).bind fun y e2 => R.lift (op2 o x y) e2) (.BinOp a (opOf o) b pos) Γ mo Γ2 :=
  PE.mono (pe_op (hK ▸ g_op2 o) ha hb) fun _ _ _ h => rd_flat2 hm (fun _ _ _ e => flat_op2 e) h
theorem flat_bl {g : D → D → Option Bool} : ∀ x y d, blR g x y = some d → flat d = true := fun x y d h => by
  unfold blR at h
  cases e : g x y with
  | none => rw [e] at h; cases h
  | some b => rw [e] at h; cases h; rfl
theorem mark_of {o : Cp} {b : Expr} (h : o = .isin ∨ o = .nin → behindInMarks (cpOf o) b = false) : behindInMarks (cpOf o) b = false := by
  cases o with
  | isin => exact h (.inl rfl)
  | nin => exact h (.inr rfl)
  | _ => exact nobehind b (by simp [cpOf]) (by simp [cpOf])
theorem se_cmp {q1 q2 : Bool} {ra rb : Env → R D} {a b : Expr} {pos : Pos} {Γ Γ1 Γ2 : Gm} {m n mo : Nat} {o : Cp} (hu : X.A.units + 64 < cLine) (hK : X.K = T.K) (ha : SE X T W kp q1 ra a Γ m Γ1) (hb : SE X T W kp q2 rb b Γ1 n Γ2) (hm : own m = true ∨ q2 = true)
    (hk : behindInMarks (cpOf o) b = false) :
    SE X T W kp (q1 && q2) (fun e => (ra e).bind fun x e1 => (rb e1).bind fun y e2 => R.lift ((cp o x y).map .bl) e2) (.Compare a [cpOf o] [b] pos) Γ mo Γ2 :=
  PE.mono (pe_cmpR (hK ▸ g_cp hu o) ha hb hk) fun _ _ _ h => rd_flat2 (g := blR (cp o)) hm flat_bl h
/-! ### tests -/
end
section
variable (T : Tb) (W : WX) (kp : List Nat)
def rdT (q : Bool) (r : Env → R D) (Γ : Gm) (Γ' : Gm) : TT := fun σ H Q => ∃ e F fp, St T.K Γ e.s σ F H fp ∧ match r e with
  | .ok d e' => (match truth d with
    | some b => ∀ F' H' fp', Go T.K q Γ' σ F H fp e.s e'.s F' H' fp' emp → Q b H'
    | none => False)
  | .exc x e' => XW T W kp σ F H fp x e'.s
  | .bad => False
end
def ST (X : Cx) (T : Tb) (W : WX) (kp : List Nat) (q : Bool) (r : Env → R D) (x : Expr) (Γ : Gm) (Γ' : Gm) : Prop := PT X x (rdT T W kp q r Γ Γ')
def SW (X : Cx) (T : Tb) (W : WX) (kp : List Nat) (q : Bool) (r : Env → R D) (x : Expr) (Γ : Gm) (Γ' : Gm) : Prop := PW X x (rdT T W kp q r Γ Γ')
theorem PW.mono {X : Cx} {x : Expr} {t t' : TT} (h : PW X x t) (m : ∀ σ H Q, t' σ H Q → t σ H Q) : PW X x t' := ⟨fun wh pins s σ H Q I z => h.run wh pins s σ H Q I (m σ H Q z)⟩
theorem tru_of {K : PySem.W.Frag} {H : Hp} {d : D} {v : V} {b : Bool} (h : RF K H d v) (t : truth d = some b) : TruV K v H b := by
  cases d <;> simp only [truth, reduceCtorEq, Option.some.injEq] at t <;> (try simp only [RF] at h)
  · subst h t; rfl
  · subst h t; rfl
  · subst h t; rfl
  · split at t <;> simp only [reduceCtorEq, Option.some.injEq] at t
    rename_i hl
    subst h t
    refine ⟨?_, ?_⟩
    · rw [txt_len]; exact lim_line hl
    · rw [txt_len]
      rw [Bool.eq_iff_iff]; simp
  · obtain ⟨a, vs, rfl, q, r⟩ := h
    subst t
    refine .inr (.inl ⟨vs, q, ?_⟩)
    rename_i xs
    cases xs with
    | nil => simp only [RFL] at r; subst r; rfl
    | cons x xs => simp only [RFL] at r; obtain ⟨w, ws, rfl, _⟩ := r; rfl
  · obtain ⟨a, vs, rfl, q, r⟩ := h
    subst t
    refine .inl ⟨vs, .inl q, ?_⟩
    rename_i xs
    cases xs with
    | nil => simp only [RFL] at r; subst r; rfl
    | cons x xs => simp only [RFL] at r; obtain ⟨w, ws, rfl, _⟩ := r; rfl

/-! ### levels come down -/
def leG (Γ' Γ : Gm) : Prop := Γ'.length = Γ.length ∧ ∀ i, lvOf Γ' i ≤ lvOf Γ i
theorem leG.refl (Γ : Gm) : leG Γ Γ := ⟨rfl, fun _ => Nat.le_refl _⟩
theorem leG.trans {a b c : Gm} (h : leG a b) (h' : leG b c) : leG a c := ⟨h.1.trans h'.1, fun i => Nat.le_trans (h.2 i) (h'.2 i)⟩
section
variable {K : PySem.W.Frag} {Γ Γ' : Gm} {e : List D} {σ : L2.St} {F H : Hp} {fp : Nat → AS}
theorem St.weak (s : St K Γ e σ F H fp) (h : leG Γ' Γ) : ∃ F' fp', St K Γ' e σ F' H fp' ∧ Ch (Own fp) emp F H F' H ∧ ∀ a, Own fp' a → Own fp a := by
  have step : ∀ k, k ≤ Γ.length → ∃ (Δ : Gm) (F' : Hp) (fp' : Nat → AS), Δ.length = Γ.length ∧ (∀ i, lvOf Δ i = if i < k then lvOf Γ' i else lvOf Γ i) ∧ St K Δ e σ F' H fp' ∧ Ch (Own fp) emp F H F' H ∧ ∀ a, Own fp' a → Own fp a := by
    intro k
    induction k with
    | zero => exact fun _ => ⟨Γ, F, fp, rfl, fun i => by rw [if_neg (Nat.not_lt_zero i)], s, .refl, fun _ z => z⟩
    | succ k ih =>
      intro hk
      obtain ⟨Δ, F1, fp1, hl, hv, s1, c1, o1⟩ := ih (by omega)
      have hkΔ : k < Δ.length := by omega
      have hvk : lvOf Δ k = lvOf Γ k := by rw [hv k, if_neg (Nat.lt_irrefl k)]
      have hset : ∀ i, lvOf (Δ.set k (lvOf Γ' k)) i = if i < k + 1 then lvOf Γ' i else lvOf Γ i := fun i => by
        rw [lvOf_set hkΔ]
        by_cases hi : i = k
        · subst hi; rw [if_pos rfl, if_pos (by omega)]
        · rw [if_neg hi, hv i]
          by_cases h2 : i < k
          · rw [if_pos h2, if_pos (by omega)]
          · rw [if_neg h2, if_neg (by omega)]
      by_cases h0 : lvOf Γ' k = 0
      · refine ⟨Δ.set k (lvOf Γ' k), F1, putF fp1 k emp, by rw [List.length_set]; exact hl, hset, ?_, c1, fun a z => ?_⟩
        · rw [h0]; exact s1.kill hkΔ
        · rcases own_putF z with z | ⟨j, _, z⟩
          · exact z.elim
          · exact o1 a ⟨j, z⟩
      · obtain ⟨F2, fp2, s2, c2, o2, _⟩ := s1.low (i := k) (m := lvOf Γ' k) (by omega) (by rw [hvk]; exact h.2 k)
        refine ⟨Δ.set k (lvOf Γ' k), F2, fp2, by rw [List.length_set]; exact hl, hset, s2, ?_, fun a z => o1 a (o2 a z)⟩
        exact Ch.trans c1 (fun _ z => z.elim) (fun a z => .inl (o1 a z)) c2 (fun _ z => z.elim) fun _ z => z.elim
  obtain ⟨Δ, F', fp', hl, hv, s', c, o⟩ := step Γ.length (Nat.le_refl _)
  have : Δ = Γ' := by
    refine List.ext_getElem (hl.trans h.1.symm) fun i h1 h2 => ?_
    have := hv i
    rw [if_pos (by omega)] at this
    unfold lvOf at this
    rw [List.getD_eq_getElem?_getD, List.getD_eq_getElem?_getD, List.getElem?_eq_getElem h1, List.getElem?_eq_getElem h2] at this
    exact this
  subst this
  exact ⟨F', fp', s', c, o⟩
theorem Go.weak {q : Bool} {e0 e' : List D} {F' H' : Hp} {fp' : Nat → AS} {Γ2 : Gm} {f : AS} (g : Go K q Γ σ F H fp e0 e' F' H' fp' f) (h : leG Γ2 Γ) (hf : ∀ a, f a → F' a = none ∧ H' a ≠ none) : ∃ F2 fp2, Go K q Γ2 σ F H fp e0 e' F2 H' fp2 f ∧ Kept f F' H' F2 H' := by
  obtain ⟨F2, fp2, s2, c, o⟩ := g.st.weak h
  refine ⟨F2, fp2, ⟨g.same, s2, fun a z1 z2 => g.dis a z1 (o a z2), ?_, fun a z => g.grow a (z.imp (o a) id)⟩, c.kept (fun _ z => z.elim) g.dis hf⟩
  exact Ch.trans g.ch (fun _ z => z.2) (fun a z => g.grow a (.inl z)) c (fun _ z => z.elim) fun _ z => z.elim
end
section
variable {X : Cx} {T : Tb} {W : WX} {kp : List Nat}
theorem Go.then_ {K : PySem.W.Frag} {q1 q2 : Bool} {Γ1 Γ2 : Gm} {σ : L2.St} {F H : Hp} {fp : Nat → AS} {e0 e1 e2 : List D} {F' H' F2 H2 : Hp} {fp' fp2 : Nat → AS} {f2 : AS} (a : Go K q1 Γ1 σ F H fp e0 e1 F' H' fp' emp) (b : Go K q2 Γ2 σ F' H' fp' e1 e2 F2 H2 fp2 f2) : Go K (q1 && q2) Γ2 σ F H fp e0 e2 F2 H2 fp2 f2 :=
  go_app (Go.trans a b fun _ z => z.elim) fun _ z => .inr z
theorem Go.left {K : PySem.W.Frag} {q1 q2 : Bool} {Γ1 : Gm} {σ : L2.St} {F H : Hp} {fp : Nat → AS} {e0 e1 : List D} {F' H' : Hp} {fp' : Nat → AS} {f : AS} (a : Go K q1 Γ1 σ F H fp e0 e1 F' H' fp' f) : Go K (q1 && q2) Γ1 σ F H fp e0 e1 F' H' fp' f :=
  ⟨fun z => a.same (and_tt z).1, a.st, a.dis, a.ch.mono (fun _ z => z) fun x z => ⟨by rw [z.1]; rfl, z.2⟩, a.grow⟩
/-- what is wanted behind an expression -/
def Cont (K : PySem.W.Frag) (q : Bool) (Γ' : Gm) (m : Nat) (σ : L2.St) (F H : Hp) (fp : Nat → AS) (e0 e' : List D) (d : D) (Q : VK) : Prop :=
  ∀ F' H' fp' v f, Go K q Γ' σ F H fp e0 e' F' H' fp' f → Val K m F' H' d v f → Q v H'
theorem Cont.weak {K : PySem.W.Frag} {q : Bool} {Γ' Γ2 : Gm} {m m2 : Nat} {σ : L2.St} {F H : Hp} {fp : Nat → AS} {e0 e' : List D} {d : D} {Q : VK} (hG : leG Γ2 Γ') (hm : m2 = 0 ∨ (1 ≤ m2 ∧ m2 ≤ m)) (h : Cont K q Γ2 m2 σ F H fp e0 e' d Q) : Cont K q Γ' m σ F H fp e0 e' d Q := by
  intro F' H' fp' v f g val
  obtain ⟨F2, fp2, g2, k⟩ := g.weak hG val.cells
  rcases hm with hm | ⟨h1, h2⟩
  · subst hm
    refine h F2 H' fp2 v emp (go_app g2 fun a z => z.elim) ?_
    unfold Val; rw [if_pos rfl]
    exact ⟨val.rf g.st.sub, rfl⟩
  · have hm0 : m ≠ 0 := by omega
    unfold Val at val
    rw [if_neg hm0] at val
    have val2 := RO.kept d m v f k val
    obtain ⟨c, f', hs, hd, r'⟩ := RO.weak g2.st.sub d m m2 v f h1 h2 val2
    have hc : ∀ a, f a → F2 a = none ∧ H' a ≠ none := RO.cells d m v f val2
    refine h (frz F2 H' c) H' fp2 v f' ⟨g2.same, ⟨frz_le g2.st.sub, g2.st.lG, g2.st.le, fun i hi => ?_, g2.st.dis, g2.st.dead⟩, fun a z1 z2 => g2.dis a ((hs a).mpr (.inr z1)) z2, ?_, fun a z => g2.grow a (z.imp id fun z => (hs a).mpr (.inr z))⟩ (Val.of (by omega) r')
    · obtain ⟨d2, v2, e3, e4, r2⟩ := g2.st.at_ i hi
      exact ⟨d2, v2, e3, e4, RO.kept d2 _ v2 _ (frz_kept (fun a ha => (hc a ((hs a).mpr (.inl ha))).1) fun a z1 z2 => g2.dis a ((hs a).mpr (.inl z2)) ⟨i, z1⟩) r2⟩
    · refine ⟨g2.ch.sub.trans (frz_sub fun a ha => (hc a ((hs a).mpr (.inl ha))).1), g2.ch.keep, fun a z z' => ?_⟩
      by_cases ha : c a
      · exact g2.grow a (.inr ((hs a).mpr (.inl ha)))
      · rw [frz_out ha] at z'; exact g2.ch.new a z z'
/-- behind a first run -/
theorem Cont.back {K : PySem.W.Frag} {q1 q2 : Bool} {Γ1 Γ' : Gm} {m : Nat} {σ : L2.St} {F H F1 H1 : Hp} {fp fp1 : Nat → AS} {e0 e1 e' : List D} {d : D} {Q : VK} (h : Cont K (q1 && q2) Γ' m σ F H fp e0 e' d Q) (g : Go K q1 Γ1 σ F H fp e0 e1 F1 H1 fp1 emp) : Cont K q2 Γ' m σ F1 H1 fp1 e1 e' d Q :=
  fun F' H' fp' v f g2 val => h F' H' fp' v f (Go.then_ g g2) val
/-- the answer's level, the locals' levels come down -/
theorem rdE_weak {q : Bool} {r : Env → R D} {Γ Γ' Γ2 : Gm} {m m2 : Nat} (hG : leG Γ2 Γ') (hm : m2 = 0 ∨ (1 ≤ m2 ∧ m2 ≤ m)) (σ : L2.St) (H : Hp) (Q : VK) (h : rdE T W kp q r Γ m2 Γ2 σ H Q) : rdE T W kp q r Γ m Γ' σ H Q := by
  obtain ⟨e, F, fp, s, h⟩ := h
  refine ⟨e, F, fp, s, ?_⟩
  cases e1 : r e with
  | bad => rw [e1] at h; exact h
  | exc y e' => rw [e1] at h; exact h
  | ok d e' =>
    rw [e1] at h
    exact Cont.weak hG hm h
theorem se_weak {x : Expr} {q : Bool} {r : Env → R D} {Γ Γ' Γ2 : Gm} {m m2 : Nat} (h : SE X T W kp q r x Γ m Γ') (hG : leG Γ2 Γ') (hm : m2 = 0 ∨ (1 ≤ m2 ∧ m2 ≤ m)) : SE X T W kp q r x Γ m2 Γ2 := PE.mono h (rdE_weak hG hm)
theorem rdT_weak {q : Bool} {r : Env → R D} {Γ Γ' Γ2 : Gm} (hG : leG Γ2 Γ') (σ : L2.St) (H : Hp) (Q : Bool → Hp → Prop) (h : rdT T W kp q r Γ Γ2 σ H Q) : rdT T W kp q r Γ Γ' σ H Q := by
  obtain ⟨e, F, fp, s, h⟩ := h
  refine ⟨e, F, fp, s, ?_⟩
  cases e1 : r e with
  | bad => rw [e1] at h; exact h
  | exc y e' => rw [e1] at h; exact h
  | ok d e' =>
    rw [e1] at h
    dsimp only at h ⊢
    cases e2 : truth d with
    | none => rw [e2] at h; exact h
    | some b =>
      rw [e2] at h
      intro F' H' fp' g
      obtain ⟨F2, fp2, g2, _⟩ := g.weak hG (fun a z => z.elim)
      exact h F2 H' fp2 g2
/-- a test by the value -/
theorem rdT_val {q : Bool} {r : Env → R D} {Γ Γ' : Gm} {m : Nat} (σ : L2.St) (H : Hp) (Q : Bool → Hp → Prop) (h : rdT T W kp q r Γ Γ' σ H Q) : rdE T W kp q r Γ m Γ' σ H (fun x H' => ∃ k, TruV T.K x H' k ∧ Q k H') := by
  obtain ⟨e, F, fp, s, h⟩ := h
  refine ⟨e, F, fp, s, ?_⟩
  cases e1 : r e with
  | bad => rw [e1] at h; exact h
  | exc y e' => rw [e1] at h; exact h
  | ok d e' =>
    rw [e1] at h
    dsimp only at h ⊢
    cases e2 : truth d with
    | none => rw [e2] at h; exact h.elim
    | some b =>
      rw [e2] at h
      intro F' H' fp' v f g val
      exact ⟨b, tru_of (val.rf g.st.sub) e2, h F' H' fp' (go_app g fun a z => z.elim)⟩
theorem st_val {x : Expr} {q : Bool} {r : Env → R D} {Γ Γ' : Gm} {m : Nat} (hK : X.K = T.K) (h : SE X T W kp q r x Γ m Γ') (he : ∀ whole, isTrue x X.env whole = (do let v ← whole; standAt x.pos; holding [v] (truthy v))) : ST X T W kp q r x Γ Γ' := by
  refine PT.mono (pt_truth h he) fun σ H Q z => ?_
  rw [hK]
  exact rdT_val σ H Q z
/-- a test whose answer is a bool -/
theorem rdT_bl {q : Bool} {r : Env → R D} {Γ Γ' : Gm} {m : Nat} (hb : ∀ e d e', r e = .ok d e' → ∃ b, d = .bl b) (σ : L2.St) (H : Hp) (Q : Bool → Hp → Prop) (h : rdT T W kp q r Γ Γ' σ H Q) : rdE T W kp q r Γ m Γ' σ H (fun x H' => ∃ k, x = .bl k ∧ Q k H') := by
  obtain ⟨e, F, fp, s, h⟩ := h
  refine ⟨e, F, fp, s, ?_⟩
  cases e1 : r e with
  | bad => rw [e1] at h; exact h
  | exc y e' => rw [e1] at h; exact h
  | ok d e' =>
    obtain ⟨b, rfl⟩ := hb e d e' e1
    rw [e1] at h
    intro F' H' fp' v f g val
    exact ⟨b, rf_bl (val.rf g.st.sub), h F' H' fp' (go_app g fun a z => z.elim)⟩
theorem bl_cmp {ra rb : Env → R D} {o : Cp} : ∀ (e : Env) (d : D) (e' : Env), ((ra e).bind fun x e1 => (rb e1).bind fun y e2 => R.lift ((cp o x y).map .bl) e2) = .ok d e' → ∃ b, d = .bl b := fun e d e' h => by
  cases e1 : ra e with
  | bad => rw [e1] at h; cases h
  | exc y e' => rw [e1] at h; cases h
  | ok x e1' =>
    rw [e1] at h
    simp only [R.bind_ok] at h
    cases e2 : rb e1' with
    | bad => rw [e2] at h; cases h
    | exc y e' => rw [e2] at h; cases h
    | ok y e2' =>
      rw [e2] at h
      simp only [R.bind_ok] at h
      cases e3 : cp o x y with
      | none => rw [e3] at h; cases h
      | some b => rw [e3] at h; cases h; exact ⟨b, rfl⟩
theorem st_cmp {q1 q2 : Bool} {ra rb : Env → R D} {a b : Expr} {pos : Pos} {Γ Γ1 Γ2 : Gm} {m n : Nat} {o : Cp} (hu : X.A.units + 64 < cLine) (hK : X.K = T.K) (ha : SE X T W kp q1 ra a Γ m Γ1) (hb : SE X T W kp q2 rb b Γ1 n Γ2) (hm : own m = true ∨ q2 = true)
    (hk : behindInMarks (cpOf o) b = false) :
    ST X T W kp (q1 && q2) (fun e => (ra e).bind fun x e1 => (rb e1).bind fun y e2 => R.lift ((cp o x y).map .bl) e2) (.Compare a [cpOf o] [b] pos) Γ Γ2 :=
  PT.mono (pt_cmpR (hK ▸ g_cp hu o) ha hb hk) fun σ H Q h => rd_flat2 (g := blR (cp o)) (mo := 100) hm flat_bl (rdT_bl bl_cmp σ H Q h)
/-! ### and, or, not -/
def andD (ra rb : Env → R D) : Env → R D := fun e => (ra e).bind fun x e1 => match truth x with
  | some true => rb e1
  | some false => .ok x e1
  | none => .bad
def orD (ra rb : Env → R D) : Env → R D := fun e => (ra e).bind fun x e1 => match truth x with
  | some true => .ok x e1
  | some false => rb e1
  | none => .bad
theorem rdT_and {q1 q2 : Bool} {ra rb : Env → R D} {Γ Γ1 Γ2 Γ3 : Gm} (h1 : leG Γ3 Γ1) (h2 : leG Γ3 Γ2) (σ : L2.St) (H : Hp) (Q : Bool → Hp → Prop) (h : rdT T W kp (q1 && q2) (andD ra rb) Γ Γ3 σ H Q) : tAnd (rdT T W kp q1 ra Γ Γ1) (rdT T W kp q2 rb Γ1 Γ2) σ H Q := by
  obtain ⟨e, F, fp, s, h⟩ := h
  refine ⟨e, F, fp, s, ?_⟩
  unfold andD at h
  cases e1 : ra e with
  | bad => rw [e1] at h; exact h
  | exc y e' => rw [e1] at h; exact h
  | ok d e' =>
    rw [e1] at h
    simp only [R.bind_ok] at h ⊢
    cases e2 : truth d with
    | none => rw [e2] at h; exact h.elim
    | some b =>
      rw [e2] at h
      intro F' H' fp' g
      cases b with
      | false =>
        simp only [e2] at h
        rw [if_neg Bool.false_ne_true]
        obtain ⟨F2, fp2, g2, _⟩ := g.weak h1 (fun a z => z.elim)
        exact h F2 H' fp2 g2.left
      | true =>
        rw [if_pos rfl]
        refine ⟨e', F', fp', g.st, ?_⟩
        simp only at h
        cases e3 : rb e' with
        | bad => rw [e3] at h; exact h
        | exc y e'' => rw [e3] at h; exact XW.back h g
        | ok d2 e'' =>
          rw [e3] at h
          dsimp only at h ⊢
          cases e4 : truth d2 with
          | none => rw [e4] at h; exact h
          | some b2 =>
            rw [e4] at h
            intro F2 H2 fp2 g2
            obtain ⟨F3, fp3, g3, _⟩ := (Go.then_ g g2).weak h2 (fun a z => z.elim)
            exact h F3 H2 fp3 g3
theorem rdT_or {q1 q2 : Bool} {ra rb : Env → R D} {Γ Γ1 Γ2 Γ3 : Gm} (h1 : leG Γ3 Γ1) (h2 : leG Γ3 Γ2) (σ : L2.St) (H : Hp) (Q : Bool → Hp → Prop) (h : rdT T W kp (q1 && q2) (orD ra rb) Γ Γ3 σ H Q) : tOr (rdT T W kp q1 ra Γ Γ1) (rdT T W kp q2 rb Γ1 Γ2) σ H Q := by
  obtain ⟨e, F, fp, s, h⟩ := h
  refine ⟨e, F, fp, s, ?_⟩
  unfold orD at h
  cases e1 : ra e with
  | bad => rw [e1] at h; exact h
  | exc y e' => rw [e1] at h; exact h
  | ok d e' =>
    rw [e1] at h
    simp only [R.bind_ok] at h ⊢
    cases e2 : truth d with
    | none => rw [e2] at h; exact h.elim
    | some b =>
      rw [e2] at h
      intro F' H' fp' g
      cases b with
      | true =>
        simp only [e2] at h
        rw [if_pos rfl]
        obtain ⟨F2, fp2, g2, _⟩ := g.weak h1 (fun a z => z.elim)
        exact h F2 H' fp2 g2.left
      | false =>
        rw [if_neg Bool.false_ne_true]
        refine ⟨e', F', fp', g.st, ?_⟩
        simp only at h
        cases e3 : rb e' with
        | bad => rw [e3] at h; exact h
        | exc y e'' => rw [e3] at h; exact XW.back h g
        | ok d2 e'' =>
          rw [e3] at h
          dsimp only at h ⊢
          cases e4 : truth d2 with
          | none => rw [e4] at h; exact h
          | some b2 =>
            rw [e4] at h
            intro F2 H2 fp2 g2
            obtain ⟨F3, fp3, g3, _⟩ := (Go.then_ g g2).weak h2 (fun a z => z.elim)
            exact h F3 H2 fp3 g3
/-- not, as a test and as a value -/
def notD (ra : Env → R D) : Env → R D := fun e => (ra e).bind fun x e1 => R.lift ((truth x).map fun b => .bl (!b)) e1
theorem st_not {x : Expr} {pos : Pos} {q : Bool} {ra : Env → R D} {Γ Γ' : Gm} (h : ST X T W kp q ra x Γ Γ') : ST X T W kp q (notD ra) (.UnaryOp .Not x pos) Γ Γ' := by
  refine PT.mono (pt_not h) fun σ H Q z => ?_
  obtain ⟨e, F, fp, s, z⟩ := z
  refine ⟨e, F, fp, s, ?_⟩
  unfold notD at z
  cases e1 : ra e with
  | bad => rw [e1] at z; exact z
  | exc y e' => rw [e1] at z; exact z
  | ok d e' =>
    rw [e1] at z
    simp only [R.bind_ok] at z ⊢
    cases e2 : truth d with
    | none => rw [e2] at z; exact z
    | some b => rw [e2] at z; exact z
theorem rd_not {q : Bool} {ra : Env → R D} {Γ Γ' : Gm} {m mo : Nat} (σ : L2.St) (H : Hp) (Q : VK) (z : rdE T W kp q (notD ra) Γ mo Γ' σ H Q) : tNotT T.K (rdE T W kp q ra Γ m Γ') σ H Q := by
  obtain ⟨e, F, fp, s, z⟩ := z
  refine ⟨e, F, fp, s, ?_⟩
  unfold notD at z
  cases e1 : ra e with
  | bad => rw [e1] at z; exact z
  | exc y e' => rw [e1] at z; exact z
  | ok d e' =>
    rw [e1] at z
    simp only [R.bind_ok] at z ⊢
    cases e2 : truth d with
    | none => rw [e2] at z; exact z.elim
    | some b =>
      rw [e2] at z
      intro F' H' fp' v f g val
      exact ⟨b, tru_of (val.rf g.st.sub) e2, z F' H' fp' _ emp (go_app g fun a z => z.elim) (Val.flat rfl mk_bl)⟩
theorem se_not {x : Expr} {pos : Pos} {q : Bool} {ra : Env → R D} {Γ Γ' : Gm} {m mo : Nat} (hK : X.K = T.K) (h : SE X T W kp q ra x Γ m Γ') : SE X T W kp q (notD ra) (.UnaryOp .Not x pos) Γ mo Γ' :=
  PE.mono (pe_notT h) fun σ H Q z => by rw [hK]; exact rd_not σ H Q z
end
end Z

/-! Z6: more expressions. -/
namespace Z
open PySem L2
section
variable {X : Cx} {T : Tb} {W : WX} {kp : List Nat}
/-! ### and, or, if as values -/
theorem Cont.left {K : PySem.W.Frag} {q1 q2 : Bool} {Γ' : Gm} {m : Nat} {σ : L2.St} {F H : Hp} {fp : Nat → AS} {e0 e' : List D} {d : D} {Q : VK} (h : Cont K (q1 && q2) Γ' m σ F H fp e0 e' d Q) : Cont K q1 Γ' m σ F H fp e0 e' d Q :=
  fun F' H' fp' v f g val => h F' H' fp' v f g.left val
theorem rd_and {q1 q2 : Bool} {ra rb : Env → R D} {Γ Γ1 Γ2 Γ3 : Gm} {m n mo : Nat} (h1 : leG Γ3 Γ1) (h2 : leG Γ3 Γ2) (hm : mo = 0 ∨ (1 ≤ mo ∧ mo ≤ m)) (hn : mo = 0 ∨ (1 ≤ mo ∧ mo ≤ n)) (σ : L2.St) (H : Hp) (Q : VK)
    (h : rdE T W kp (q1 && q2) (andD ra rb) Γ mo Γ3 σ H Q) : tAndT T.K (rdE T W kp q1 ra Γ m Γ1) (rdE T W kp q2 rb Γ1 n Γ2) σ H Q := by
  obtain ⟨e, F, fp, s, h⟩ := h
  refine ⟨e, F, fp, s, ?_⟩
  unfold andD at h
  cases e1 : ra e with
  | bad => rw [e1] at h; exact h
  | exc y e' => rw [e1] at h; exact h
  | ok d e' =>
    rw [e1] at h
    simp only [R.bind_ok] at h ⊢
    cases e2 : truth d with
    | none => rw [e2] at h; exact h.elim
    | some b =>
      rw [e2] at h
      intro F' H' fp' v f g val
      refine ⟨b, tru_of (val.rf g.st.sub) e2, ?_⟩
      cases b with
      | false =>
        rw [if_neg Bool.false_ne_true]
        exact Cont.weak (q := q1) h1 hm (Cont.left (q2 := q2) h) F' H' fp' v f g val
      | true =>
        rw [if_pos rfl]
        have g0 : Go T.K q1 Γ1 σ F H fp e.s e'.s F' H' fp' emp := go_app g fun a z => z.elim
        refine ⟨e', F', fp', g.st, ?_⟩
        simp only at h
        cases e3 : rb e' with
        | bad => rw [e3] at h; exact h
        | exc y e'' => rw [e3] at h; exact XW.back h g0
        | ok d2 e'' =>
          rw [e3] at h
          exact Cont.weak h2 hn (Cont.back h g0)
theorem rd_or {q1 q2 : Bool} {ra rb : Env → R D} {Γ Γ1 Γ2 Γ3 : Gm} {m n mo : Nat} (h1 : leG Γ3 Γ1) (h2 : leG Γ3 Γ2) (hm : mo = 0 ∨ (1 ≤ mo ∧ mo ≤ m)) (hn : mo = 0 ∨ (1 ≤ mo ∧ mo ≤ n)) (σ : L2.St) (H : Hp) (Q : VK)
    (h : rdE T W kp (q1 && q2) (orD ra rb) Γ mo Γ3 σ H Q) : tOrT T.K (rdE T W kp q1 ra Γ m Γ1) (rdE T W kp q2 rb Γ1 n Γ2) σ H Q := by
  obtain ⟨e, F, fp, s, h⟩ := h
  refine ⟨e, F, fp, s, ?_⟩
  unfold orD at h
  cases e1 : ra e with
  | bad => rw [e1] at h; exact h
  | exc y e' => rw [e1] at h; exact h
  | ok d e' =>
    rw [e1] at h
    simp only [R.bind_ok] at h ⊢
    cases e2 : truth d with
    | none => rw [e2] at h; exact h.elim
    | some b =>
      rw [e2] at h
      intro F' H' fp' v f g val
      refine ⟨b, tru_of (val.rf g.st.sub) e2, ?_⟩
      cases b with
      | true =>
        rw [if_pos rfl]
        exact Cont.weak (q := q1) h1 hm (Cont.left (q2 := q2) h) F' H' fp' v f g val
      | false =>
        rw [if_neg Bool.false_ne_true]
        have g0 : Go T.K q1 Γ1 σ F H fp e.s e'.s F' H' fp' emp := go_app g fun a z => z.elim
        refine ⟨e', F', fp', g.st, ?_⟩
        simp only at h
        cases e3 : rb e' with
        | bad => rw [e3] at h; exact h
        | exc y e'' => rw [e3] at h; exact XW.back h g0
        | ok d2 e'' =>
          rw [e3] at h
          exact Cont.weak h2 hn (Cont.back h g0)
/-- a if c else b -/
def ifD (rc ra rb : Env → R D) : Env → R D := fun e => (rc e).bind fun x e1 => match truth x with
  | some true => ra e1
  | some false => rb e1
  | none => .bad
theorem se_if {x a b : Expr} {pos : Pos} {q1 q2 q3 : Bool} {rc ra rb : Env → R D} {Γ Γ1 Γ2 Γ3 Γ4 : Gm} {m n mo : Nat} (hc : ST X T W kp q1 rc x Γ Γ1) (ha : SE X T W kp q2 ra a Γ1 m Γ2) (hb : SE X T W kp q3 rb b Γ1 n Γ3)
    (h2 : leG Γ4 Γ2) (h3 : leG Γ4 Γ3) (hm : mo = 0 ∨ (1 ≤ mo ∧ mo ≤ m)) (hn : mo = 0 ∨ (1 ≤ mo ∧ mo ≤ n)) : SE X T W kp (q1 && (q2 && q3)) (ifD rc ra rb) (.IfExp x a b pos) Γ mo Γ4 := by
  refine PE.mono (pe_ifExp hc ha hb) fun σ H Q h => ?_
  obtain ⟨e, F, fp, s, h⟩ := h
  refine ⟨e, F, fp, s, ?_⟩
  unfold ifD at h
  cases e1 : rc e with
  | bad => rw [e1] at h; exact h
  | exc y e' => rw [e1] at h; exact h
  | ok d e' =>
    rw [e1] at h
    simp only [R.bind_ok] at h ⊢
    cases e2 : truth d with
    | none => rw [e2] at h; exact h.elim
    | some c =>
      rw [e2] at h
      intro F' H' fp' g
      cases c with
      | true =>
        simp only [if_true]
        refine ⟨e', F', fp', g.st, ?_⟩
        simp only at h
        cases e3 : ra e' with
        | bad => rw [e3] at h; exact h
        | exc y e'' => rw [e3] at h; exact XW.back h g
        | ok d2 e'' => rw [e3] at h; exact Cont.weak h2 hm (Cont.left (q2 := q3) (Cont.back (q2 := q2 && q3) h g))
      | false =>
        simp only [Bool.false_eq_true, if_false]
        refine ⟨e', F', fp', g.st, ?_⟩
        simp only at h
        cases e3 : rb e' with
        | bad => rw [e3] at h; exact h
        | exc y e'' => rw [e3] at h; exact XW.back h g
        | ok d2 e'' =>
          rw [e3] at h
          have h' := Cont.back (q2 := q2 && q3) h g
          rw [Bool.and_comm q2 q3] at h'
          exact Cont.weak h3 hn (Cont.left (q2 := q2) h')
/-! ### one operand -/
/-- behind one operand -/
theorem rd_one {q : Bool} {ra : Env → R D} {Γ Γ1 : Gm} {m mo : Nat} {g : D → Option D} {σ : L2.St} {H : Hp} {Q : VK} {rr : V → Hp → VK → Prop}
    (h : rdE T W kp q (fun e => (ra e).bind fun x e1 => R.lift (g x) e1) Γ mo Γ1 σ H Q)
    (rule : ∀ F H' x v f d, Sub F H' → Val T.K m F H' x v f → g x = some d →
      (∀ F2 H2 w f2, Sub F2 H2 → Sub F F2 → Sub H' H2 → (∀ a, F a = none → F2 a ≠ none → f a ∨ H' a = none) → (∀ a, f2 a → f a ∨ H' a = none) → Val T.K mo F2 H2 d w f2 → Q w H2) → rr v H' Q) :
    rdE T W kp q ra Γ m Γ1 σ H fun v H1 => rr v H1 Q := by
  obtain ⟨e, F, fp, s, h⟩ := h
  refine ⟨e, F, fp, s, ?_⟩
  dsimp only at h
  cases e1 : ra e with
  | bad => rw [e1] at h; exact h
  | exc y e' => rw [e1] at h; exact h
  | ok x e' =>
    rw [e1] at h
    simp only [R.bind_ok] at h
    intro F2 H2 fp2 v f gg val
    cases hg : g x with
    | none => rw [hg] at h; exact h.elim
    | some d =>
      rw [hg] at h
      simp only [R.lift_some] at h
      refine rule F2 H2 x v f d gg.st.sub val hg ?_
      intro F3 H3 w f3 s3 sF sH nw gr vw
      refine h F3 H3 fp2 w f3 ⟨gg.same, ⟨s3, gg.st.lG, gg.st.le, fun i hi => ?_, gg.st.dis, gg.st.dead⟩, fun a z1 z2 => ?_, ?_, fun a z => ?_⟩ vw
      · obtain ⟨d2, v2, e3, e4, r2⟩ := gg.st.at_ i hi
        refine ⟨d2, v2, e3, e4, RO.kept d2 _ v2 _ ⟨sF, fun a ha => ?_, fun a ha hn => ?_⟩ r2⟩
        · have := (gg.st.cells ⟨i, ha⟩).2
          cases eh : H2 a with
          | none => exact absurd eh this
          | some z => exact sH a z eh
        · cases ef : F3 a with
          | none => rfl
          | some z =>
            rcases nw a hn (by rw [ef]; simp) with y | y
            · exact (gg.dis a y ⟨i, ha⟩).elim
            · exact ((gg.st.cells ⟨i, ha⟩).2 y).elim
      · rcases gr a z1 with z | z
        · exact gg.dis a z z2
        · exact (gg.st.cells z2).2 z
      · refine ⟨gg.ch.sub.trans sF, fun a z hz hw => sH a z (gg.ch.keep a z hz hw), fun a z z' => ?_⟩
        cases ef : F2 a with
        | some y => exact gg.ch.new a z (by rw [ef]; simp)
        | none =>
          rcases nw a ef z' with y | y
          · exact gg.grow a (.inr y)
          · exact Grow.none (f := emp) (g := emp) gg.ch (fun _ z => z.2) y
      · rcases z with z | z
        · exact gg.grow a (.inl z)
        · rcases gr a z with z | z
          · exact gg.grow a (.inr z)
          · exact Grow.none (f := emp) (g := emp) gg.ch (fun _ z => z.2) z
theorem keep_flat {K : PySem.W.Frag} {F H : Hp} {f : AS} {mo : Nat} {d : D} {Q : VK} (s : Sub F H) (fl : flat d = true)
    (k : ∀ F2 H2 w f2, Sub F2 H2 → Sub F F2 → Sub H H2 → (∀ a, F a = none → F2 a ≠ none → f a ∨ H a = none) → (∀ a, f2 a → f a ∨ H a = none) → Val K mo F2 H2 d w f2 → Q w H2) : ∀ w, RF K H d w → Q w H :=
  fun w r => k F H w emp s (Sub.refl F) (Sub.refl H) (fun a z z' => (z' z).elim) (fun a z => z.elim) (Val.flat fl r)
def negD : D → Option D
  | .int i => some (.int (-i))
  | _ => none
theorem se_neg {x : Expr} {pos : Pos} {q : Bool} {ra : Env → R D} {Γ Γ1 : Gm} {m mo : Nat} (h : SE X T W kp q ra x Γ m Γ1) : SE X T W kp q (fun e => (ra e).bind fun x e1 => R.lift (negD x) e1) (.UnaryOp .USub x pos) Γ mo Γ1 := by
  refine PE.mono (pe_un un_neg h) fun σ H Q z => rd_one z fun F H' x v f d s val hg k => ?_
  cases x <;> simp only [negD, reduceCtorEq, Option.some.injEq] at hg
  subst hg
  obtain rfl := rf_int (val.rf s)
  exact ⟨_, rfl, keep_flat s rfl k _ mk_int⟩
theorem se_fl {x : Expr} {q : Bool} {ra : Env → R D} {Γ Γ1 : Gm} {m mo : Nat} (h : SE X T W kp q ra x Γ m Γ1) : SE X T W kp q (fun e => (ra e).bind fun x e1 => R.lift (if flat x = true then some x else none) e1) x Γ mo Γ1 := by
  refine PE.mono h fun σ H Q z => rd_one (rr := fun v H Q => Q v H) z fun F H' x v f d s val hg k => ?_
  split at hg <;> simp only [reduceCtorEq, Option.some.injEq] at hg
  rename_i hf
  subst hg
  exact keep_flat s hf k v (val.rf s)
/-! ### subscripts -/
theorem rfl_get {K : PySem.W.Frag} {F : Hp} : ∀ {xs : List D} {vs : List V} {j : Nat} {d : D}, RFL K F xs vs → xs[j]? = some d → ∃ v, vs[j]? = some v ∧ RF K F d v
  | [], _, _, _, _, e => by simp at e
  | x :: xs, vs, j, d, h, e => by
    simp only [RFL] at h
    obtain ⟨w, ws, rfl, q, r⟩ := h
    cases j with
    | zero => simp at e; subst e; exact ⟨w, rfl, q⟩
    | succ j => exact rfl_get (j := j) r (by simpa using e)
theorem rfl_len {K : PySem.W.Frag} {F : Hp} : ∀ {xs : List D} {vs : List V}, RFL K F xs vs → vs.length = xs.length
  | [], _, h => by simp only [RFL] at h; subst h; rfl
  | x :: xs, vs, h => by
    simp only [RFL] at h
    obtain ⟨w, ws, rfl, q, r⟩ := h
    simp [rfl_len r]
theorem rol_len {K : PySem.W.Frag} {F H : Hp} : ∀ {xs : List D} {n : Nat} {vs : List V} {f : AS}, ROL K F H xs n vs f → vs.length = xs.length
  | [], _, _, _, h => by simp only [ROL] at h; rw [h.1]; rfl
  | x :: xs, n, vs, f, h => by
    simp only [ROL] at h
    obtain ⟨w, ws, g1, g2, rfl, q, r, d, rfl⟩ := h
    simp [rol_len r]
theorem rol_get {K : PySem.W.Frag} {F H : Hp} : ∀ {xs : List D} {n : Nat} {vs : List V} {f : AS} {j : Nat} {d : D}, ROL K F H xs n vs f → xs[j]? = some d → ∃ v g, vs[j]? = some v ∧ RO K F H d n v g ∧ ∀ a, g a → f a
  | [], _, _, _, _, _, _, e => by simp at e
  | x :: xs, n, vs, f, j, d, h, e => by
    simp only [ROL] at h
    obtain ⟨w, ws, g1, g2, rfl, q, r, _, rfl⟩ := h
    cases j with
    | zero => simp at e; subst e; exact ⟨w, g1, rfl, q, fun a z => .inl z⟩
    | succ j =>
      obtain ⟨v, g, e1, r1, s1⟩ := rol_get (j := j) r (by simpa using e)
      exact ⟨v, g, by simpa using e1, r1, fun a z => .inr (s1 a z)⟩
theorem ixn_eq (n : Nat) (i : Int) : L2.ixN n i = ixn n i := rfl
/-- an item of a list or tuple that is read -/
theorem at_of {K : PySem.W.Frag} {H : Hp} {xs : List D} {vs : List V} {i : Int} {d : D} (r : RFL K H xs vs) (e : getI xs i = some d) : ∃ v, atI vs i = some v ∧ RF K H d v := by
  unfold getI at e
  unfold atI
  rw [rfl_len r, ixn_eq]
  cases h : ixn xs.length i with
  | none => rw [h] at e; cases e
  | some j =>
    rw [h] at e
    exact rfl_get r e
theorem at_own {K : PySem.W.Frag} {F H : Hp} {xs : List D} {n : Nat} {vs : List V} {f : AS} {i : Int} {d : D} (r : ROL K F H xs n vs f) (e : getI xs i = some d) : ∃ v g, atI vs i = some v ∧ RO K F H d n v g ∧ ∀ a, g a → f a := by
  unfold getI at e
  unfold atI
  rw [rol_len r, ixn_eq]
  cases h : ixn xs.length i with
  | none => rw [h] at e; cases e
  | some j =>
    rw [h] at e
    exact rol_get r e
def child (m : Nat) : Nat := if m = 0 then 0 else dn m
theorem str_at {z : Txt} {i : Int} {c : Nat} (e : getI z i = some c) : atI (txt z).cps.toList i = some c := by rw [txt_list]; exact e
/-- an item, by its holder's level -/
theorem val_item {K : PySem.W.Frag} {F H : Hp} {x d : D} {y : Int} {v : V} {m : Nat} {f : AS} (s : Sub F H) (val : Val K m F H x v f) (hg : opIx x (.int y) = some d) (Q : VK)
    (k : ∀ w g, (∀ a, g a → f a) → Val K (child m) F H d w g → Q w H) : rIx K v (.int y) H Q := by
  cases x <;> simp only [opIx, reduceCtorEq] at hg
  · split at hg <;> simp only [reduceCtorEq, Option.map_eq_some_iff] at hg
    rename_i hl
    obtain ⟨c, e, rfl⟩ := hg
    obtain rfl := rf_str (val.rf s)
    exact .inr (.inr ⟨_, y, c, rfl, rfl, by rw [txt_len]; exact lim_line hl, str_at e, k _ emp (fun _ z => z.elim) (Val.flat rfl (by rw [← txt_one]; exact mk_str))⟩)
  · by_cases h0 : m = 0
    · have hr := val.rf s
      simp only [RF] at hr
      obtain ⟨a, vs, rfl, q, r⟩ := hr
      obtain ⟨w, e1, r1⟩ := at_of r hg
      exact .inr (.inl ⟨a, vs, y, w, rfl, rfl, q, e1, k w emp (fun _ z => z.elim) (by unfold child Val; rw [if_pos h0, if_pos rfl]; exact ⟨r1, rfl⟩)⟩)
    · unfold Val at val
      rw [if_neg h0] at val
      by_cases h1 : m ≤ 1
      · obtain ⟨hr, rfl⟩ := RO.to1 h1 val
        simp only [RF] at hr
        obtain ⟨a, vs, rfl, q, r⟩ := hr
        obtain ⟨w, e1, r1⟩ := at_of r hg
        refine .inr (.inl ⟨a, vs, y, w, rfl, rfl, SqT.sub s q, e1, k w emp (fun _ z => z.elim) ?_⟩)
        unfold child; rw [if_neg h0, dn_le_one h1]
        exact Val.of h0 (RO.of1 h1 r1)
      · unfold RO at val
        rw [if_neg h1] at val
        obtain ⟨a, vs, g, rfl, q, z, na, r, rfl⟩ := val
        obtain ⟨w, g1, e1, r1, s1⟩ := at_own r hg
        refine .inr (.inl ⟨a, vs, y, w, rfl, rfl, .inl (.inl q), e1, k w g1 (fun a z => .inr (s1 a z)) ?_⟩)
        unfold child; rw [if_neg h0]
        exact Val.of (by have := dn_pos (n := m) (by omega); omega) r1
  · by_cases h0 : m = 0
    · have hr := val.rf s
      simp only [RF] at hr
      obtain ⟨a, vs, rfl, q, r⟩ := hr
      obtain ⟨w, e1, r1⟩ := at_of r hg
      exact .inl ⟨a, vs, y, w, rfl, rfl, .inl q, e1, k w emp (fun _ z => z.elim) (by unfold child Val; rw [if_pos h0, if_pos rfl]; exact ⟨r1, rfl⟩)⟩
    · unfold Val at val
      rw [if_neg h0] at val
      by_cases h1 : m ≤ 1
      · obtain ⟨hr, rfl⟩ := RO.to1 h1 val
        simp only [RF] at hr
        obtain ⟨a, vs, rfl, q, r⟩ := hr
        obtain ⟨w, e1, r1⟩ := at_of r hg
        refine .inl ⟨a, vs, y, w, rfl, rfl, .inl (Rd.sub s q), e1, k w emp (fun _ z => z.elim) ?_⟩
        unfold child; rw [if_neg h0, dn_le_one h1]
        exact Val.of h0 (RO.of1 h1 r1)
      · unfold RO at val
        rw [if_neg h1] at val
        obtain ⟨a, vs, g, rfl, q, z, na, r, rfl⟩ := val
        obtain ⟨w, g1, e1, r1, s1⟩ := at_own r hg
        refine .inl ⟨a, vs, y, w, rfl, rfl, .inl (.inl q), e1, k w g1 (fun a z => .inr (s1 a z)) ?_⟩
        unfold child; rw [if_neg h0]
        exact Val.of (by have := dn_pos (n := m) (by omega); omega) r1
theorem ix_int {x y d : D} (h : opIx x y = some d) : ∃ i, y = .int i := by
  cases x <;> cases y <;> simp only [opIx, reduceCtorEq] at h <;> exact ⟨_, rfl⟩
theorem se_ix {q1 q2 : Bool} {ra rb : Env → R D} {a b : Expr} {pos : Pos} {Γ Γ1 Γ2 : Gm} {m n : Nat} (hK : X.K = T.K) (ha : SE X T W kp q1 ra a Γ m Γ1) (hb : SE X T W kp q2 rb b Γ1 n Γ2) (hm : own m = true ∨ q2 = true) (hp : PlainIx b) :
    SE X T W kp (q1 && q2) (fun e => (ra e).bind fun x e1 => (rb e1).bind fun y e2 => R.lift (opIx x y) e2) (.Subscript a b pos) Γ (child m) Γ2 := by
  refine PE.mono (pe_ix ix_seq ha hb hp) fun σ H Q h => ?_
  rw [hK]
  refine rd_two hm h fun F H' x y v u f d s val hg k => ?_
  obtain ⟨w1, ws, g1, g2, e1, v1, v2, _, rfl⟩ := val
  cases e1
  obtain ⟨w2, ws2, g3, g4, e2, v3, _⟩ := v2
  cases e2
  obtain ⟨i, rfl⟩ := ix_int hg
  obtain rfl := rf_int (v3.rf s)
  exact val_item s v1 hg Q fun w g sub vw => k F H' w g s (Sub.refl F) (Sub.refl H') (fun a z z' => (z' z).elim) (fun a z => .inl (.inl (sub a z))) vw
/-! ### displays -/
theorem vall_len {K : PySem.W.Frag} {F H : Hp} : ∀ {ms : List Nat} {xs : List D} {vs : List V} {f : AS}, ValL K F H ms xs vs f → vs.length = xs.length
  | [], [], _, _, h => by simp only [ValL] at h; rw [h.1]; rfl
  | m :: ms, x :: xs, _, _, h => by
    simp only [ValL] at h
    obtain ⟨w, ws, g1, g2, rfl, h1, h2, _, rfl⟩ := h
    simp [vall_len h2]
  | [], _ :: _, _, _, h => by simp only [ValL] at h
  | _ :: _, [], _, _, h => by simp only [ValL] at h
/-- values of one's own, all at level n -/
theorem vall_rol {K : PySem.W.Frag} {F H : Hp} {n : Nat} (hn : 1 ≤ n) : ∀ {ms : List Nat} {xs : List D} {vs : List V} {f : AS}, Sub F H → ValL K F H ms xs vs f → (∀ m ∈ ms, n ≤ m) →
    ∃ g f', (∀ a, f a ↔ g a ∨ f' a) ∧ Dis g f' ∧ ROL K (frz F H g) H xs n vs f'
  | [], [], vs, f, s, h, _ => by
    simp only [ValL] at h
    refine ⟨emp, f, fun a => by simp [emp], fun a z => z.elim, ?_⟩
    simp only [ROL]; exact h
  | m :: ms, x :: xs, vs, f, s, h, hm => by
    simp only [ValL] at h
    obtain ⟨w, ws, g1, g2, e, h1, h2, d, rfl⟩ := h
    have hm1 : n ≤ m := hm m List.mem_cons_self
    have q : RO K F H x m w g1 := by unfold Val at h1; rw [if_neg (by omega)] at h1; exact h1
    obtain ⟨a1, b1, hs1, hd1, q1⟩ := RO.weak s x m n w g1 hn hm1 q
    obtain ⟨a2, b2, hs2, hd2, r2⟩ := vall_rol hn s h2 fun m' z => hm m' (List.mem_cons_of_mem _ z)
    have c1 := RO.cells x m w g1 q
    have c2 := h2.cells
    refine ⟨fun b => a1 b ∨ a2 b, fun b => b1 b ∨ b2 b, fun b => ?_, fun b => ?_, ?_⟩
    · have := hs1 b; have := hs2 b; grind
    · have := hs1 b; have := hs2 b; have := d b; have := hd1 b; have := hd2 b; grind
    · simp only [ROL]
      refine ⟨w, ws, b1, b2, e, ?_, ?_, fun b hb1 hb2 => d b ((hs1 b).mpr (.inr hb1)) ((hs2 b).mpr (.inr hb2)), rfl⟩
      · have k : Kept b1 (frz F H a1) H (frz (frz F H a1) H a2) H := frz_kept (fun b hb => by
          by_cases hb1 : a1 b
          · exact (d b ((hs1 b).mpr (.inl hb1)) ((hs2 b).mpr (.inl hb))).elim
          · rw [frz_out hb1]; exact (c2 b ((hs2 b).mpr (.inl hb))).1) fun b hb1 hb2 => d b ((hs1 b).mpr (.inr hb1)) ((hs2 b).mpr (.inl hb2))
        have := RO.kept x n w b1 k q1
        rw [frz_frz] at this
        exact this
      · have k : Kept b2 (frz F H a2) H (frz (frz F H a2) H a1) H := frz_kept (fun b hb => by
          by_cases hb1 : a2 b
          · exact (d b ((hs1 b).mpr (.inl hb)) ((hs2 b).mpr (.inl hb1))).elim
          · rw [frz_out hb1]; exact (c1 b ((hs1 b).mpr (.inl hb))).1) fun b hb1 hb2 => d b ((hs1 b).mpr (.inl hb2)) ((hs2 b).mpr (.inr hb1))
        have := ROL.kept xs n ws b2 k r2
        rw [frz_frz] at this
        have e3 : (fun a => a2 a ∨ a1 a) = fun b => a1 b ∨ a2 b := by funext b; exact propext or_comm
        rw [e3] at this
        exact this
  | [], _ :: _, _, _, _, h, _ => by simp only [ValL] at h
  | _ :: _, [], _, _, _, h, _ => by simp only [ValL] at h
theorem dn_up {n : Nat} (h : 1 ≤ n) (h2 : n ≤ 100) : dn (up n) = n ∨ (n = 99 ∧ dn (up n) = 100) := by
  unfold up dn
  split
  · rename_i h3
    rw [if_neg (by omega), if_pos (by omega)]; omega
  · rw [if_neg (by omega), if_neg (by omega)]; omega
theorem upd_sub {H : Hp} {p : Addr} {o : HO} (h : H p = none) : Sub H (upd H p o) := fun b x e => by
  rw [upd_ne (ne_of_none e h)]
  exact e
/-- the level of a display -/
def lvD (ns : List Nat) : Nat := let n := ns.foldl min 100; if n = 99 then 99 else up n
theorem foldl_min_le : ∀ (ns : List Nat) (k : Nat), ns.foldl min k ≤ k ∧ ∀ n ∈ ns, ns.foldl min k ≤ n
  | [], k => ⟨Nat.le_refl _, fun _ h => nomatch h⟩
  | a :: ns, k => by
    obtain ⟨h1, h2⟩ := foldl_min_le ns (min k a)
    refine ⟨Nat.le_trans h1 (Nat.min_le_left _ _), fun n hn => ?_⟩
    rcases List.mem_cons.mp hn with rfl | hn
    · exact Nat.le_trans h1 (Nat.min_le_right _ _)
    · exact h2 n hn
theorem foldl_min_pos : ∀ (ns : List Nat) (k : Nat), 1 ≤ k → (∀ n ∈ ns, 1 ≤ n) → 1 ≤ ns.foldl min k
  | [], k, h, _ => h
  | a :: ns, k, h, hn => foldl_min_pos ns _ (by have := hn a List.mem_cons_self; omega) fun n z => hn n (List.mem_cons_of_mem _ z)
theorem lvD_spec {ns : List Nat} (h : ∀ n ∈ ns, 1 ≤ n) : 2 ≤ lvD ns ∧ 1 ≤ dn (lvD ns) ∧ ∀ n ∈ ns, dn (lvD ns) ≤ n := by
  have h1 := foldl_min_pos ns 100 (by decide) h
  have h2 := foldl_min_le ns 100
  unfold lvD
  generalize ns.foldl min 100 = n at h1 h2
  dsimp only
  by_cases h9 : n = 99
  · rw [if_pos h9]
    subst h9
    exact ⟨by decide, by decide, fun a z => Nat.le_trans (by decide) (h2.2 a z)⟩
  · rw [if_neg h9]
    have e : dn (up n) = n := (dn_up h1 h2.1).resolve_right fun z => h9 z.1
    rw [e]
    refine ⟨by unfold up; split <;> omega, h1, h2.2⟩
/-- behind a list of operands -/
theorem rd_many {q : Bool} {rs : Env → R (List D)} {Γ Γ1 : Gm} {ms : List Nat} {mo : Nat} {g : List D → Option D} {σ : L2.St} {H : Hp} {Q : VK} {rr : List V → Hp → VK → Prop}
    (h : rdE T W kp q (fun e => (rs e).bind fun xs e1 => R.lift (g xs) e1) Γ mo Γ1 σ H Q)
    (rule : ∀ F H' xs vs f d, Sub F H' → (∃ e e', rs e = .ok xs e') → ValL T.K F H' ms xs vs f → g xs = some d →
      (∀ F2 H2 w f2, Sub F2 H2 → Sub F F2 → Sub H' H2 → (∀ a, F a = none → F2 a ≠ none → f a ∨ H' a = none) → (∀ a, f2 a → f a ∨ H' a = none) → Val T.K mo F2 H2 d w f2 → Q w H2) → rr vs H' Q) :
    rdL T W kp q rs Γ ms Γ1 σ H fun vs H1 => rr vs H1 Q := by
  obtain ⟨e, F, fp, s, h⟩ := h
  refine ⟨e, F, fp, s, ?_⟩
  dsimp only at h
  cases e1 : rs e with
  | bad => rw [e1] at h; exact h
  | exc y e' => rw [e1] at h; exact h
  | ok xs e' =>
    rw [e1] at h
    simp only [R.bind_ok] at h
    intro F2 H2 fp2 vs f gg val
    cases hg : g xs with
    | none => rw [hg] at h; exact h.elim
    | some d =>
      rw [hg] at h
      simp only [R.lift_some] at h
      refine rule F2 H2 xs vs f d gg.st.sub ⟨e, e', e1⟩ val hg ?_
      intro F3 H3 w f3 s3 sF sH nw gr vw
      refine h F3 H3 fp2 w f3 ⟨gg.same, ⟨s3, gg.st.lG, gg.st.le, fun i hi => ?_, gg.st.dis, gg.st.dead⟩, fun a z1 z2 => ?_, ?_, fun a z => ?_⟩ vw
      · obtain ⟨d2, v2, e3, e4, r2⟩ := gg.st.at_ i hi
        refine ⟨d2, v2, e3, e4, RO.kept d2 _ v2 _ ⟨sF, fun a ha => ?_, fun a ha hn => ?_⟩ r2⟩
        · have := (gg.st.cells ⟨i, ha⟩).2
          cases eh : H2 a with
          | none => exact absurd eh this
          | some z => exact sH a z eh
        · cases ef : F3 a with
          | none => rfl
          | some z =>
            rcases nw a hn (by rw [ef]; simp) with y | y
            · exact (gg.dis a y ⟨i, ha⟩).elim
            · exact ((gg.st.cells ⟨i, ha⟩).2 y).elim
      · rcases gr a z1 with z | z
        · exact gg.dis a z z2
        · exact (gg.st.cells z2).2 z
      · refine ⟨gg.ch.sub.trans sF, fun a z hz hw => sH a z (gg.ch.keep a z hz hw), fun a z z' => ?_⟩
        cases ef : F2 a with
        | some y => exact gg.ch.new a z (by rw [ef]; simp)
        | none =>
          rcases nw a ef z' with y | y
          · exact gg.grow a (.inr y)
          · exact Grow.none (f := emp) (g := emp) gg.ch (fun _ z => z.2) y
      · rcases z with z | z
        · exact gg.grow a (.inl z)
        · rcases gr a z with z | z
          · exact gg.grow a (.inr z)
          · exact Grow.none (f := emp) (g := emp) gg.ch (fun _ z => z.2) z
/-- a new object of values of one's own -/
theorem new_seq {K : PySem.W.Frag} {F H : Hp} {ms : List Nat} {xs : List D} {vs : List V} {f : AS} {tup : Bool} {p : Addr} (s : Sub F H) (val : ValL K F H ms xs vs f) (hm : ∀ m ∈ ms, 1 ≤ m) (np : H p = none) {Q : VK}
    (k : ∀ F2 H2 w f2, Sub F2 H2 → Sub F F2 → Sub H H2 → (∀ a, F a = none → F2 a ≠ none → f a ∨ H a = none) → (∀ a, f2 a → f a ∨ H a = none) → Val K (lvD ms) F2 H2 (if tup then .tup xs else .lst xs) w f2 → Q w H2) : Q (.ref p) (upd H p (if tup then .tup vs else .lst vs)) := by
  obtain ⟨h2, h1, hle⟩ := lvD_spec hm
  obtain ⟨g, f', hs, hd, r⟩ := vall_rol h1 s val hle
  have hc := val.cells
  have sH : Sub H (upd H p (if tup then .tup vs else .lst vs)) := upd_sub np
  have pf : ∀ a, f a → a ≠ p := fun a z e => by subst e; exact (hc a z).2 np
  have Fp : F p = none := by
    cases e : F p with
    | none => rfl
    | some o => have := s _ _ e; rw [np] at this; cases this
  refine k (frz F H g) _ (.ref p) (fun b => b = p ∨ f' b) ((frz_le s).trans sH) (frz_sub fun a z => (hc a ((hs a).mpr (.inl z))).1) sH (fun a z z' => ?_) (fun a z => ?_) (Val.of (by omega) ?_)
  · by_cases ha : g a
    · exact .inl ((hs a).mpr (.inl ha))
    · rw [frz_out ha] at z'; exact absurd z z'
  · rcases z with rfl | z
    · exact .inr np
    · exact .inl ((hs a).mpr (.inr z))
  · have r' : ROL K (frz F H g) (upd H p (if tup then .tup vs else .lst vs)) xs (dn (lvD ms)) vs f' := by
      refine ROL.kept xs _ vs f' ⟨Sub.refl _, fun a z => upd_ne (pf a ((hs a).mpr (.inr z))), fun a z e => e⟩ r
    have np' : frz F H g p = none := by
      by_cases ha : g p
      · rw [frz_in ha]; exact np
      · rw [frz_out ha]; exact Fp
    have nf : ¬ f' p := fun z => pf p ((hs p).mpr (.inr z)) rfl
    cases tup with
    | true =>
      simp only [if_true] at r' ⊢
      unfold RO
      rw [if_neg (by omega)]
      exact ⟨p, vs, f', rfl, upd_same, np', nf, r', rfl⟩
    | false =>
      simp only [Bool.false_eq_true, if_false] at r' ⊢
      unfold RO
      rw [if_neg (by omega)]
      exact ⟨p, vs, f', rfl, upd_same, np', nf, r', rfl⟩
theorem se_lst {q : Bool} {rs : Env → R (List D)} {es : List Expr} {pos : Pos} {Γ Γ1 : Gm} {ms : List Nat} (h : SL X T W kp q rs es Γ ms Γ1) (hm : ∀ m ∈ ms, 1 ≤ m) (hl : ∀ e xs e', rs e = .ok xs e' → xs.length ≤ LIM) :
    SE X T W kp q (fun e => (rs e).bind fun xs e1 => .ok (.lst xs) e1) (.List es pos) Γ (lvD ms) Γ1 := by
  refine PE.mono (pe_lst h) fun σ H Q z => rd_many (g := fun xs => some (.lst xs)) (rr := fun vs H1 Q => vs.length ≤ sizeLine ∧ ∀ p, H1 p = none → Q (.ref p) (upd H1 p (.lst vs))) z fun F H' xs vs f d s hr val hg k => ?_
  obtain ⟨e, e', hr⟩ := hr
  cases hg
  exact ⟨by rw [vall_len val]; exact lim_line (hl e xs e' hr), fun p np => new_seq (tup := false) s val hm np k⟩
theorem se_tup {q : Bool} {rs : Env → R (List D)} {es : List Expr} {x1 : Nat} {pos : Pos} {Γ Γ1 : Gm} {ms : List Nat} (h : SL X T W kp q rs es Γ ms Γ1) (hm : ∀ m ∈ ms, 1 ≤ m) (hl : ∀ e xs e', rs e = .ok xs e' → xs.length ≤ LIM) :
    SE X T W kp q (fun e => (rs e).bind fun xs e1 => .ok (.tup xs) e1) (.Tuple es x1 pos) Γ (lvD ms) Γ1 := by
  refine PE.mono (pe_tup h) fun σ H Q z => rd_many (g := fun xs => some (.tup xs)) (rr := fun vs H1 Q => vs.length ≤ sizeLine ∧ ∀ p, H1 p = none → Q (.ref p) (upd H1 p (.tup vs))) z fun F H' xs vs f d s hr val hg k => ?_
  obtain ⟨e, e', hr⟩ := hr
  cases hg
  exact ⟨by rw [vall_len val]; exact lim_line (hl e xs e' hr), fun p np => new_seq (tup := true) s val hm np k⟩
end
end Z

/-! Z7: statements. -/
namespace Z
open PySem L2
structure Out where
  nx : Option Gm
  bk : Option Gm
  ct : Option Gm
/-- what a return owes: the levels of the locals that are handed back, the answer's level; the locals that are not stored -/
structure RT where
  Γr : Gm
  rl : Nat
  ro : List Nat
structure GoS (K : PySem.W.Frag) (ro : List Nat) (Γ' : Gm) (σ : L2.St) (F H : Hp) (fp : Nat → AS) (e' : List D) (σ' : L2.St) (F' H' : Hp) (fp' : Nat → AS) (f : AS) : Prop where
  st : St K Γ' e' σ' F' H' fp'
  dis : Dis f (Own fp')
  ch : Ch (Own fp) (Own fp) F H F' H'
  grow : Grow (fun a => Own fp' a ∨ f a) (Own fp) H
  ro : ∀ i ∈ ro, σ'[i]? = σ[i]?
  len : σ'.length = σ.length
section
variable {K : PySem.W.Frag} {ro : List Nat} {σ σ1 σ2 : L2.St} {F F1 F2 H H1 H2 : Hp} {fp fp1 fp2 : Nat → AS}
theorem Go.s {q : Bool} {Γ' : Gm} {e0 e' : List D} {f : AS} (g : Go K q Γ' σ F H fp e0 e' F1 H1 fp1 f) : GoS K ro Γ' σ F H fp e' σ F1 H1 fp1 f :=
  ⟨g.st, g.dis, g.ch.mono (fun _ z => z) fun _ z => z.2, g.grow, fun _ _ => rfl, rfl⟩
theorem GoS.refl {Γ : Gm} {e : List D} (s : St K Γ e σ F H fp) : GoS K ro Γ σ F H fp e σ F H fp emp :=
  ⟨s, fun _ z => z.elim, .refl, fun a z => z.elim .inl fun z => z.elim, fun _ _ => rfl, rfl⟩
/-- one behind the other; the second's answer -/
theorem GoS.trans {Γ1 Γ2 : Gm} {e1 e2 : List D} {f1 f2 : AS} (a : GoS K ro Γ1 σ F H fp e1 σ1 F1 H1 fp1 f1) (b : GoS K ro Γ2 σ1 F1 H1 fp1 e2 σ2 F2 H2 fp2 f2) : GoS K ro Γ2 σ F H fp e2 σ2 F2 H2 fp2 f2 := by
  have gr : Grow (Own fp1) (Own fp) H := fun x z => a.grow x (.inl z)
  refine ⟨b.st, b.dis, Ch.trans a.ch (fun _ z => z) gr b.ch (fun _ z => z) fun _ _ z => z, fun x z => ?_, fun i hi => (b.ro i hi).trans (a.ro i hi), b.len.trans a.len⟩
  rcases b.grow x z with u | u
  · exact gr x u
  · exact Grow.none (f := emp) (g := emp) a.ch (fun _ z => z) u
theorem GoS.weak {Γ1 Γ2 : Gm} {e1 : List D} {f : AS} (g : GoS K ro Γ1 σ F H fp e1 σ1 F1 H1 fp1 f) (h : leG Γ2 Γ1) (hf : ∀ a, f a → F1 a = none ∧ H1 a ≠ none) : ∃ F2 fp2, GoS K ro Γ2 σ F H fp e1 σ1 F2 H1 fp2 f ∧ Kept f F1 H1 F2 H1 ∧ Sub F1 F2 := by
  obtain ⟨F2, fp2, s2, c, o⟩ := g.st.weak h
  refine ⟨F2, fp2, ⟨s2, fun a z1 z2 => g.dis a z1 (o a z2), ?_, fun a z => g.grow a (z.imp (o a) id), g.ro, g.len⟩, c.kept (fun _ z => z.elim) g.dis hf, c.sub⟩
  exact Ch.trans g.ch (fun _ z => z) (fun a z => g.grow a (.inl z)) c (fun _ z => z.elim) fun _ z => z.elim
theorem goS_app {Γ' : Gm} {e' : List D} {f g : AS} (h : GoS K ro Γ' σ F H fp e' σ1 F1 H1 fp1 f) (e : ∀ a, g a → f a) : GoS K ro Γ' σ F H fp e' σ1 F1 H1 fp1 g :=
  ⟨h.st, fun a z => h.dis a (e a z), h.ch, fun a z => h.grow a (z.imp id (e a)), h.ro, h.len⟩
end
def EndO (K : PySem.W.Frag) (ro : List Nat) (o : Option Gm) (σ : L2.St) (F H : Hp) (fp : Nat → AS) (e' : List D) (P : L2.St → Hp → Prop) : Prop := match o with
  | none => True
  | some Γ' => ∀ σ' F' H' fp', GoS K ro Γ' σ F H fp e' σ' F' H' fp' emp → P σ' H'
def XWs (T : Tb) (W : WX) (kp ro : List Nat) (σ : L2.St) (F H : Hp) (fp : Nat → AS) (x : D) (e' : List D) : Prop :=
  ∀ σ' F' H' cls dx, σ'.length = σ.length → (∀ i ∈ ro, σ'[i]? = σ[i]?) → Sub F' H' → e'.length = σ'.length → Ch (Own fp) (Own fp) F H F' H' →
    (∀ i ∈ kp, ∃ d v, e'[i]? = some d ∧ σ'[i]? = some (some v) ∧ RF T.K F' d v) → Exc T F' H' x cls dx → W cls dx σ' H'
theorem XWs.at_ {T : Tb} {W : WX} {kp ro : List Nat} {σ : L2.St} {F H : Hp} {fp : Nat → AS} {x : D} {e' : List D} (h : XWs T W kp ro σ F H fp x e') : XW T W kp σ F H fp x e' :=
  fun F' H' cls dx s l c kr ex => h σ F' H' cls dx rfl (fun _ _ => rfl) s l c kr ex
theorem XWs.back {T : Tb} {W : WX} {kp ro : List Nat} {σ σ1 : L2.St} {F H F1 H1 : Hp} {fp fp1 : Nat → AS} {x : D} {e1 e' : List D} {Γ1 : Gm} {f : AS} (h : XWs T W kp ro σ F H fp x e') (g : GoS T.K ro Γ1 σ F H fp e1 σ1 F1 H1 fp1 f) : XWs T W kp ro σ1 F1 H1 fp1 x e' :=
  fun σ' F' H' cls dx hl hr s l c kr ex => h σ' F' H' cls dx (hl.trans g.len) (fun i hi => (hr i hi).trans (g.ro i hi)) s l (Ch.trans g.ch (fun _ z => z) (fun a z => g.grow a (.inl z)) c (fun _ z => z) fun _ _ z => z) kr ex
section
variable (T : Tb) (W : WX) (kp : List Nat) (Rt : RT)
def OutS (O : Out) (σ : L2.St) (F H : Hp) (fp : Nat → AS) (D : Ends) (r : RS) : Prop := match r with
  | .nx e' => EndO T.K Rt.ro O.nx σ F H fp e'.s D.nx
  | .bk e' => EndO T.K Rt.ro O.bk σ F H fp e'.s D.bk
  | .ct e' => EndO T.K Rt.ro O.ct σ F H fp e'.s D.ct
  | .rt d e' => ∀ σ' F' H' fp' v f, GoS T.K Rt.ro Rt.Γr σ F H fp e'.s σ' F' H' fp' f → RO T.K F' H' d Rt.rl v f → D.rt v H'
  | .exc x e' => XWs T W kp Rt.ro σ F H fp x e'.s
  | .bad => False
def rdS (r : Env → RS) (Γ : Gm) (O : Out) : TS := fun D σ H => ∃ e F fp, St T.K Γ e.s σ F H fp ∧ OutS T W kp Rt O σ F H fp D (r e)
end
/-- THE JUDGEMENT of a statement; of a block -/
def SS (X : Cx) (T : Tb) (W : WX) (kp : List Nat) (Rt : RT) (r : Env → RS) (x : Stmt) (Γ : Gm) (O : Out) : Prop := PS X x (rdS T W kp Rt r Γ O)
def SSs (X : Cx) (T : Tb) (W : WX) (kp : List Nat) (Rt : RT) (r : Env → RS) (xs : List Stmt) (Γ : Gm) (O : Out) : Prop := PSs X xs (rdS T W kp Rt r Γ O)
theorem PS.mono {X : Cx} {x : Stmt} {t t' : TS} (h : PS X x t) (m : ∀ D σ H, t' D σ H → t D σ H) : PS X x t' := ⟨fun pins s σ H D I z => h.run pins s σ H D I (m D σ H z)⟩
theorem PSs.mono {X : Cx} {x : List Stmt} {t t' : TS} (h : PSs X x t) (m : ∀ D σ H, t' D σ H → t D σ H) : PSs X x t' := ⟨fun pins s σ H D I z => h.run pins s σ H D I (m D σ H z)⟩
/-- o is reached from o': where o is some, o' is some and below -/
def leO (o' o : Option Gm) : Prop := ∀ Γ, o = some Γ → ∃ Γ', o' = some Γ' ∧ leG Γ' Γ
theorem leO.refl (o : Option Gm) : leO o o := fun Γ h => ⟨Γ, h, leG.refl Γ⟩
theorem leO.none (o : Option Gm) : leO o none := fun _ h => nomatch h
structure Out.le (O' O : Out) : Prop where
  nx : leO O'.nx O.nx
  bk : leO O'.bk O.bk
  ct : leO O'.ct O.ct
section
variable {X : Cx} {T : Tb} {W : WX} {kp : List Nat} {Rt : RT}
section
variable {σ σ1 : L2.St} {F H F1 H1 : Hp} {fp fp1 : Nat → AS} {D D' : Ends} {O O' : Out}
theorem EndO.weak {K : PySem.W.Frag} {ro : List Nat} {o' o : Option Gm} {e' : List Z.D} {P : L2.St → Hp → Prop} (l : leO o' o) (h : EndO K ro o' σ F H fp e' P) : EndO K ro o σ F H fp e' P := by
  cases o with
  | none => exact True.intro
  | some Γ =>
    obtain ⟨Γ', rfl, hl⟩ := l Γ rfl
    intro σ' F' H' fp' g
    obtain ⟨F2, fp2, g2, _⟩ := g.weak hl (fun _ z => z.elim)
    exact h σ' F2 H' fp2 g2
theorem EndO.back {K : PySem.W.Frag} {ro : List Nat} {o : Option Gm} {e1 e' : List Z.D} {P : L2.St → Hp → Prop} {Γ1 : Gm} {f : AS} (h : EndO K ro o σ F H fp e' P) (g : GoS K ro Γ1 σ F H fp e1 σ1 F1 H1 fp1 f) : EndO K ro o σ1 F1 H1 fp1 e' P := by
  cases o with
  | none => exact True.intro
  | some Γ => exact fun σ' F' H' fp' g2 => h σ' F' H' fp' (g.trans g2)
theorem EndO.imp {K : PySem.W.Frag} {ro : List Nat} {o : Option Gm} {e' : List Z.D} {P P' : L2.St → Hp → Prop} (h : EndO K ro o σ F H fp e' P) (m : ∀ σ' H', P σ' H' → P' σ' H') : EndO K ro o σ F H fp e' P' := by
  cases o with
  | none => exact True.intro
  | some Γ => exact fun σ' F' H' fp' g2 => m _ _ (h σ' F' H' fp' g2)
theorem OutS.weak {r : RS} (l : O'.le O) (h : OutS T W kp Rt O' σ F H fp D r) : OutS T W kp Rt O σ F H fp D r := by
  cases r with
  | nx e => exact EndO.weak l.nx h
  | bk e => exact EndO.weak l.bk h
  | ct e => exact EndO.weak l.ct h
  | rt d e => exact h
  | exc x e => exact h
  | bad => exact h
theorem OutS.back {r : RS} {Γ1 : Gm} {e1 : List Z.D} {f : AS} (h : OutS T W kp Rt O σ F H fp D r) (g : GoS T.K Rt.ro Γ1 σ F H fp e1 σ1 F1 H1 fp1 f) : OutS T W kp Rt O σ1 F1 H1 fp1 D r := by
  cases r with
  | nx e => exact EndO.back h g
  | bk e => exact EndO.back h g
  | ct e => exact EndO.back h g
  | rt d e => exact fun σ' F' H' fp' v f2 g2 r2 => h σ' F' H' fp' v f2 (g.trans g2) r2
  | exc x e => exact XWs.back h g
  | bad => exact h
end
theorem ss_weak {r : Env → RS} {x : Stmt} {Γ : Gm} {O O' : Out} (h : SS X T W kp Rt r x Γ O) (l : O'.le O) : SS X T W kp Rt r x Γ O' :=
  PS.mono h fun D σ H ⟨e, F, fp, s, z⟩ => ⟨e, F, fp, s, z.weak l⟩
/-! ### small statements -/
theorem ss_pass {pos : Pos} {Γ : Gm} : SS X T W kp Rt .nx (.Pass pos) Γ ⟨some Γ, none, none⟩ :=
  PS.mono ps_pass fun D σ H ⟨e, F, fp, s, z⟩ => z σ F H fp (.refl s)
theorem ss_doc {x : Str} {j : Nat} {pos pos' : Pos} {Γ : Gm} : SS X T W kp Rt .nx (.Expr (.Constant (.str x) j pos) pos') Γ ⟨some Γ, none, none⟩ :=
  PS.mono ps_doc fun D σ H ⟨e, F, fp, s, z⟩ => z σ F H fp (.refl s)
theorem ss_brk {pos : Pos} {Γ : Gm} : SS X T W kp Rt .bk (.Break pos) Γ ⟨none, some Γ, none⟩ :=
  PS.mono ps_break fun D σ H ⟨e, F, fp, s, z⟩ => z σ F H fp (.refl s)
theorem ss_ct {pos : Pos} {Γ : Gm} : SS X T W kp Rt .ct (.Continue pos) Γ ⟨none, none, some Γ⟩ :=
  PS.mono ps_continue fun D σ H ⟨e, F, fp, s, z⟩ => z σ F H fp (.refl s)
theorem sss_nil {Γ : Gm} : SSs X T W kp Rt .nx [] Γ ⟨some Γ, none, none⟩ :=
  PSs.mono pss_nil fun D σ H ⟨e, F, fp, s, z⟩ => z σ F H fp (.refl s)
theorem sss_cons {r1 r2 : Env → RS} {x : Stmt} {xs : List Stmt} {Γ Γ1 : Gm} {O1 O2 O : Out} (h1 : SS X T W kp Rt r1 x Γ O1) (h2 : SSs X T W kp Rt r2 xs Γ1 O2) (hn : O1.nx = some Γ1) (l1 : O.le { O1 with nx := none }) (l2 : O.le O2) :
    SSs X T W kp Rt (fun e => (r1 e).seq r2) (x :: xs) Γ O := by
  refine PSs.mono (pss_cons h1 h2) fun D σ H ⟨e, F, fp, s, z⟩ => ⟨e, F, fp, s, ?_⟩
  cases e1 : r1 e with
  | nx e' =>
    simp only [e1, RS.seq_nx] at z
    show EndO _ _ O1.nx _ _ _ _ _ _
    rw [hn]
    exact fun σ' F' H' fp' g => ⟨e', F', fp', g.st, (z.weak l2).back g⟩
  | bk e' => simp only [e1, RS.seq_bk] at z; exact EndO.weak l1.bk z
  | ct e' => simp only [e1, RS.seq_ct] at z; exact EndO.weak l1.ct z
  | rt d e' => simp only [e1, RS.seq_rt] at z; exact z
  | exc y e' => simp only [e1, RS.seq_exc] at z; exact z
  | bad => simp only [e1, RS.seq_bad] at z; exact z
/-- a block that ends here -/
theorem sss_end {r1 r2 : Env → RS} {x : Stmt} {xs : List Stmt} {Γ : Gm} {O1 O : Out} (h1 : SS X T W kp Rt r1 x Γ O1) (hn : O1.nx = none) (l1 : O.le O1) : SSs X T W kp Rt (fun e => (r1 e).seq r2) (x :: xs) Γ O := by
  refine PSs.mono (pss_cons h1 (pss_never (X := X))) fun D σ H ⟨e, F, fp, s, z⟩ => ⟨e, F, fp, s, ?_⟩
  cases e1 : r1 e with
  | nx e' =>
    show EndO _ _ O1.nx _ _ _ _ _ _
    rw [hn]; exact True.intro
  | bk e' => simp only [e1, RS.seq_bk] at z; exact EndO.weak l1.bk z
  | ct e' => simp only [e1, RS.seq_ct] at z; exact EndO.weak l1.ct z
  | rt d e' => simp only [e1, RS.seq_rt] at z; exact z
  | exc y e' => simp only [e1, RS.seq_exc] at z; exact z
  | bad => simp only [e1, RS.seq_bad] at z; exact z
theorem ss_if {rc : Env → R D} {ra rb : Env → RS} {c : Expr} {a b : List Stmt} {pos : Pos} {q : Bool} {Γ Γ1 : Gm} {Oa Ob O : Out} (hc : ST X T W kp q rc c Γ Γ1) (ha : SSs X T W kp Rt ra a Γ1 Oa) (hb : SSs X T W kp Rt rb b Γ1 Ob) (la : O.le Oa) (lb : O.le Ob) :
    SS X T W kp Rt (fun e => (rc e).st fun x e1 => match truth x with | some true => ra e1 | some false => rb e1 | none => .bad) (.If c a b pos) Γ O := by
  refine PS.mono (ps_if hc ha hb) fun D σ H ⟨e, F, fp, s, z⟩ => ⟨e, F, fp, s, ?_⟩
  cases e1 : rc e with
  | bad => simp only [e1, R.st_bad] at z; exact z
  | exc y e' => simp only [e1, R.st_exc] at z; exact XWs.at_ z
  | ok d e' =>
    simp only [e1, R.st_ok] at z ⊢
    cases e2 : truth d with
    | none => rw [e2] at z; exact z.elim
    | some t =>
      rw [e2] at z
      intro F' H' fp' g
      cases t with
      | true =>
        rw [if_pos rfl]
        exact ⟨e', F', fp', g.st, (z.weak la).back g.s⟩
      | false =>
        rw [if_neg Bool.false_ne_true]
        exact ⟨e', F', fp', g.st, (z.weak lb).back g.s⟩
/-- an expression alone -/
theorem ss_ex {ra : Env → R D} {a : Expr} {pos : Pos} {q : Bool} {Γ Γ1 : Gm} {m : Nat} (ha : SE X T W kp q ra a Γ m Γ1) (hs : swapsWith a none pos.line X.env = pure false) : SS X T W kp Rt (fun e => (ra e).st fun _ e1 => .nx e1) (.Expr a pos) Γ ⟨some Γ1, none, none⟩ := by
  refine PS.mono (ps_expr ha hs) fun D σ H ⟨e, F, fp, s, z⟩ => ⟨e, F, fp, s, ?_⟩
  cases e1 : ra e with
  | bad => simp only [e1, R.st_bad] at z; exact z
  | exc y e' => simp only [e1, R.st_exc] at z; exact XWs.at_ z
  | ok d e' =>
    simp only [e1, R.st_ok] at z ⊢
    exact fun F' H' fp' v f g val => z σ F' H' fp' (go_app g fun _ z => z.elim).s
/-- return -/
theorem ss_ret {ra : Env → R D} {a : Expr} {pos : Pos} {q : Bool} {Γ Γ1 : Gm} {m : Nat} (ha : SE X T W kp q ra a Γ m Γ1) (h1 : leG Rt.Γr Γ1) (h2 : 1 ≤ Rt.rl ∧ Rt.rl ≤ m) : SS X T W kp Rt (fun e => (ra e).st fun x e1 => .rt x e1) (.Return (some a) pos) Γ ⟨none, none, none⟩ := by
  refine PS.mono (ps_ret ha) fun D σ H ⟨e, F, fp, s, z⟩ => ⟨e, F, fp, s, ?_⟩
  cases e1 : ra e with
  | bad => simp only [e1, R.st_bad] at z; exact z
  | exc y e' => simp only [e1, R.st_exc] at z; exact XWs.at_ z
  | ok d e' =>
    simp only [e1, R.st_ok] at z ⊢
    have h : Cont T.K q Rt.Γr Rt.rl σ F H fp e.s e'.s d D.rt := fun F' H' fp' v f g val => z σ F' H' fp' v f g.s (by unfold Val at val; rw [if_neg (by omega)] at val; exact val)
    exact Cont.weak h1 (.inr h2) h
theorem ss_retN {pos : Pos} {Γ : Gm} (h1 : leG Rt.Γr Γ) : SS X T W kp Rt (fun e => .rt .non e) (.Return none pos) Γ ⟨none, none, none⟩ := by
  refine PS.mono ps_retN fun D σ H ⟨e, F, fp, s, z⟩ => ?_
  obtain ⟨F2, fp2, g2, _⟩ := (GoS.refl (ro := Rt.ro) s).weak h1 (fun _ z => z.elim)
  exact z σ F2 H fp2 .non emp g2 (by simp only [RO]; exact ⟨trivial, trivial⟩)
/-! ### storing -/
theorem St.put {K : PySem.W.Frag} {Γ : Gm} {e : List D} {σ : L2.St} {F H : Hp} {fp : Nat → AS} (s : St K Γ e σ F H fp) {i m : Nat} {d : D} {v : V} {f : AS} (hi : i < Γ.length) (hm : 1 ≤ m) (r : RO K F H d m v f) (hd : Dis f (Own fp)) :
    St K (Γ.set i m) (e.set i d) (σ.set i (some v)) F H (putF fp i f) := by
  have hσ : i < σ.length := by rw [← s.lG]; exact hi
  have he : i < e.length := by rw [s.le]; exact hσ
  refine ⟨s.sub, by rw [List.length_set, List.length_set]; exact s.lG, by rw [List.length_set, List.length_set]; exact s.le, fun j hj => ?_, fun j l hjl a h1 h2 => ?_, fun j hj => ?_⟩
  · rw [lvOf_set hi] at hj ⊢
    by_cases hji : j = i
    · subst hji
      rw [if_pos rfl]
      exact ⟨d, v, List.getElem?_set_self he, List.getElem?_set_self hσ, by unfold putF; rw [if_pos rfl]; exact r⟩
    · rw [if_neg hji] at hj ⊢
      obtain ⟨d2, v2, e1, e2, r2⟩ := s.at_ j hj
      exact ⟨d2, v2, by rw [List.getElem?_set_ne (Ne.symm hji)]; exact e1, by rw [List.getElem?_set_ne (Ne.symm hji)]; exact e2, by unfold putF; rw [if_neg hji]; exact r2⟩
  · unfold putF at h1 h2
    split at h1 <;> split at h2
    · rename_i a1 a2; exact hjl (a1.trans a2.symm)
    · exact hd a h1 ⟨l, h2⟩
    · exact hd a h2 ⟨j, h1⟩
    · exact s.dis j l hjl a h1 h2
  · rw [lvOf_set hi] at hj
    unfold putF
    by_cases hji : j = i
    · rw [if_pos hji] at hj; omega
    · rw [if_neg hji] at hj ⊢; exact s.dead j hj
theorem GoS.put {K : PySem.W.Frag} {ro : List Nat} {Γ' : Gm} {σ σ1 : L2.St} {F H F1 H1 : Hp} {fp fp1 : Nat → AS} {e' : List D} {f : AS} {i m : Nat} {d : D} {v : V} (g : GoS K ro Γ' σ F H fp e' σ1 F1 H1 fp1 f) (hi : i < Γ'.length) (hm : 1 ≤ m) (hr : i ∉ ro) (r : RO K F1 H1 d m v f) :
    GoS K ro (Γ'.set i m) σ F H fp (e'.set i d) (σ1.set i (some v)) F1 H1 (putF fp1 i f) emp := by
  refine ⟨g.st.put hi hm r g.dis, fun _ z => z.elim, g.ch, fun a z => ?_, fun j hj => ?_, by rw [List.length_set]; exact g.len⟩
  · rcases z with z | z
    · rcases own_putF z with z | ⟨j, _, z⟩
      · exact g.grow a (.inr z)
      · exact g.grow a (.inl ⟨j, z⟩)
    · exact z.elim
  · rw [List.getElem?_set_ne (by rintro rfl; exact hr hj)]
    exact g.ro j hj
/-- x = e -/
theorem ss_asg {ra : Env → R D} {a tg : Expr} {pos : Pos} {q : Bool} {Γ Γ1 : Gm} {m i : Nat} (h : PS X (.Assign [tg] a pos) (tAsg (rdE T W kp q ra Γ m Γ1) (gName i))) (hm : 1 ≤ m) (hi : i < Γ1.length) (hr : i ∉ Rt.ro) :
    SS X T W kp Rt (fun e => (ra e).st fun x e1 => .nx (e1.set i x)) (.Assign [tg] a pos) Γ ⟨some (Γ1.set i m), none, none⟩ := by
  refine PS.mono h fun D σ H ⟨e, F, fp, s, z⟩ => ⟨e, F, fp, s, ?_⟩
  cases e1 : ra e with
  | bad => simp only [e1, R.st_bad] at z; exact z
  | exc y e' => simp only [e1, R.st_exc] at z; exact XWs.at_ z
  | ok d e' =>
    simp only [e1, R.st_ok] at z ⊢
    intro F' H' fp' v f g val
    unfold Val at val
    rw [if_neg (by omega)] at val
    exact z _ F' H' _ (g.s.put hi hm hr val)
/-- x op= e -/
theorem g_iadd : OpR X (inplaceOp .Add) (rG X.K (op2i .add)) := by
  have h := OpR.or (iop_add (X := X)) iop_add_str
  refine h.imp fun v u H Q ⟨x, y, d, h1, h2, h3, h4⟩ => ?_
  cases x <;> cases y <;> simp only [op2i, reduceCtorEq, Option.some.injEq] at h3
  · obtain rfl := rf_int h1; obtain rfl := rf_int h2; subst h3
    exact .inl ⟨_, _, rfl, rfl, h4 _ mk_int⟩
  · obtain rfl := rf_str h1; obtain rfl := rf_str h2
    unfold guardL at h3
    split at h3 <;> simp only [reduceCtorEq, Option.some.injEq] at h3
    rename_i hl
    subst h3
    refine .inr ⟨_, _, rfl, rfl, ?_, ?_⟩
    · rw [txt_len, txt_len]; exact lim_line hl
    · rw [txt_app]; exact h4 _ mk_str
theorem g_isub : OpR X (inplaceOp .Sub) (rG X.K (op2i .sub)) := by
  refine (iop_sub (X := X)).imp fun v u H Q ⟨x, y, d, h1, h2, h3, h4⟩ => ?_
  cases x <;> cases y <;> simp only [op2i, reduceCtorEq, Option.some.injEq] at h3
  obtain rfl := rf_int h1; obtain rfl := rf_int h2; subst h3
  exact ⟨_, _, rfl, rfl, h4 _ mk_int⟩
theorem g_iop {o : O2} (h : o = .add ∨ o = .sub) : OpR X (inplaceOp (opOf o)) (rG X.K (op2i o)) := by
  rcases h with rfl | rfl
  · exact g_iadd
  · exact g_isub
theorem flat_op2i {o : O2} {x y d : D} (h : op2i o x y = some d) : flat d = true := by
  cases o <;> cases x <;> cases y <;> first
    | (simp [op2i] at h; done)
    | (simp only [op2i, Option.some.injEq] at h; subst h; rfl)
    | (simp only [op2i, guardL] at h; split at h <;> simp only [reduceCtorEq, Option.some.injEq] at h; subst h; rfl)
theorem ss_aug {ra : Env → R D} {a tg : Expr} {pos : Pos} {q : Bool} {Γ Γ1 : Gm} {m i : Nat} {o : O2} (hK : X.K = T.K) (h : PS X (.AugAssign tg (opOf o) a pos) (tAug i (rdE T W kp q ra Γ m Γ1) (rG X.K (op2i o)))) (hq : q = true) (h0 : 1 ≤ lvOf Γ i) (h1 : 1 ≤ lvOf Γ1 i) (hr : i ∉ Rt.ro) :
    SS X T W kp Rt (fun e => match e.get i with | none => .bad | some x => (ra e).st fun y e1 => match op2i o x y with | some z => .nx (e1.set i z) | none => .bad) (.AugAssign tg (opOf o) a pos) Γ ⟨some (Γ1.set i 100), none, none⟩ := by
  refine PS.mono h fun D σ H ⟨e, F, fp, s, z⟩ => ?_
  obtain ⟨d0, v0, e0, e0', r0⟩ := s.at_ i h0
  have e1' : e.get i = some d0 := e0
  dsimp only at z
  rw [e1'] at z
  dsimp only at z
  refine ⟨v0, e0', e, F, fp, s, ?_⟩
  cases e1 : ra e with
  | bad => rw [e1] at z; exact z
  | exc y e' => rw [e1] at z; exact XWs.at_ z
  | ok d e' =>
    rw [e1] at z
    simp only [R.st_ok] at z ⊢
    cases e2 : op2i o d0 d with
    | none => rw [e2] at z; exact z.elim
    | some w =>
      rw [e2] at z
      intro F' H' fp' v f g val
      have hi := lvOf_lt h1
      have rf0 : RF T.K H' d0 v0 := RF.sub (g.ch.subH hq) _ _ (RO.rf s.sub d0 _ v0 _ r0)
      refine ⟨d0, d, w, hK ▸ rf0, hK ▸ val.rf g.st.sub, e2, fun u ru => ?_⟩
      have val2 : Val T.K 100 F' H' w u emp := Val.flat (flat_op2i e2) (hK ▸ ru)
      unfold Val at val2
      rw [if_neg (by decide)] at val2
      have g0 : GoS T.K Rt.ro Γ1 σ F H fp e'.s σ F' H' fp' emp := (go_app g fun a z => z.elim).s
      exact z _ F' H' _ (g0.put hi (by decide) hr val2)
end
end Z

/-! Z8: a list is changed at a place. -/
namespace Z
open PySem L2
def dnk : Nat → Nat → Nat
  | 0, n => n
  | k + 1, n => dnk k (dn n)
/-- from (d, v) the places ps lead to (d', v') -/
def AtP (H : Hp) : List D → D → V → D → V → Prop
  | [], d, v, d', v' => d' = d ∧ v' = v
  | i :: p, d, v, d', v' => ∃ a xs vs j x w k, i = .int k ∧ (d = .lst xs ∧ H a = some (.lst vs) ∨ d = .tup xs ∧ H a = some (.tup vs)) ∧ v = .ref a ∧ ixn xs.length k = some j ∧ vs.length = xs.length ∧ xs[j]? = some x ∧ vs[j]? = some w ∧ AtP H p x w d' v'
theorem AtP.sub {H H' : Hp} (s : Sub H H') : ∀ {ps : List D} {d : D} {v : V} {d' : D} {v' : V}, AtP H ps d v d' v' → AtP H' ps d v d' v'
  | [], _, _, _, _, h => h
  | i :: p, d, v, d', v', h => by
    obtain ⟨a, xs, vs, j, x, w, k, e0, e1, e2, e3, e4, e5, e6, r⟩ := h
    refine ⟨a, xs, vs, j, x, w, k, e0, ?_, e2, e3, e4, e5, e6, AtP.sub s r⟩
    rcases e1 with ⟨h1, h2⟩ | ⟨h1, h2⟩
    · exact .inl ⟨h1, s _ _ h2⟩
    · exact .inr ⟨h1, s _ _ h2⟩
section
variable {K : PySem.W.Frag} {F H : Hp}
/-- one part of a list's parts, changed -/
theorem ROL.upd : ∀ {xs : List D} {n : Nat} {vs : List V} {f : AS} {j : Nat} {x : D} {w : V}, ROL K F H xs n vs f → xs[j]? = some x → vs[j]? = some w →
    ∃ g h, (∀ a, f a ↔ g a ∨ h a) ∧ Dis g h ∧ RO K F H x n w g ∧ ∀ F2 H2 x2 w2 g2, Kept h F H F2 H2 → RO K F2 H2 x2 n w2 g2 → Dis g2 h → ROL K F2 H2 (xs.set j x2) n (vs.set j w2) (fun a => g2 a ∨ h a)
  | [], _, _, _, _, _, _, _, e, _ => by simp at e
  | y :: xs, n, vs, f, j, x, w, r, e, e' => by
    simp only [ROL] at r
    obtain ⟨u, ws, g1, g2, rfl, q, r, d, rfl⟩ := r
    cases j with
    | zero =>
      simp only [List.getElem?_cons_zero, Option.some.injEq] at e e'
      subst e e'
      refine ⟨g1, g2, fun a => Iff.rfl, d, q, fun F2 H2 x2 w2 g3 k r2 d2 => ?_⟩
      simp only [List.set_cons_zero, ROL]
      exact ⟨w2, ws, g3, g2, rfl, r2, ROL.kept xs n ws g2 k r, d2, rfl⟩
    | succ j =>
      simp only [List.getElem?_cons_succ] at e e'
      obtain ⟨g, h, hs, hd, r0, hu⟩ := ROL.upd r e e'
      refine ⟨g, fun a => g1 a ∨ h a, fun a => ?_, fun a z1 z2 => ?_, r0, fun F2 H2 x2 w2 g3 k r2 d2 => ?_⟩
      · have := hs a; grind
      · rcases z2 with z2 | z2
        · exact d a z2 ((hs a).mpr (.inl z1))
        · exact hd a z1 z2
      · simp only [List.set_cons_succ, ROL]
        refine ⟨u, ws.set j w2, g1, fun a => g3 a ∨ h a, rfl, RO.kept y n u g1 (k.mono fun a z => .inl z) q, hu F2 H2 x2 w2 g3 (k.mono fun a z => .inr z) r2 (fun a z1 z2 => d2 a z1 (.inr z2)), fun a z1 z2 => ?_, ?_⟩
        · rcases z2 with z2 | z2
          · exact d2 a z2 (.inl z1)
          · exact d a z1 ((hs a).mpr (.inr z2))
        · funext a
          exact propext ⟨fun z => by rcases z with z | z | z <;> grind, fun z => by rcases z with z | z | z <;> grind⟩
/-- the value at a place, changed -/
theorem RO.upd : ∀ {ps : List D} {d : D} {n : Nat} {v : V} {f : AS} {d1 : D} {v1 : V}, RO K F H d n v f → AtP H ps d v d1 v1 → ps.length + 2 ≤ n ∧ ps.length ≤ 50 →
    ∃ g h, (∀ a, f a ↔ g a ∨ h a) ∧ Dis g h ∧ RO K F H d1 (dnk ps.length n) v1 g ∧
      ∀ F2 H2 d2 g2, Kept h F H F2 H2 → RO K F2 H2 d2 (dnk ps.length n) v1 g2 → Dis g2 h → ∀ fn : D → Option D, fn d1 = some d2 → ∃ dn', updAt fn ps d = some dn' ∧ RO K F2 H2 dn' n v (fun a => g2 a ∨ h a)
  | [], d, n, v, f, d1, v1, r, hp, _ => by
    obtain ⟨rfl, rfl⟩ := hp
    refine ⟨f, emp, fun a => by simp [emp], fun _ _ z => z, r, fun F2 H2 d2 g2 _ r2 _ fn hf => ⟨d2, hf, ?_⟩⟩
    have : (fun a => g2 a ∨ emp a) = g2 := by funext a; simp [emp]
    rw [this]; exact r2
  | i :: p, d, n, v, f, d1, v1, r, hp, hn => by
    obtain ⟨a, xs, vs, j, x, w, k, rfl, e1, rfl, e3, e4, e5, e6, hp⟩ := hp
    have hn1 : ¬ n ≤ 1 := by simp at hn; omega
    have hdn : p.length + 2 ≤ dn n ∧ p.length ≤ 50 := by
      simp only [List.length_cons] at hn
      unfold dn
      rw [if_neg hn1]
      split <;> omega
    rcases e1 with ⟨rfl, eH⟩ | ⟨rfl, eH⟩
    · unfold RO at r
      rw [if_neg hn1] at r
      obtain ⟨a', vs', g0, ea, q, z, na, r, rfl⟩ := r
      cases ea
      rw [eH] at q; cases q
      obtain ⟨g, h, hs, hd, r0, hu⟩ := ROL.upd r e5 e6
      obtain ⟨g', h', hs', hd', r1, hu'⟩ := RO.upd r0 hp hdn
      refine ⟨g', fun b => b = a ∨ h b ∨ h' b, fun b => ?_, fun b z1 z2 => ?_, r1, fun F2 H2 d2 g2 kk r2 d2' fn hf => ?_⟩
      · have := hs b; have := hs' b; grind
      · have := hs b; have := hs' b; have := hd b; have := hd' b
        rcases z2 with rfl | z2 | z2
        · exact na ((hs b).mpr (.inl ((hs' b).mpr (.inl z1))))
        · exact hd b ((hs' b).mpr (.inl z1)) z2
        · exact hd' b z1 z2
      · obtain ⟨x2, ex, rx⟩ := hu' F2 H2 d2 g2 (kk.mono fun b z => .inr (.inr z)) r2 (fun b z1 z2 => d2' b z1 (.inr (.inr z2))) fn hf
        have rl := hu F2 H2 x2 w (fun b => g2 b ∨ h' b) (kk.mono fun b z => .inr (.inl z)) rx (fun b z1 z2 => by
          rcases z1 with z1 | z1
          · exact d2' b z1 (.inr (.inl z2))
          · exact hd b ((hs' b).mpr (.inr z1)) z2)
        have ew : vs.set j w = vs := by
          refine List.ext_getElem? fun m => ?_
          rw [List.getElem?_set]
          split
          · rename_i hm; subst hm; split
            · exact e6.symm
            · rename_i hl; rw [List.getElem?_eq_none (by omega)]
          · rfl
        rw [ew] at rl
        refine ⟨.lst (xs.set j x2), ?_, ?_⟩
        · simp only [updAt, e3, e5, ex, Option.bind_some, Option.map_some]
        · unfold RO
          rw [if_neg hn1]
          refine ⟨a, vs, _, rfl, ?_, kk.out a (.inl rfl) z, ?_, rl, ?_⟩
          · rw [kk.at_ a (.inl rfl), eH]
          · rintro ((z1 | z1) | z1)
            · exact d2' a z1 (.inl rfl)
            · exact na ((hs a).mpr (.inl ((hs' a).mpr (.inr z1))))
            · exact na ((hs a).mpr (.inr z1))
          · funext b; exact propext ⟨fun z => by grind, fun z => by grind⟩
    · unfold RO at r
      rw [if_neg hn1] at r
      obtain ⟨a', vs', g0, ea, q, z, na, r, rfl⟩ := r
      cases ea
      rw [eH] at q; cases q
      obtain ⟨g, h, hs, hd, r0, hu⟩ := ROL.upd r e5 e6
      obtain ⟨g', h', hs', hd', r1, hu'⟩ := RO.upd r0 hp hdn
      refine ⟨g', fun b => b = a ∨ h b ∨ h' b, fun b => ?_, fun b z1 z2 => ?_, r1, fun F2 H2 d2 g2 kk r2 d2' fn hf => ?_⟩
      · have := hs b; have := hs' b; grind
      · have := hs b; have := hs' b; have := hd b; have := hd' b
        rcases z2 with rfl | z2 | z2
        · exact na ((hs b).mpr (.inl ((hs' b).mpr (.inl z1))))
        · exact hd b ((hs' b).mpr (.inl z1)) z2
        · exact hd' b z1 z2
      · obtain ⟨x2, ex, rx⟩ := hu' F2 H2 d2 g2 (kk.mono fun b z => .inr (.inr z)) r2 (fun b z1 z2 => d2' b z1 (.inr (.inr z2))) fn hf
        have rl := hu F2 H2 x2 w (fun b => g2 b ∨ h' b) (kk.mono fun b z => .inr (.inl z)) rx (fun b z1 z2 => by
          rcases z1 with z1 | z1
          · exact d2' b z1 (.inr (.inl z2))
          · exact hd b ((hs' b).mpr (.inr z1)) z2)
        have ew : vs.set j w = vs := by
          refine List.ext_getElem? fun m => ?_
          rw [List.getElem?_set]
          split
          · rename_i hm; subst hm; split
            · exact e6.symm
            · rename_i hl; rw [List.getElem?_eq_none (by omega)]
          · rfl
        rw [ew] at rl
        refine ⟨.tup (xs.set j x2), ?_, ?_⟩
        · simp only [updAt, e3, e5, ex, Option.bind_some, Option.map_some]
        · unfold RO
          rw [if_neg hn1]
          refine ⟨a, vs, _, rfl, ?_, kk.out a (.inl rfl) z, ?_, rl, ?_⟩
          · rw [kk.at_ a (.inl rfl), eH]
          · rintro ((z1 | z1) | z1)
            · exact d2' a z1 (.inl rfl)
            · exact na ((hs a).mpr (.inl ((hs' a).mpr (.inr z1))))
            · exact na ((hs a).mpr (.inr z1))
          · funext b; exact propext ⟨fun z => by grind, fun z => by grind⟩
/-- a place that the evaluator finds -/
theorem AtP.of : ∀ {ps : List D} {d : D} {n : Nat} {v : V} {f : AS} {fn : D → Option D} {dn' : D}, RO K F H d n v f → ps.length + 2 ≤ n ∧ ps.length ≤ 50 → updAt fn ps d = some dn' → ∃ d1 v1 d2, AtP H ps d v d1 v1 ∧ fn d1 = some d2
  | [], d, n, v, f, fn, dn', _, _, h => ⟨d, v, dn', ⟨rfl, rfl⟩, h⟩
  | i :: p, d, n, v, f, fn, dn', r, hn, h => by
    have hn1 : ¬ n ≤ 1 := by simp at hn; omega
    have hdn : p.length + 2 ≤ dn n ∧ p.length ≤ 50 := by
      simp only [List.length_cons] at hn
      unfold dn
      rw [if_neg hn1]
      split <;> omega
    cases i <;> try (simp [updAt] at h; done)
    rename_i k
    cases d <;> try (simp [updAt] at h; done)
    · rename_i xs
      simp only [updAt, Option.bind_eq_some_iff, Option.map_eq_some_iff] at h
      obtain ⟨j, e3, x, e5, y, e7, rfl⟩ := h
      unfold RO at r
      rw [if_neg hn1] at r
      obtain ⟨a, vs, g0, rfl, q, z, na, r, rfl⟩ := r
      have hl := rol_len r
      obtain ⟨w, g1, e6, r1, _⟩ := rol_get r e5
      obtain ⟨d1, v1, d2, hp, hf⟩ := AtP.of r1 hdn e7
      exact ⟨d1, v1, d2, ⟨a, xs, vs, j, x, w, k, rfl, .inr ⟨rfl, q⟩, rfl, e3, hl, e5, e6, hp⟩, hf⟩
    · rename_i xs
      simp only [updAt, Option.bind_eq_some_iff, Option.map_eq_some_iff] at h
      obtain ⟨j, e3, x, e5, y, e7, rfl⟩ := h
      unfold RO at r
      rw [if_neg hn1] at r
      obtain ⟨a, vs, g0, rfl, q, z, na, r, rfl⟩ := r
      have hl := rol_len r
      obtain ⟨w, g1, e6, r1, _⟩ := rol_get r e5
      obtain ⟨d1, v1, d2, hp, hf⟩ := AtP.of r1 hdn e7
      exact ⟨d1, v1, d2, ⟨a, xs, vs, j, x, w, k, rfl, .inl ⟨rfl, q⟩, rfl, e3, hl, e5, e6, hp⟩, hf⟩
theorem AtP.fun_ {H : Hp} : ∀ {ps : List D} {d : D} {v : V} {d1 d2 : D} {v1 v2 : V}, AtP H ps d v d1 v1 → AtP H ps d v d2 v2 → d1 = d2 ∧ v1 = v2
  | [], _, _, _, _, _, _, h, h' => ⟨h.1.trans h'.1.symm, h.2.trans h'.2.symm⟩
  | i :: p, d, v, d1, d2, v1, v2, h, h' => by
    obtain ⟨a, xs, vs, j, x, w, k, rfl, e1, rfl, e3, e4, e5, e6, r⟩ := h
    obtain ⟨a', xs', vs', j', x', w', k', e0', e1', e2', e3', e4', e5', e6', r'⟩ := h'
    cases e2'; cases e0'
    have : xs = xs' ∧ vs = vs' := by
      rcases e1 with ⟨rfl, q⟩ | ⟨rfl, q⟩ <;> rcases e1' with ⟨u, q'⟩ | ⟨u, q'⟩ <;> cases u <;> rw [q] at q' <;> cases q' <;> exact ⟨rfl, rfl⟩
    obtain ⟨rfl, rfl⟩ := this
    rw [e3] at e3'; cases e3'
    rw [e5] at e5'; cases e5'
    rw [e6] at e6'; cases e6'
    exact AtP.fun_ r r'
theorem AtP.app {H : Hp} : ∀ {ps qs : List D} {d : D} {v : V} {d2 : D} {v2 : V}, AtP H (ps ++ qs) d v d2 v2 → ∃ d1 v1, AtP H ps d v d1 v1 ∧ AtP H qs d1 v1 d2 v2
  | [], _, d, v, _, _, h => ⟨d, v, ⟨rfl, rfl⟩, h⟩
  | i :: p, qs, d, v, d2, v2, h => by
    obtain ⟨a, xs, vs, j, x, w, k, e0, e1, e2, e3, e4, e5, e6, r⟩ := h
    obtain ⟨d1, v1, r1, r2⟩ := AtP.app r
    exact ⟨d1, v1, ⟨a, xs, vs, j, x, w, k, e0, e1, e2, e3, e4, e5, e6, r1⟩, r2⟩
theorem AtP.get : ∀ {ps : List D} {d : D} {n : Nat} {v : V} {f : AS} {d1 : D}, RO K F H d n v f → ps.length + 1 ≤ n ∧ ps.length ≤ 50 → getP ps d = some d1 → ∃ v1, AtP H ps d v d1 v1
  | [], d, n, v, f, d1, _, _, h => by
    simp only [getP, Option.some.injEq] at h
    exact ⟨v, h.symm, rfl⟩
  | i :: p, d, n, v, f, d1, r, hn, h => by
    have hn1 : ¬ n ≤ 1 := by simp at hn; omega
    have hdn : p.length + 1 ≤ dn n ∧ p.length ≤ 50 := by
      simp only [List.length_cons] at hn
      unfold dn
      rw [if_neg hn1]
      split <;> omega
    cases i <;> try (simp [getP] at h; done)
    rename_i k
    cases d <;> try (simp [getP] at h; done)
    · rename_i xs
      simp only [getP, Option.bind_eq_some_iff] at h
      obtain ⟨j, e3, x, e5, e7⟩ := h
      unfold RO at r
      rw [if_neg hn1] at r
      obtain ⟨a, vs, g0, rfl, q, z, na, r, rfl⟩ := r
      have hl := rol_len r
      obtain ⟨w, g1, e6, r1, _⟩ := rol_get r e5
      obtain ⟨v1, hp⟩ := AtP.get r1 hdn e7
      exact ⟨v1, a, xs, vs, j, x, w, k, rfl, .inr ⟨rfl, q⟩, rfl, e3, hl, e5, e6, hp⟩
    · rename_i xs
      simp only [getP, Option.bind_eq_some_iff] at h
      obtain ⟨j, e3, x, e5, e7⟩ := h
      unfold RO at r
      rw [if_neg hn1] at r
      obtain ⟨a, vs, g0, rfl, q, z, na, r, rfl⟩ := r
      have hl := rol_len r
      obtain ⟨w, g1, e6, r1, _⟩ := rol_get r e5
      obtain ⟨v1, hp⟩ := AtP.get r1 hdn e7
      exact ⟨v1, a, xs, vs, j, x, w, k, rfl, .inl ⟨rfl, q⟩, rfl, e3, hl, e5, e6, hp⟩
theorem getP_app : ∀ {ps qs : List D} {d d2 : D}, getP (ps ++ qs) d = some d2 → ∃ d1, getP ps d = some d1 ∧ getP qs d1 = some d2
  | [], _, d, _, h => ⟨d, rfl, h⟩
  | i :: p, qs, d, d2, h => by
    cases i <;> try (simp [getP] at h; done)
    cases d <;> try (simp [getP] at h; done)
    · simp only [List.cons_append, getP, Option.bind_eq_some_iff] at h
      obtain ⟨j, e3, x, e5, e7⟩ := h
      obtain ⟨d1, r1, r2⟩ := getP_app e7
      exact ⟨d1, by simp only [getP, e3, e5, Option.bind_some]; exact r1, r2⟩
    · simp only [List.cons_append, getP, Option.bind_eq_some_iff] at h
      obtain ⟨j, e3, x, e5, e7⟩ := h
      obtain ⟨d1, r1, r2⟩ := getP_app e7
      exact ⟨d1, by simp only [getP, e3, e5, Option.bind_some]; exact r1, r2⟩
theorem getP_upd : ∀ {ps : List D} {d dn' : D} {fn : D → Option D}, updAt fn ps d = some dn' → ∃ d1 d2, getP ps d = some d1 ∧ fn d1 = some d2
  | [], d, dn', fn, h => ⟨d, dn', rfl, h⟩
  | i :: p, d, dn', fn, h => by
    cases i <;> try (simp [updAt] at h; done)
    cases d <;> try (simp [updAt] at h; done)
    · simp only [updAt, Option.bind_eq_some_iff, Option.map_eq_some_iff] at h
      obtain ⟨j, e3, x, e5, y, e7, _⟩ := h
      obtain ⟨d1, d2, r1, r2⟩ := getP_upd e7
      exact ⟨d1, d2, by simp only [getP, e3, e5, Option.bind_some]; exact r1, r2⟩
    · simp only [updAt, Option.bind_eq_some_iff, Option.map_eq_some_iff] at h
      obtain ⟨j, e3, x, e5, y, e7, _⟩ := h
      obtain ⟨d1, d2, r1, r2⟩ := getP_upd e7
      exact ⟨d1, d2, by simp only [getP, e3, e5, Option.bind_some]; exact r1, r2⟩
end
section
variable {X : Cx} {T : Tb} {W : WX} {kp : List Nat} {Rt : RT}
def rdP (T : Tb) (W : WX) (kp : List Nat) (r : Env → R (Nat × List D)) (Γ : Gm) : TE := fun σ H Q => ∃ e F fp, St T.K Γ e.s σ F H fp ∧ match r e with
  | .ok ps e' => ∃ d0 d1, e.s[ps.1]? = some d0 ∧ getP ps.2 d0 = some d1 ∧ ps.2.length + 1 ≤ lvOf Γ ps.1 ∧ ps.2.length ≤ 50 ∧
      ∀ F' H' fp' v0 v1, Go T.K true Γ σ F H fp e.s e'.s F' H' fp' emp → σ[ps.1]? = some (some v0) → AtP H' ps.2 d0 v0 d1 v1 → Q v1 H'
  | .exc x e' => XW T W kp σ F H fp x e'.s
  | .bad => False
/-- THE JUDGEMENT of a place -/
def SP (X : Cx) (T : Tb) (W : WX) (kp : List Nat) (r : Env → R (Nat × List D)) (x : Expr) (Γ : Gm) : Prop := PE X x (rdP T W kp r Γ)
theorem sp_var {x : Expr} {Γ : Gm} {i : Nat} (h : PE X x (tVar i)) : SP X T W kp (fun e => .ok (i, []) e) x Γ := by
  refine PE.mono h fun σ H Q z => ?_
  obtain ⟨e, F, fp, s, d0, d1, e0, e1, h1, _, k⟩ := z
  simp only [getP, Option.some.injEq] at e1
  subst e1
  obtain ⟨d, v, ea, eb, r⟩ := s.at_ i (by simpa using h1)
  exact ⟨v, eb, k F H fp v v (Go.refl s) eb ⟨rfl, rfl⟩⟩
theorem sp_ix {rb : Env → R (Nat × List D)} {ri : Env → R D} {b i : Expr} {pos : Pos} {Γ : Gm} {n : Nat} (hK : X.K = T.K) (hb : SP X T W kp rb b Γ) (hi : SE X T W kp true ri i Γ n Γ) (hp : PlainIx i) :
    SP X T W kp (fun e => (rb e).bind fun ps e1 => (ri e1).nox.bind fun j e2 => .ok (ps.1, ps.2 ++ [j]) { e2 with s := e1.s }) (.Subscript b i pos) Γ := by
  refine PE.mono (pe_ix ix_seq hb hi hp) fun σ H Q z => ?_
  obtain ⟨e, F, fp, s, z⟩ := z
  refine ⟨e, F, fp, s, ?_⟩
  dsimp only at z
  cases e1 : rb e with
  | bad => rw [e1] at z; exact z
  | exc y e' => rw [e1] at z; exact z
  | ok ps e' =>
    rw [e1] at z
    simp only [R.bind_ok] at z
    cases e2 : ri e' with
    | bad => rw [e2] at z; exact z.elim
    | exc y e'' => rw [e2] at z; exact z.elim
    | ok j e'' =>
      rw [e2] at z
      simp only [R.nox_ok, R.bind_ok] at z
      obtain ⟨d0, d1, h0, hg, hl, h50, k⟩ := z
      obtain ⟨db, hgb, hgj⟩ := getP_app hg
      simp only [List.length_append, List.length_cons, List.length_nil] at hl h50
      refine ⟨d0, db, h0, hgb, by omega, by omega, fun F1 H1 fp1 v0 vb g1 hv0 hp1 => ?_⟩
      refine ⟨e', F1, fp1, g1.st, ?_⟩
      rw [e2]
      intro F2 H2 fp2 u f2 g2 val
      have g12 := Go.then_ g1 g2
      have es : e''.s = e.s := g12.same rfl
      have hx : 1 ≤ lvOf Γ ps.1 := by omega
      obtain ⟨d0', v0', ea, eb, r0⟩ := g12.st.at_ ps.1 hx
      rw [es, h0] at ea; cases ea
      rw [hv0] at eb; cases eb
      obtain ⟨v1, hp2⟩ := AtP.get r0 (ps := ps.2 ++ [j]) (by simp only [List.length_append, List.length_cons, List.length_nil]; omega) hg
      obtain ⟨db', vb', hpa, hpb⟩ := hp2.app
      have := AtP.fun_ (hp1.sub (g2.ch.subH rfl)) hpa
      obtain ⟨rfl, rfl⟩ := this
      have es2 : e''.s = e'.s := g2.same rfl
      rw [es2] at g12
      have hq := k F2 H2 fp2 v0 v1 (go_app g12 fun _ z => z.elim) hv0 hp2
      obtain ⟨a, xs, vs, jj, x, w, kk, rfl, q1, rfl, q3, q4, q5, q6, rfl, rfl⟩ := hpb
      obtain rfl := rf_int (val.rf g2.st.sub)
      have hat : atI vs kk = some v1 := by unfold atI; rw [q4, ixn_eq, q3]; exact q6
      rcases q1 with ⟨_, q1⟩ | ⟨_, q1⟩
      · exact .inl ⟨a, vs, kk, _, rfl, rfl, .inl (.inl q1), hat, hq⟩
      · exact .inr (.inl ⟨a, vs, kk, _, rfl, rfl, .inl (.inl q1), hat, hq⟩)
end
section
variable {K : PySem.W.Frag} {Γ : Gm} {e : List D} {σ : L2.St} {F H : Hp} {fp : Nat → AS}
/-- a place of the local x is to be changed -/
theorem St.change (s : St K Γ e σ F H fp) {x mN : Nat} {ps : List D} {d0 d1 : D} {v0 v1 : V} (hx : e[x]? = some d0) (hv : σ[x]? = some (some v0)) (hp : AtP H ps d0 v0 d1 v1) (h1 : ps.length + 2 ≤ mN) (h2 : mN ≤ lvOf Γ x) (h3 : ps.length ≤ 50) :
    ∃ F1 fp1 g h, St K (Γ.set x mN) e σ F1 H fp1 ∧ Ch (Own fp) emp F H F1 H ∧ (∀ a, Own fp1 a → Own fp a) ∧ (∀ a, fp1 x a ↔ g a ∨ h a) ∧ Dis g h ∧ RO K F1 H d1 (dnk ps.length mN) v1 g ∧
      ∀ F2 H2 d2 g2 (fn : D → Option D), Sub F1 F2 → Sub F2 H2 → (∀ a, Own fp1 a → ¬ g a → H2 a = H a ∧ F2 a = none ∧ ¬ g2 a) → RO K F2 H2 d2 (dnk ps.length mN) v1 g2 → fn d1 = some d2 →
        ∃ dn', updAt fn ps d0 = some dn' ∧ St K (Γ.set x mN) (e.set x dn') σ F2 H2 (putF fp1 x fun a => g2 a ∨ h a) := by
  obtain ⟨F1, fp1, s1, c1, o1, _, _⟩ := s.low (i := x) (m := mN) (by omega) h2
  have hi := lvOf_lt (Γ := Γ) (i := x) (by omega)
  obtain ⟨d, v, e1, e2, r⟩ := s1.at_ x (by rw [lvOf_set hi, if_pos rfl]; omega)
  rw [hx] at e1; cases e1
  rw [hv] at e2; cases e2
  rw [lvOf_set hi, if_pos rfl] at r
  obtain ⟨g, h, hs, hd, r1, hu⟩ := RO.upd r hp ⟨h1, h3⟩
  refine ⟨F1, fp1, g, h, s1, c1, o1, hs, hd, r1, fun F2 H2 d2 g2 fn sF sH kk r2 hf => ?_⟩
  have gx : ∀ a, h a → Own fp1 a ∧ ¬ g a := fun a z => ⟨⟨x, (hs a).mpr (.inr z)⟩, fun y => hd a y z⟩
  obtain ⟨dn', eu, ru⟩ := hu F2 H2 d2 g2 ⟨sF, fun a z => (kk a (gx a z).1 (gx a z).2).1, fun a z _ => (kk a (gx a z).1 (gx a z).2).2.1⟩ r2 (fun a z1 z2 => (kk a (gx a z2).1 (gx a z2).2).2.2 z1) fn hf
  refine ⟨dn', eu, ?_⟩
  have hil : x < e.length := by rw [s.le, ← s.lG]; exact hi
  refine ⟨sH, s1.lG, by rw [List.length_set]; exact s1.le, fun j hj => ?_, fun j l hjl a z1 z2 => ?_, fun j hj => ?_⟩
  · by_cases hjx : j = x
    · subst hjx
      rw [lvOf_set hi, if_pos rfl]
      exact ⟨dn', v0, List.getElem?_set_self hil, hv, by unfold putF; rw [if_pos rfl]; exact ru⟩
    · obtain ⟨d3, v3, e3, e4, r3⟩ := s1.at_ j hj
      refine ⟨d3, v3, by rw [List.getElem?_set_ne (Ne.symm hjx)]; exact e3, e4, ?_⟩
      unfold putF; rw [if_neg hjx]
      have ng : ∀ a, fp1 j a → Own fp1 a ∧ ¬ g a := fun a z => ⟨⟨j, z⟩, fun y => s1.dis j x hjx a z ((hs a).mpr (.inl y))⟩
      exact RO.kept d3 _ v3 _ ⟨sF, fun a z => (kk a (ng a z).1 (ng a z).2).1, fun a z _ => (kk a (ng a z).1 (ng a z).2).2.1⟩ r3
  · have out : ∀ j, j ≠ x → ∀ a, fp1 j a → ¬ (g2 a ∨ h a) := fun j hj a z y => by
      have nx : ¬ fp1 x a := fun w => s1.dis j x hj a z w
      rcases y with y | y
      · exact (kk a ⟨j, z⟩ fun w => nx ((hs a).mpr (.inl w))).2.2 y
      · exact nx ((hs a).mpr (.inr y))
    unfold putF at z1 z2
    split at z1 <;> split at z2
    · rename_i a1 a2; exact hjl (a1.trans a2.symm)
    · rename_i a1 a2; exact out l a2 a z2 z1
    · rename_i a1 a2; exact out j a1 a z1 z2
    · exact s1.dis j l hjl a z1 z2
  · unfold putF
    by_cases hjx : j = x
    · subst hjx; rw [lvOf_set hi, if_pos rfl] at hj; omega
    · rw [if_neg hjx]; exact s1.dead j hj
end
theorem ROL.app {K : PySem.W.Frag} {F H : Hp} : ∀ {xs ys : List D} {n : Nat} {vs us : List V} {f g : AS}, ROL K F H xs n vs f → ROL K F H ys n us g → Dis f g → ROL K F H (xs ++ ys) n (vs ++ us) (fun a => f a ∨ g a)
  | [], ys, n, vs, us, f, g, h, h', _ => by
    simp only [ROL] at h
    obtain ⟨rfl, rfl⟩ := h
    have : (fun a => emp a ∨ g a) = g := by funext a; simp [emp]
    rw [this]; exact h'
  | x :: xs, ys, n, vs, us, f, g, h, h', d => by
    simp only [ROL] at h
    obtain ⟨w, ws, g1, g2, rfl, q, r, dd, rfl⟩ := h
    simp only [List.cons_append, ROL]
    refine ⟨w, ws ++ us, g1, fun a => g2 a ∨ g a, rfl, q, ROL.app r h' (fun a z1 z2 => d a (.inr z1) z2), fun a z1 z2 => ?_, by funext a; exact propext ⟨fun z => by grind, fun z => by grind⟩⟩
    rcases z2 with z2 | z2
    · exact dd a z1 z2
    · exact d a (.inl z1) z2
/-- the static conditions of a change: n the number of places, m the level of what is put in, mN the local's new level -/
structure Chg (lx n m mN : Nat) : Prop where
  h1 : n + 2 ≤ mN
  h2 : mN ≤ lx
  h3 : n ≤ 50
  h4 : 1 ≤ dn (dnk n mN) ∧ dn (dnk n mN) ≤ m
theorem dnk_two : ∀ {n m : Nat}, n + 2 ≤ m → n ≤ 50 → 2 ≤ dnk n m
  | 0, m, h, _ => by simpa [dnk] using h
  | n + 1, m, h, h50 => by
    unfold dnk
    refine dnk_two ?_ (by omega)
    unfold dn
    split
    · omega
    · split <;> omega
section
variable {X : Cx} {T : Tb} {W : WX} {kp : List Nat} {Rt : RT}
theorem rd_place {rp : Env → R (Nat × List D)} {ra : Env → R D} {Γ Γ1 : Gm} {m x n : Nat} {c : D → D → Option D} {O : Out} {DD : Ends} {σ : L2.St} {H : Hp} {rr : V → V → Hp → Prop} (hst : ∀ e ps e', rp e = .ok ps e' → ps.1 = x ∧ ps.2.length = n ∧ e'.s = e.s) (hn : n + 2 ≤ lvOf Γ x) (h50 : n ≤ 50)
    (z : rdS T W kp Rt (fun e => (rp e).st fun ps e1 => match (e1.get ps.1).bind (getP ps.2) with | some (.lst _) => (ra e1).st fun v e2 => chg ps.1 ps.2 (c v) e2 | _ => .bad) Γ O DD σ H)
    (rule : ∀ (e2 : Env) F F2 H2 fp fp2 d0 d1 v0 v1 ps dv u f dn', Go T.K true Γ1 σ F H fp e2.s e2.s F2 H2 fp2 f → e2.s[x]? = some d0 → σ[x]? = some (some v0) → ps.length = n → AtP H2 ps d0 v0 d1 v1 → Val T.K m F2 H2 dv u f → updAt (c dv) ps d0 = some dn' →
      EndO T.K Rt.ro O.nx σ F H fp (e2.s.set x dn') DD.nx → rr v1 u H2) :
    rdP T W kp rp Γ σ H fun o H1 => tyV T.K "list" o H1 ∧ rdE T W kp true ra Γ m Γ1 σ H1 fun u H2 => rr o u H2 := by
  obtain ⟨e, F, fp, s, z⟩ := z
  refine ⟨e, F, fp, s, ?_⟩
  dsimp only at z
  cases e1 : rp e with
  | bad => rw [e1] at z; exact z
  | exc y e' => rw [e1] at z; exact XWs.at_ z
  | ok ps e' =>
    rw [e1] at z
    obtain ⟨hx, hl, hse⟩ := hst e ps e' e1
    obtain ⟨px, ps⟩ := ps
    dsimp only at hx hl
    subst hx hl
    simp only [R.st_ok] at z
    cases e3 : (e'.get px).bind (getP ps) with
    | none => rw [e3] at z; exact z.elim
    | some d1 =>
      rw [e3] at z
      cases d1 <;> try exact z.elim
      rename_i xs1
      dsimp only at z ⊢
      obtain ⟨d0, e4, e5⟩ := Option.bind_eq_some_iff.mp e3
      have e4' : e'.s[px]? = some d0 := e4
      refine ⟨d0, .lst xs1, by rw [← hse]; exact e4', e5, by omega, h50, fun F1 H1 fp1 v0 v1 g1 hv0 hp1 => ?_⟩
      refine ⟨?_, e', F1, fp1, g1.st, ?_⟩
      · obtain ⟨dd, vv, ea, eb, r0⟩ := g1.st.at_ px (by omega)
        rw [e4'] at ea; cases ea
        rw [hv0] at eb; cases eb
        obtain ⟨_, _, _, _, r1, _⟩ := RO.upd r0 hp1 ⟨hn, h50⟩
        have r2 := RO.rf g1.st.sub _ _ _ _ r1
        simp only [RF] at r2
        obtain ⟨a, vs, rfl, q, _⟩ := r2
        exact .inl ⟨rfl, vs, .inl q⟩
      cases e2 : ra e' with
      | bad => rw [e2] at z; exact z.elim
      | exc y e'' => rw [e2] at z; exact XW.back (XWs.at_ z) g1
      | ok dv e'' =>
        rw [e2] at z
        simp only [R.st_ok, chg] at z
        intro F2 H2 fp2 u f g2 val
        have g12 := Go.then_ g1 g2
        have es : e''.s = e.s := g12.same rfl
        have es' : e''.s = e'.s := es.trans hse.symm
        have e6 : e''.get px = some d0 := by show e''.s[px]? = some d0; rw [es']; exact e4'
        rw [e6] at z
        simp only [Option.bind_some] at z
        cases e7 : updAt (c dv) ps d0 with
        | none => rw [e7] at z; exact z.elim
        | some dn' =>
          rw [e7] at z
          rw [← es] at g12
          exact rule e'' F F2 H2 fp fp2 d0 (.lst xs1) v0 v1 ps dv u f dn' g12 e6 hv0 rfl (hp1.sub (g2.ch.subH rfl)) val e7 z
/-- the leaf, a list -/
theorem leaf_lst {K : PySem.W.Frag} {F H : Hp} {xs : List D} {n : Nat} {v : V} {g : AS} (hn : 2 ≤ n) (r : RO K F H (.lst xs) n v g) : ∃ a vs g0, v = .ref a ∧ H a = some (.lst vs) ∧ F a = none ∧ ¬ g0 a ∧ ROL K F H xs (dn n) vs g0 ∧ g = fun b => b = a ∨ g0 b := by
  unfold RO at r; rw [if_neg (by omega)] at r; exact r
/-- the change itself: a list's items and what comes in -/
theorem chg_go {Γ1 : Gm} {σ : L2.St} {F F2 H H2 : Hp} {fp fp2 : Nat → AS} {e2 : Env} {x n m mN : Nat} {d0 : D} {xs ys : List D} {v0 v1 u : V} {ps : List D} {dv : D} {f : AS} {c : D → D → Option D} {O : Out} {DD : Ends} {dn' : D} (hc : Chg (lvOf Γ1 x) n m mN) (hO : O = ⟨some (Γ1.set x mN), none, none⟩)
    {q : Bool} {e0 : List D} (g : Go T.K q Γ1 σ F H fp e0 e2.s F2 H2 fp2 f) (hd : e2.s[x]? = some d0) (hv : σ[x]? = some (some v0)) (hl : ps.length = n) (hp : AtP H2 ps d0 v0 (.lst xs) v1) (hu : updAt (c dv) ps d0 = some dn') (hcd : c dv (.lst xs) = some (.lst ys)) (hf : ∀ a, f a → F2 a = none ∧ H2 a ≠ none)
    (z : EndO T.K Rt.ro O.nx σ F H fp (e2.s.set x dn') DD.nx) :
    ∃ a vs, v1 = .ref a ∧ H2 a = some (.lst vs) ∧ vs.length = xs.length ∧ ∀ us, (∀ F3 g0, Sub F2 F3 → Sub F3 H2 → ROL T.K F3 H2 xs (dn (dnk n mN)) vs g0 → ¬ g0 a → Dis g0 f → (∀ b, f b → F3 b = none) → ∃ gf F4 g5, (∀ b, gf b → f b) ∧ F4 = frz F3 H2 gf ∧ (∀ b, g5 b → g0 b ∨ (f b ∧ ¬ gf b)) ∧ ROL T.K F4 H2 ys (dn (dnk n mN)) us g5) → DD.nx σ (upd H2 a (.lst us)) := by
  subst hO hl
  obtain ⟨F3, fp3, gl, h, s3, c3, o3, hs, hdis, r1, hch⟩ := g.st.change hd hv hp hc.h1 hc.h2 hc.h3
  have h2k : 2 ≤ dnk ps.length mN := dnk_two hc.h1 hc.h3
  obtain ⟨a, vs, g0, rfl, eH, eF, na, rl, rfl⟩ := leaf_lst h2k r1
  refine ⟨a, vs, rfl, eH, rol_len rl, fun us hus => ?_⟩
  have fdis : ∀ b, f b → ¬ Own fp3 b := fun b z1 z2 => g.dis b z1 (o3 b z2)
  have gown : ∀ b, (b = a ∨ g0 b) → Own fp3 b := fun b z => ⟨x, (hs b).mpr (.inl z)⟩
  have f3 : ∀ b, f b → F3 b = none := fun b z => (c3.kept (fun _ z => z.elim) g.dis hf).out b z (hf b z).1
  obtain ⟨gf, F4, g5, hgf, rfl, hg5, rl5⟩ := hus F3 g0 c3.sub s3.sub rl na (fun b z1 z2 => fdis b z2 (gown b (.inr z1))) f3
  have haf : ¬ f a := fun z => fdis a z (gown a (.inl rfl))
  have sF : Sub F3 (frz F3 H2 gf) := frz_sub fun b z => f3 b (hgf b z)
  have F4a : frz F3 H2 gf a = none := by rw [frz_out fun z => haf (hgf a z)]; exact eF
  have sH4 : Sub (frz F3 H2 gf) (upd H2 a (.lst us)) := fun b o e => by
    have hb : b ≠ a := by rintro rfl; rw [F4a] at e; cases e
    rw [upd_ne hb]
    exact frz_le s3.sub b o e
  have n5 : ¬ g5 a := fun z => by
    rcases hg5 a z with z | z
    · exact na z
    · exact haf z.1
  obtain ⟨dn2, e1, s4⟩ := hch (frz F3 H2 gf) (upd H2 a (.lst us)) (.lst ys) (fun b => b = a ∨ g5 b) (c dv) sF sH4 (fun b zo zn => by
    have hb : b ≠ a := by rintro rfl; exact zn (.inl rfl)
    refine ⟨upd_ne hb, ?_, ?_⟩
    · rw [frz_out fun z => fdis b (hgf b z) zo]
      exact (s3.cells zo).1
    · rintro (z | z)
      · exact hb z
      · rcases hg5 b z with z | z
        · exact zn (.inr z)
        · exact fdis b z.1 zo) (by
    unfold RO
    rw [if_neg (by omega)]
    refine ⟨a, us, g5, rfl, upd_same, F4a, n5, ?_, rfl⟩
    exact ROL.kept ys _ us g5 ⟨Sub.refl _, fun b z => upd_ne fun e => n5 (e ▸ z), fun _ _ e => e⟩ rl5) hcd
  rw [hu] at e1; cases e1
  have gr3 : ∀ b, Own fp3 b → Own fp b ∨ H b = none := fun b z => g.grow b (.inl (o3 b z))
  have grf : ∀ b, f b → Own fp b ∨ H b = none := fun b z => g.grow b (.inr z)
  refine z σ (frz F3 H2 gf) (upd H2 a (.lst us)) _ ⟨s4, fun _ z => z.elim, ?_, fun b z => ?_, fun _ _ => rfl, rfl⟩
  · refine ⟨(g.ch.sub.trans c3.sub).trans sF, fun b o e hn => ?_, fun b e hn => ?_⟩
    · have hb : b ≠ a := by
        rintro rfl
        rcases gr3 b (gown b (.inl rfl)) with y | y
        · exact hn y
        · rw [e] at y; cases y
      rw [upd_ne hb]
      exact g.ch.keep b o e fun y => hn y.2
    · by_cases hb : gf b
      · exact grf b (hgf b hb)
      · rw [frz_out hb] at hn
        by_cases e2 : F2 b = none
        · rcases c3.new b e2 hn with y | y
          · exact g.grow b (.inl y)
          · exact Grow.none (f := emp) (g := emp) g.ch (fun _ z => z.2) y
        · exact g.ch.new b e e2
  · rcases z with z | z
    · rcases own_putF z with z | ⟨j, _, z⟩
      · rcases z with (rfl | z) | z
        · exact gr3 _ (gown _ (.inl rfl))
        · rcases hg5 b z with z | z
          · exact gr3 b (gown b (.inr z))
          · exact grf b z.1
        · exact gr3 b ⟨x, (hs b).mpr (.inr z)⟩
      · exact gr3 b ⟨j, z⟩
    · exact z.elim
/-- items and one value of one's own behind them -/
theorem rol_snoc {K : PySem.W.Frag} {F2 F3 H : Hp} {xs : List D} {k m : Nat} {vs : List V} {g0 f : AS} {dv : D} {u : V} (sF : Sub F2 F3) (s3 : Sub F3 H) (r : ROL K F3 H xs k vs g0) (dis : Dis g0 f) (h1 : 1 ≤ k) (hm : k ≤ m) (val : Val K m F2 H dv u f) (f3 : ∀ b, f b → F3 b = none) :
    ∃ gf F4 g5, (∀ b, gf b → f b) ∧ F4 = frz F3 H gf ∧ (∀ b, g5 b → g0 b ∨ (f b ∧ ¬ gf b)) ∧ ROL K F4 H (xs ++ [dv]) k (vs ++ [u]) g5 := by
  unfold Val at val
  rw [if_neg (by omega)] at val
  have v3 : RO K F3 H dv m u f := RO.kept dv m u f ⟨sF, fun _ _ => rfl, fun b z _ => f3 b z⟩ val
  obtain ⟨gf, f', hs, hd, rw_⟩ := RO.weak s3 dv m k u f h1 hm v3
  refine ⟨gf, _, fun b => g0 b ∨ f' b, fun b z => (hs b).mpr (.inl z), rfl, fun b z => z.imp id fun y => ⟨(hs b).mpr (.inr y), fun w => hd b w y⟩, ?_⟩
  refine ROL.app (ROL.kept xs k vs g0 (frz_kept (fun b z => f3 b ((hs b).mpr (.inl z))) fun b z1 z2 => dis b z1 ((hs b).mpr (.inl z2))) r) ?_ fun b z1 z2 => dis b z1 ((hs b).mpr (.inr z2))
  simp only [ROL]
  exact ⟨u, [], f', emp, rfl, rw_, ⟨rfl, rfl⟩, fun _ _ z => z, by funext b; simp [emp]⟩
theorem upd_app {dv : D} : ∀ {ps : List D} {d0 dn' d1 : D} {fn : D → Option D}, updAt fn ps d0 = some dn' → getP ps d0 = some d1 → ∃ d2, fn d1 = some d2
  | ps, d0, dn', d1, fn, h, h' => by
    obtain ⟨a, b, e1, e2⟩ := getP_upd h
    rw [h'] at e1; cases e1
    exact ⟨b, e2⟩
theorem AtP.getP_ {H : Hp} : ∀ {ps : List D} {d : D} {v : V} {d1 : D} {v1 : V}, AtP H ps d v d1 v1 → getP ps d = some d1
  | [], d, v, d1, v1, h => by simp only [getP]; rw [h.1]
  | i :: p, d, v, d1, v1, h => by
    obtain ⟨a, xs, vs, j, x, w, k, rfl, e1, rfl, e3, e4, e5, e6, r⟩ := h
    rcases e1 with ⟨rfl, _⟩ | ⟨rfl, _⟩
    · simp only [getP, e3, e5, Option.bind_some]; exact AtP.getP_ r
    · simp only [getP, e3, e5, Option.bind_some]; exact AtP.getP_ r
theorem ss_app {rp : Env → R (Nat × List D)} {ra : Env → R D} {p a : Expr} {apos cpos pos : Pos} {Γ Γ1 : Gm} {m mN x n : Nat} (hK : X.K = T.K) (hp : SP X T W kp rp p Γ) (ha : SE X T W kp true ra a Γ m Γ1) (hst : ∀ e ps e', rp e = .ok ps e' → ps.1 = x ∧ ps.2.length = n ∧ e'.s = e.s) (hn : n + 2 ≤ lvOf Γ x)
    (hc : Chg (lvOf Γ1 x) n m mN) (h2 : ns a = true) (h3 : nsup p = true) (h4 : (apos.endLine == cpos.line) = true) :
    SS X T W kp Rt (fun e => (rp e).st fun ps e1 => match (e1.get ps.1).bind (getP ps.2) with | some (.lst _) => (ra e1).st fun v e2 => chg ps.1 ps.2 (appD v) e2 | _ => .bad) (.Expr (.Call (.Attribute p "append" apos) [a] [] cpos) pos) Γ ⟨some (Γ1.set x mN), none, none⟩ := by
  refine PS.mono (ps_expr (pe_bm PySem.F.plainAttrs_list PySem.F.slot_list_append PySem.F.type_list_append mt_append hp (pa_cons ha pa_nil (star_cons h2)) (base_ok h3) (bm_few (by simp [h2]) (by decide)) h4 (star_cons h2) rfl) rfl) fun DD σ H z => ?_
  show tBM X.K "list" rAppend (rdP T W kp rp Γ) (tCons (rdE T W kp true ra Γ m Γ1) tNil) σ H fun _ H1 => DD.nx σ H1
  rw [hK]
  refine rd_place (c := appD) (x := x) hst hn hc.h3 z fun e2 F F2 H2 fp fp2 d0 d1 v0 v1 ps dv u f dn' g hd hv hl hat val hu ze => ?_
  obtain ⟨d2, hd2⟩ := upd_app (dv := dv) hu hat.getP_
  cases d1 <;> try (simp [appD] at hd2; done)
  rename_i xs
  simp only [appD] at hd2
  split at hd2 <;> simp only [reduceCtorEq, Option.some.injEq] at hd2
  rename_i hlen
  have hcd : appD dv (.lst xs) = some (.lst (xs ++ [dv])) := by simp only [appD]; rw [if_pos hlen]
  obtain ⟨a', vs, rfl, eH, hvl, hgo⟩ := chg_go (T := T) (Rt := Rt) (DD := DD) (xs := xs) (ys := xs ++ [dv]) (u := u) hc rfl g hd hv hl hat hu hcd val.cells ze
  refine ⟨a', vs, u, rfl, rfl, eH, by rw [hvl]; exact Nat.lt_of_lt_of_le hlen (by decide), ?_⟩
  refine hgo (vs ++ [u]) fun F3 g0 sF s3 rl na dis f3 => ?_
  exact rol_snoc sF s3 rl dis hc.h4.1 hc.h4.2 val f3
/-! ### extend -/
theorem rol_of1 {K : PySem.W.Frag} {F H : Hp} : ∀ {xs : List D} {vs : List V}, RFL K F xs vs → ROL K F H xs 1 vs emp
  | [], vs, h => by simp only [RFL] at h; simp only [ROL]; exact ⟨h, trivial⟩
  | x :: xs, vs, h => by
    simp only [RFL] at h
    obtain ⟨w, ws, rfl, q, r⟩ := h
    simp only [ROL]
    exact ⟨w, ws, emp, emp, rfl, RO.of1 (Nat.le_refl 1) q, rol_of1 r, fun _ z => z.elim, by funext b; simp [emp]⟩
/-- the items of a list, by its level -/
theorem val_items {K : PySem.W.Frag} {F H : Hp} {xs : List D} {m : Nat} {v : V} {f : AS} (hm : 1 ≤ m) (s : Sub F H) (val : Val K m F H (.lst xs) v f) : ∃ b us g, v = .ref b ∧ Rd H b (.lst us) ∧ ROL K F H xs (dn m) us g ∧ ∀ a, g a → f a := by
  unfold Val at val
  rw [if_neg (by omega)] at val
  by_cases h1 : m ≤ 1
  · obtain ⟨h, rfl⟩ := RO.to1 h1 val
    simp only [RF] at h
    obtain ⟨b, us, rfl, q, r⟩ := h
    rw [dn_le_one h1, show m = 1 by omega]
    exact ⟨b, us, emp, rfl, Rd.sub s q, rol_of1 r, fun _ z => z⟩
  · unfold RO at val
    rw [if_neg h1] at val
    obtain ⟨b, us, g, rfl, q, _, _, r, rfl⟩ := val
    exact ⟨b, us, g, rfl, .inl q, r, fun a z => .inr z⟩
theorem rol_more {K : PySem.W.Frag} {F2 F3 H : Hp} {xs ys : List D} {k m : Nat} {vs us : List V} {g0 f g : AS} (sF : Sub F2 F3) (s3 : Sub F3 H) (r : ROL K F3 H xs k vs g0) (dis : Dis g0 f) (h1 : 1 ≤ k) (hm : k ≤ m) (ry : ROL K F2 H ys m us g) (hg : ∀ a, g a → f a) (f3 : ∀ b, f b → F3 b = none) :
    ∃ gf F4 g5, (∀ b, gf b → f b) ∧ F4 = frz F3 H gf ∧ (∀ b, g5 b → g0 b ∨ (f b ∧ ¬ gf b)) ∧ ROL K F4 H (xs ++ ys) k (vs ++ us) g5 := by
  have v3 : ROL K F3 H ys m us g := ROL.kept ys m us g ⟨sF, fun _ _ => rfl, fun b z _ => f3 b (hg b z)⟩ ry
  obtain ⟨gf, f', hs, hd, rw_⟩ := ROL.weak s3 ys m k us g h1 hm v3
  refine ⟨gf, _, fun b => g0 b ∨ f' b, fun b z => hg b ((hs b).mpr (.inl z)), rfl, fun b z => z.imp id fun y => ⟨hg b ((hs b).mpr (.inr y)), fun w => hd b w y⟩, ?_⟩
  exact ROL.app (ROL.kept xs k vs g0 (frz_kept (fun b z => f3 b (hg b ((hs b).mpr (.inl z)))) fun b z1 z2 => dis b z1 (hg b ((hs b).mpr (.inl z2)))) r) rw_ fun b z1 z2 => dis b z1 (hg b ((hs b).mpr (.inr z2)))
def rExtR : V → List V → Hp → VK → Prop := fun x vs H Q => ∃ l b xs zs, x = .ref l ∧ vs = [.ref b] ∧ H l = some (.lst xs) ∧ Rd H b (.lst zs) ∧ xs.length + zs.length ≤ sizeLine ∧ Q .non (upd H l (.lst (xs ++ zs)))
theorem mt_extR : MtM X "list.extend" rExtR := by
  intro pins s σ H x vs v us Q I rx rv h
  obtain ⟨l, b, xs, zs, rfl, rfl, hH, hB, hz, q⟩ := h
  cases rx
  obtain ⟨u, rfl, ru⟩ := rv.one
  cases ru
  obtain ⟨z, its, n, r, hl, e⟩ := I.lstM hH
  obtain ⟨z2, its2, n2, r2, e2⟩ := hB.ok I.hok
  have hl2 := r2.length
  have hsz : its.toArray.size + its2.toArray.size ≤ sizeLine := by rw [List.size_toArray, List.size_toArray]; omega
  have hlong : ¬ (!its.toArray.isEmpty && Builtin.List.listTooLong (its.toArray.size + its2.toArray.size)) = true := by
    rw [notLongL hsz, Bool.and_false]
    exact Bool.false_ne_true
  refine call_meets F.slot_list_extend ⟨_, e, rfl⟩ F.entry_list_extend (F.args_list_extend_2 _ _)
    (AutoSeq1.list_extend_list_list_0 l its.toArray n b its2.toArray n2 hlong (by rw [List.size_toArray]; omega) (by omega)) ⟨e, e2, ?_⟩
  refine ⟨.non, _, I.lset (its' := its ++ its2) hH e (by simp) (r.append r2) ?_, rfl, q⟩
  rw [List.length_append]
  omega
theorem ss_ext {rp : Env → R (Nat × List D)} {ra : Env → R D} {p a : Expr} {apos cpos pos : Pos} {Γ Γ1 : Gm} {m mN x n : Nat} (hK : X.K = T.K) (hp : SP X T W kp rp p Γ) (ha : SE X T W kp true ra a Γ m Γ1) (hst : ∀ e ps e', rp e = .ok ps e' → ps.1 = x ∧ ps.2.length = n ∧ e'.s = e.s) (hn : n + 2 ≤ lvOf Γ x)
    (hm : 1 ≤ m) (hc : Chg (lvOf Γ1 x) n (dn m) mN) (h2 : ns a = true) (h3 : nsup p = true) (h4 : (apos.endLine == cpos.line) = true) :
    SS X T W kp Rt (fun e => (rp e).st fun ps e1 => match (e1.get ps.1).bind (getP ps.2) with | some (.lst _) => (ra e1).st fun v e2 => chg ps.1 ps.2 (extD v) e2 | _ => .bad) (.Expr (.Call (.Attribute p "extend" apos) [a] [] cpos) pos) Γ ⟨some (Γ1.set x mN), none, none⟩ := by
  refine PS.mono (ps_expr (pe_bm PySem.F.plainAttrs_list PySem.F.slot_list_extend PySem.F.type_list_extend mt_extR hp (pa_cons ha pa_nil (star_cons h2)) (base_ok h3) (bm_few (by simp [h2]) (by decide)) h4 (star_cons h2) rfl) rfl) fun DD σ H z => ?_
  show tBM X.K "list" rExtR (rdP T W kp rp Γ) (tCons (rdE T W kp true ra Γ m Γ1) tNil) σ H fun _ H1 => DD.nx σ H1
  rw [hK]
  refine rd_place (c := extD) (x := x) hst hn hc.h3 z fun e2 F F2 H2 fp fp2 d0 d1 v0 v1 ps dv u f dn' g hd hv hl hat val hu ze => ?_
  obtain ⟨d2, hd2⟩ := upd_app (dv := dv) hu hat.getP_
  cases d1 <;> try (simp [extD] at hd2; done)
  rename_i xs
  cases dv <;> try (simp [extD] at hd2; done)
  rename_i ys
  have hd3 := hd2
  simp only [extD, guardL] at hd3
  split at hd3 <;> simp only [reduceCtorEq, Option.some.injEq] at hd3
  rename_i hlen
  have hcd : extD (.lst ys) (.lst xs) = some (.lst (xs ++ ys)) := by simp only [extD]; exact guardL_pos hlen
  obtain ⟨b, us, gy, rfl, qb, ry, hgy⟩ := val_items hm g.st.sub val
  obtain ⟨a', vs, rfl, eH, hvl, hgo⟩ := chg_go (T := T) (Rt := Rt) (DD := DD) (xs := xs) (ys := xs ++ ys) (u := .ref b) hc rfl g hd hv hl hat hu hcd val.cells ze
  refine ⟨a', b, vs, us, rfl, rfl, eH, qb, ?_, ?_⟩
  · rw [hvl, rol_len ry]; exact lim_line hlen
  refine hgo (vs ++ us) fun F3 g0 sF s3 rl na dis f3 => ?_
  exact rol_more sF s3 rl dis hc.h4.1 hc.h4.2 ry hgy f3
end
end Z

/-! Z9: stores to items. -/
namespace Z
open PySem L2 PyProof.Rows
section
variable {X : Cx} {T : Tb} {W : WX} {kp : List Nat} {Rt : RT}
/-- one item exchanged for a value of one's own -/
theorem rol_set {K : PySem.W.Frag} {F2 F3 H : Hp} {xs : List D} {k m j : Nat} {vs : List V} {g0 f : AS} {dv x : D} {u w : V} (sF : Sub F2 F3) (s3 : Sub F3 H) (r : ROL K F3 H xs k vs g0) (e1 : xs[j]? = some x) (e2 : vs[j]? = some w) (dis : Dis g0 f) (h1 : 1 ≤ k) (hm : k ≤ m) (val : Val K m F2 H dv u f) (f3 : ∀ b, f b → F3 b = none) :
    ∃ gf F4 g5, (∀ b, gf b → f b) ∧ F4 = frz F3 H gf ∧ (∀ b, g5 b → g0 b ∨ (f b ∧ ¬ gf b)) ∧ ROL K F4 H (xs.set j dv) k (vs.set j u) g5 := by
  unfold Val at val
  rw [if_neg (by omega)] at val
  have v3 : RO K F3 H dv m u f := RO.kept dv m u f ⟨sF, fun _ _ => rfl, fun b z _ => f3 b z⟩ val
  obtain ⟨gf, f', hs, hd, rw_⟩ := RO.weak s3 dv m k u f h1 hm v3
  obtain ⟨g, h, hs2, hd2, _, hu⟩ := ROL.upd r e1 e2
  refine ⟨gf, _, fun b => f' b ∨ h b, fun b z => (hs b).mpr (.inl z), rfl, fun b z => ?_, ?_⟩
  · rcases z with z | z
    · exact .inr ⟨(hs b).mpr (.inr z), fun w => hd b w z⟩
    · exact .inl ((hs2 b).mpr (.inr z))
  · exact hu _ H dv u f' (frz_kept (fun b z => f3 b ((hs b).mpr (.inl z))) fun b z1 z2 => dis b ((hs2 b).mpr (.inr z1)) ((hs b).mpr (.inl z2))) rw_ fun b z1 z2 => dis b ((hs2 b).mpr (.inr z2)) ((hs b).mpr (.inr z1))
theorem setIx_lst {i dv d1 d2 : D} (h : setIx i dv d1 = some d2) : ∃ xs k j, d1 = .lst xs ∧ i = .int k ∧ ixn xs.length k = some j ∧ d2 = .lst (xs.set j dv) := by
  cases d1 <;> try (simp [setIx] at h; done)
  cases i <;> try (simp [setIx] at h; done)
  simp only [setIx, Option.map_eq_some_iff] at h
  obtain ⟨j, h1, rfl⟩ := h
  exact ⟨_, _, j, rfl, rfl, h1, rfl⟩
theorem ixn_lt {n : Nat} {k : Int} {j : Nat} (h : ixn n k = some j) : j < n := by
  unfold ixn at h
  split at h
  · split at h <;> simp only [reduceCtorEq, Option.some.injEq] at h
    omega
  · split at h <;> simp only [reduceCtorEq, Option.some.injEq] at h
    omega
/-- no slice -/
def nsl : Expr → Bool
  | .Slice .. => false
  | _ => true
theorem asg_sub {p i : Expr} {pos : Pos} {env : PySem.Env} (h : nsl i = true) (v : Value) : assign (.Subscript p i pos) env v = (do
      let ov ← holding [v] (eval p env)
      let iv ← holding [v, ov] (eval i env)
      standAt pos
      holding [v, ov, iv] (setItem ov iv v)
      release [v, ov, iv] []) := by
  cases i <;> first
    | rfl
    | (simp [nsl] at h)
theorem aug_sub {i : Expr} (h : nsl i = true) (ov iv new : Value) : augStore i ov iv new = (do holding [new, ov, iv] (setItem ov iv new); release [new, ov, iv] []; pure .next) := by
  cases i <;> first
    | rfl
    | (simp [nsl] at h)
theorem plainIx {i : Expr} (h : nsl i = true) : PlainIx i := by
  intro o j
  cases i <;> first
    | rfl
    | (simp [nsl] at h)
/-- p[i] = e -/
theorem ss_six {ra ri : Env → R D} {rp : Env → R (Nat × List D)} {a p i : Expr} {ppos pos : Pos} {q : Bool} {Γ Γ1 : Gm} {m n2 mN x n : Nat} (hK : X.K = T.K) (ha : SE X T W kp q ra a Γ m Γ1) (hp : SP X T W kp rp p Γ1) (hi : SE X T W kp true ri i Γ1 n2 Γ1)
    (hst : ∀ e ps e', rp e = .ok ps e' → ps.1 = x ∧ ps.2.length = n ∧ e'.s = e.s) (hn : n + 2 ≤ lvOf Γ1 x) (hm : own m = true) (hc : Chg (lvOf Γ1 x) n m mN)
    (h0 : nsl i = true) (h1 : swapsWithSole [.Subscript p i ppos] a pos.line X.env = pure false) (h2 : swappedStores [.Subscript p i ppos] a X.env = pure none) :
    SS X T W kp Rt (fun e => (ra e).st fun v e1 => (rp e1).st fun ps e2 => match (e2.get ps.1).bind (getP ps.2) with
      | some (.lst _) => (ri e2).st fun i e3 => chg ps.1 ps.2 (setIx i v) e3
      | _ => .bad) (.Assign [.Subscript p i ppos] a pos) Γ ⟨some (Γ1.set x mN), none, none⟩ := by
  refine PS.mono (ps_asg ha (pg_sub hp hi set_list (asg_sub h0)) h1 h2) fun DD σ H z => ?_
  obtain ⟨e, F, fp, s, z⟩ := z
  refine ⟨e, F, fp, s, ?_⟩
  dsimp only at z
  cases e1 : ra e with
  | bad => rw [e1] at z; exact z
  | exc y e' => rw [e1] at z; exact XWs.at_ z
  | ok dv e' =>
    rw [e1] at z
    simp only [R.st_ok] at z
    intro F1 H1 fp1 v f g1 val
    refine ⟨e', F1, fp1, g1.st, ?_⟩
    cases e2 : rp e' with
    | bad => rw [e2] at z; exact z
    | exc y e'' => rw [e2] at z; exact XW.back (XWs.at_ z) g1
    | ok ps e'' =>
      rw [e2] at z
      obtain ⟨hx, hl, hse⟩ := hst e' ps e'' e2
      obtain ⟨px, ps⟩ := ps
      dsimp only at hx hl
      subst hx hl
      simp only [R.st_ok] at z
      cases e3 : (e''.get px).bind (getP ps) with
      | none => rw [e3] at z; exact z.elim
      | some d1 =>
        rw [e3] at z
        cases d1 <;> try exact z.elim
        rename_i xs1
        dsimp only at z ⊢
        obtain ⟨d0, e4, e5⟩ := Option.bind_eq_some_iff.mp e3
        have e4' : e''.s[px]? = some d0 := e4
        refine ⟨d0, .lst xs1, by rw [← hse]; exact e4', e5, by omega, hc.h3, fun F2 H2 fp2 v0 v1 g2 hv0 hp2 => ?_⟩
        refine ⟨e'', F2, fp2, g2.st, ?_⟩
        cases e6 : ri e'' with
        | bad => rw [e6] at z; exact z.elim
        | exc y e3 => rw [e6] at z; exact XW.back (XW.back (XWs.at_ z) g1) g2
        | ok di e''' =>
          rw [e6] at z
          simp only [R.st_ok, chg] at z
          intro F3 H3 fp3 iv fi g3 vali
          have g23 := Go.then_ g2 g3
          have val3 := val.stay g23.ch g1.dis (.inl hm) (.inl (own_ne hm))
          have gg := go_app (Go.trans g1 g23 val.cells) (g := f) fun _ z => .inl z
          have es : e'''.s = e''.s := g3.same rfl
          have e7 : e'''.get px = some d0 := by show e'''.s[px]? = some d0; rw [es]; exact e4'
          rw [e7] at z
          simp only [Option.bind_some] at z
          cases e8 : updAt (setIx di dv) ps d0 with
          | none => rw [e8] at z; exact z.elim
          | some dn' =>
            rw [e8] at z
            have hp3 := hp2.sub (g3.ch.subH rfl)
            obtain ⟨d2, hd2⟩ := upd_app (dv := dv) e8 hp3.getP_
            obtain ⟨xs, k, j, hh, rfl, hj, rfl⟩ := setIx_lst hd2
            cases hh
            obtain rfl := rf_int (vali.rf g3.st.sub)
            obtain ⟨a', vs, rfl, eH, hvl, hgo⟩ := chg_go (T := T) (Rt := Rt) (DD := DD) (c := setIx (.int k)) (xs := xs1) (ys := xs1.set j dv) (u := v) hc rfl gg e7 hv0 rfl hp3 e8 hd2 val3.cells z
            have hjl := ixn_lt hj
            refine ⟨a', vs, k, j, rfl, rfl, eH, by rw [hvl, ixn_eq]; exact hj, ?_⟩
            refine hgo (vs.set j v) fun F4 g0 sF s4 rl na dis f4 => ?_
            exact rol_set sF s4 rl (List.getElem?_eq_getElem hjl) (List.getElem?_eq_getElem (by omega)) dis hc.h4.1 hc.h4.2 val3 f4
theorem g_get : PGet X (rIxL X.K) := by
  intro pins s σ H x y v u Q I rx ry h
  obtain ⟨p, xs, i, z, rfl, rfl, hq, he, q⟩ := h
  cases rx
  obtain ⟨t, rfl⟩ := ry
  obtain ⟨its, r, pl, hz⟩ := I.list hq
  obtain ⟨j, h1, h2, h3, h4, h5⟩ := atI_get he
  obtain ⟨w, ew, rw'⟩ := r.get h2
  have hl := r.length
  have hn := line63
  have fin : EP X pins σ Q w s := ⟨z, H, I, rw', q⟩
  by_cases h0 : 0 ≤ i
  · have hj : i.toNat = j := by
      rw [seqIndex_of h0 h5] at h1
      exact Option.some.inj h1
    exact wpAny_getItem_list pl.isList h0 (by omega) (by rw [hj]; simpa using ew) fin
  · have hj : (i + (its.toArray.size : Int)).toNat = j := by
      rw [seqIndex_neg (by omega) h4] at h1
      rw [List.size_toArray, ← hl]
      exact Option.some.inj h1
    exact wpAny_getItem_list_neg pl.isList (by omega) (by rw [List.size_toArray] <;> omega) (by omega) (by rw [hj]; simpa using ew) fin
/-- p[i] op= e -/
theorem ss_aix {ra ri : Env → R D} {rp : Env → R (Nat × List D)} {a p i : Expr} {ppos pos : Pos} {Γ : Gm} {m n2 mN x n : Nat} {o : O2} (hK : X.K = T.K) (hp : SP X T W kp rp p Γ) (hi : SE X T W kp true ri i Γ n2 Γ) (hi2 : own n2 = true) (ha : SE X T W kp true ra a Γ m Γ) (ho : o = .add ∨ o = .sub)
    (hst : ∀ e ps e', rp e = .ok ps e' → ps.1 = x ∧ ps.2.length = n ∧ e'.s = e.s) (hn : n + 2 ≤ lvOf Γ x) (hc : Chg (lvOf Γ x) n 100 mN) (h0 : nsl i = true) :
    SS X T W kp Rt (fun e => (rp e).st fun ps e1 => match (e1.get ps.1).bind (getP ps.2) with
      | some (.lst xs) => (ri e1).st fun i e2 => match opIx (.lst xs) i with
        | none => .bad
        | some old => (ra e2).st fun y e3 => match op2i o old y with
          | some z => chg ps.1 ps.2 (setIx i z) e3
          | none => .bad
      | _ => .bad) (.AugAssign (.Subscript p i ppos) (opOf o) a pos) Γ ⟨some (Γ.set x mN), none, none⟩ := by
  refine PS.mono (ps_augS hp hi g_get ha (show PIp X (opOf o) (rG X.K (op2i o)) from g_iop ho) set_list (aug_sub h0)) fun DD σ H z => ?_
  obtain ⟨e, F, fp, s, z⟩ := z
  refine ⟨e, F, fp, s, ?_⟩
  dsimp only at z
  cases e2 : rp e with
  | bad => rw [e2] at z; exact z
  | exc y e'' => rw [e2] at z; exact XWs.at_ z
  | ok ps e'' =>
    rw [e2] at z
    obtain ⟨hx, hl, hse⟩ := hst e ps e'' e2
    obtain ⟨px, ps⟩ := ps
    dsimp only at hx hl
    subst hx hl
    simp only [R.st_ok] at z
    cases e3 : (e''.get px).bind (getP ps) with
    | none => rw [e3] at z; exact z.elim
    | some d1 =>
      rw [e3] at z
      cases d1 <;> try exact z.elim
      rename_i xs1
      dsimp only at z ⊢
      obtain ⟨d0, e4, e5⟩ := Option.bind_eq_some_iff.mp e3
      have e4' : e''.s[px]? = some d0 := e4
      refine ⟨d0, .lst xs1, by rw [← hse]; exact e4', e5, by omega, hc.h3, fun F2 H2 fp2 v0 v1 g2 hv0 hp2 => ?_⟩
      refine ⟨e'', F2, fp2, g2.st, ?_⟩
      cases e6 : ri e'' with
      | bad => rw [e6] at z; exact z.elim
      | exc y e3 => rw [e6] at z; exact XW.back (XWs.at_ z) g2
      | ok di e''' =>
        rw [e6] at z
        simp only [R.st_ok] at z
        intro F3 H3 fp3 iv fi g3 vali
        cases e7 : opIx (.lst xs1) di with
        | none => rw [e7] at z; exact z.elim
        | some old =>
          rw [e7] at z
          dsimp only at z
          obtain ⟨k, rfl⟩ := ix_int e7
          obtain rfl := rf_int (vali.rf g3.st.sub)
          have es3 : e'''.s = e''.s := g3.same rfl
          -- the leaf
          have hp3 := hp2.sub (g3.ch.subH rfl)
          have e43 : e'''.s[px]? = some d0 := by rw [es3]; exact e4'
          obtain ⟨dd, vv, ea, eb, r0⟩ := g3.st.at_ px (by omega)
          rw [e43] at ea; cases ea
          rw [hv0] at eb; cases eb
          obtain ⟨_, _, _, _, r1, _⟩ := RO.upd r0 hp3 ⟨hn, hc.h3⟩
          obtain ⟨b, vs, gl, rfl, eHb, eFb, _, rl, _⟩ := leaf_lst (dnk_two (m := lvOf Γ px) hn hc.h3) r1
          simp only [opIx] at e7
          have rfl3 := ROL.rf g3.st.sub _ _ _ _ rl
          obtain ⟨w, hat, rw_⟩ := at_of rfl3 e7
          refine ⟨b, vs, k, w, rfl, rfl, .inl (.inl eHb), hat, ?_⟩
          refine ⟨e''', F3, fp3, g3.st, ?_⟩
          cases e8 : ra e''' with
          | bad => rw [e8] at z; exact z.elim
          | exc y e3 => rw [e8] at z; exact XW.back (XW.back (XWs.at_ z) g2) g3
          | ok dy e4s =>
            rw [e8] at z
            simp only [R.st_ok] at z
            intro F4 H4 fp4 yv fy g4 valy
            cases e9 : op2i o old dy with
            | none => rw [e9] at z; exact z.elim
            | some dz =>
              rw [e9] at z
              simp only [chg] at z
              have g234 := go_app (Go.then_ (go_app (Go.then_ g2 g3) (g := emp) fun _ z => z.elim) g4) (g := emp) fun _ z => z.elim
              have es4 : e4s.s = e'''.s := g4.same rfl
              have e44 : e4s.get px = some d0 := by show e4s.s[px]? = some d0; rw [es4]; exact e43
              rw [e44] at z
              simp only [Option.bind_some] at z
              cases e10 : updAt (setIx (.int k) dz) ps d0 with
              | none => rw [e10] at z; exact z.elim
              | some dn' =>
                rw [e10] at z
                refine ⟨old, dy, dz, hK ▸ RF.sub (g4.ch.subH rfl) _ _ rw_, hK ▸ valy.rf g4.st.sub, e9, fun u ru => ?_⟩
                have hp4 := hp3.sub (g4.ch.subH rfl)
                obtain ⟨d2, hd2⟩ := upd_app (dv := dz) e10 hp4.getP_
                obtain ⟨xs, k', j, hh, hk, hj, rfl⟩ := setIx_lst hd2
                cases hh; cases hk
                have valz : Val T.K 100 F4 H4 dz u emp := Val.flat (flat_op2i e9) (hK ▸ ru)
                obtain ⟨a', vs', ea', eH, hvl, hgo⟩ := chg_go (T := T) (Rt := Rt) (DD := DD) (c := setIx (.int k)) (xs := xs1) (ys := xs1.set j dz) (u := u) hc rfl g234 e44 hv0 rfl hp4 e10 hd2 (fun _ z => z.elim) z
                have hjl := ixn_lt hj
                cases ea'
                refine ⟨b, vs', k, j, rfl, rfl, eH, by rw [hvl, ixn_eq]; exact hj, ?_⟩
                refine hgo (vs'.set j u) fun F5 g0 sF s4 rl na dis f4 => ?_
                exact rol_set sF s4 rl (List.getElem?_eq_getElem hjl) (List.getElem?_eq_getElem (by omega)) dis hc.h4.1 hc.h4.2 valz f4
end
end Z

/-! Z10: targets, what is walked, for, while. -/
namespace Z
open PySem L2 PyProof.Rows
def setσ : List Nat → List V → L2.St → L2.St
  | i :: is, v :: vs, σ => setσ is vs (σ.set i (some v))
  | _, _, σ => σ
def gAll : List Nat → TGs
  | [] => gNil
  | i :: is => gCons (gName i) (gAll is)
theorem gAll_run : ∀ {is : List Nat} {vs : List V} {σ : L2.St} {H : Hp} {Q : L2.St → Hp → Prop}, vs.length = is.length → Q (setσ is vs σ) H → gAll is vs σ H Q
  | [], [], σ, H, Q, _, h => ⟨rfl, h⟩
  | i :: is, v :: vs, σ, H, Q, hl, h => ⟨v, vs, rfl, gAll_run (by simpa using hl) h⟩
  | [], _ :: _, _, _, _, hl, _ => by simp at hl
  | _ :: _, [], _, _, _, hl, _ => by simp at hl
def gT (K : PySem.W.Frag) : T → TG
  | .n i => gName i
  | .tp is => gTup K is.length (gAll is)
def setG : List Nat → Nat → Gm → Gm
  | [], _, Γ => Γ
  | i :: is, n, Γ => setG is n (Γ.set i n)
def tgtG : T → Nat → Gm → Gm
  | .n i, m, Γ => Γ.set i m
  | .tp is, m, Γ => setG is (dn m) Γ
theorem setG_len : ∀ (is : List Nat) (n : Nat) (Γ : Gm), (setG is n Γ).length = Γ.length
  | [], _, _ => rfl
  | i :: is, n, Γ => by unfold setG; rw [setG_len is n, List.length_set]
theorem setσ_len : ∀ (is : List Nat) (vs : List V) (σ : L2.St), (setσ is vs σ).length = σ.length
  | [], _, _ => by simp [setσ]
  | _ :: _, [], _ => by simp [setσ]
  | i :: is, v :: vs, σ => by simp only [setσ]; rw [setσ_len is vs, List.length_set]
theorem setσ_ne : ∀ (is : List Nat) (vs : List V) (σ : L2.St) (j : Nat), j ∉ is → (setσ is vs σ)[j]? = σ[j]?
  | [], _, _, _, _ => by simp [setσ]
  | _ :: _, [], _, _, _ => by simp [setσ]
  | i :: is, v :: vs, σ, j, h => by
    simp only [List.mem_cons, not_or] at h
    simp only [setσ]
    rw [setσ_ne is vs _ j h.2, List.getElem?_set_ne (Ne.symm h.1)]
section
variable {K : PySem.W.Frag} {F H : Hp}
/-- several locals are stored -/
theorem put_all : ∀ {is : List Nat} {xs : List D} {vs : List V} {g : AS} {Γ : Gm} {e : Env} {σ : L2.St} {fp : Nat → AS} {k : Nat}, is.length = xs.length → ROL K F H xs k vs g → Dis g (Own fp) → (∀ i ∈ is, i < Γ.length) → 1 ≤ k → St K Γ e.s σ F H fp →
    ∃ fp', St K (setG is k Γ) (setAll is xs e).s (setσ is vs σ) F H fp' ∧ ∀ a, Own fp' a → Own fp a ∨ g a
  | [], [], vs, g, Γ, e, σ, fp, k, _, r, _, _, _, s => by
    simp only [ROL] at r
    obtain ⟨rfl, rfl⟩ := r
    exact ⟨fp, s, fun a z => .inl z⟩
  | i :: is, x :: xs, vs, g, Γ, e, σ, fp, k, hl, r, d, hi, hk, s => by
    simp only [ROL] at r
    obtain ⟨w, ws, g1, g2, rfl, q, r, dd, rfl⟩ := r
    have s1 := s.put (hi i List.mem_cons_self) hk q (fun a z1 z2 => d a (.inl z1) z2)
    obtain ⟨fp', s2, o⟩ := put_all (is := is) (xs := xs) (e := e.set i x) (by simpa using hl) r (fun a z1 z2 => by
      rcases own_putF z2 with z | ⟨j, _, z⟩
      · exact dd a z z1
      · exact d a (.inr z1) ⟨j, z⟩) (fun j hj => by rw [List.length_set]; exact hi j (List.mem_cons_of_mem _ hj)) hk s1
    refine ⟨fp', s2, fun a z => ?_⟩
    rcases o a z with z | z
    · rcases own_putF z with z | ⟨j, _, z⟩
      · exact .inr (.inl z)
      · exact .inl ⟨j, z⟩
    · exact .inr (.inr z)
  | [], _ :: _, _, _, _, _, _, _, _, hl, _, _, _, _, _ => by simp at hl
  | _ :: _, [], _, _, _, _, _, _, _, hl, _, _, _, _, _ => by simp at hl
/-- a target is stored -/
theorem tgt_put {t : T} {d : D} {e e' : Env} {Γ : Gm} {σ : L2.St} {fp : Nat → AS} {m : Nat} {v : V} {f : AS} {Q : L2.St → Hp → Prop} {ro : List Nat} (s : St K Γ e.s σ F H fp) (hm : 1 ≤ m) (r : RO K F H d m v f) (hd : Dis f (Own fp)) (ha : asgT t d e = some e') (hi : ∀ i ∈ t.is, i < Γ.length) (hr : ∀ i ∈ t.is, i ∉ ro)
    (k : ∀ σ' fp', St K (tgtG t m Γ) e'.s σ' F H fp' → (∀ a, Own fp' a → Own fp a ∨ f a) → (∀ i ∈ ro, σ'[i]? = σ[i]?) → σ'.length = σ.length → Q σ' H) : gT K t v σ H Q := by
  cases t with
  | n i =>
    simp only [asgT, Option.some.injEq] at ha
    subst ha
    refine k _ _ (s.put (hi i (by simp [T.is])) hm r hd) (fun a z => ?_) (fun j hj => ?_) (by rw [List.length_set])
    · rcases own_putF z with z | ⟨j, _, z⟩
      · exact .inr z
      · exact .inl ⟨j, z⟩
    · rw [List.getElem?_set_ne]
      rintro rfl
      exact hr i (by simp [T.is]) hj
  | tp is =>
    cases d <;> try (simp [asgT] at ha; done)
    rename_i xs
    simp only [asgT] at ha
    split at ha <;> simp only [reduceCtorEq, Option.some.injEq] at ha
    rename_i hl
    subst ha
    by_cases h1 : m ≤ 1
    · obtain ⟨h, rfl⟩ := RO.to1 h1 r
      simp only [RF] at h
      obtain ⟨a, vs, rfl, q, rr⟩ := h
      have hvl := rfl_len rr
      have em : dn m = 1 := by rw [dn_le_one h1]; omega
      obtain ⟨fp', s2, o⟩ := put_all (k := 1) hl.symm (rol_of1 rr) (fun _ z => z.elim) hi (Nat.le_refl 1) s
      refine ⟨a, vs, rfl, SqT.sub s.sub q, by rw [hvl]; exact hl, gAll_run (by rw [hvl]; exact hl) ?_⟩
      have e5 : tgtG (.tp is) m Γ = setG is 1 Γ := by show setG is (dn m) Γ = _; rw [em]
      refine k _ fp' (by rw [e5]; exact s2) (fun a z => (o a z).imp id id) (fun j hj => setσ_ne is vs σ j fun z => hr j z hj) (setσ_len is vs σ)
    · unfold RO at r
      rw [if_neg h1] at r
      obtain ⟨a, vs, g, rfl, q, z, na, rr, rfl⟩ := r
      have hvl := rol_len rr
      obtain ⟨fp', s2, o⟩ := put_all (k := dn m) hl.symm rr (fun a z1 z2 => hd a (.inr z1) z2) hi (dn_pos hm) s
      refine ⟨a, vs, rfl, .inl (.inl q), by rw [hvl]; exact hl, gAll_run (by rw [hvl]; exact hl) ?_⟩
      exact k _ fp' s2 (fun a z => (o a z).imp id .inr) (fun j hj => setσ_ne is vs σ j fun z => hr j z hj) (setσ_len is vs σ)
end
section
variable {X : Cx} {T : Tb} {W : WX} {kp : List Nat} {Rt : RT}
/-- target = e -/
theorem ss_asgT {ra : Env → R D} {a tg : Expr} {pos : Pos} {q : Bool} {Γ Γ1 : Gm} {m : Nat} {t : Z.T} (h : PS X (.Assign [tg] a pos) (tAsg (rdE T W kp q ra Γ m Γ1) (gT T.K t))) (hm : 1 ≤ m) (hi : ∀ i ∈ t.is, i < Γ1.length) (hr : ∀ i ∈ t.is, i ∉ Rt.ro) :
    SS X T W kp Rt (fun e => (ra e).st fun x e1 => match asgT t x e1 with | some e2 => .nx e2 | none => .bad) (.Assign [tg] a pos) Γ ⟨some (tgtG t m Γ1), none, none⟩ := by
  refine PS.mono h fun D σ H ⟨e, F, fp, s, z⟩ => ⟨e, F, fp, s, ?_⟩
  cases e1 : ra e with
  | bad => simp only [e1, R.st_bad] at z; exact z
  | exc y e' => simp only [e1, R.st_exc] at z; exact XWs.at_ z
  | ok d e' =>
    simp only [e1, R.st_ok] at z ⊢
    intro F' H' fp' v f g val
    unfold Val at val
    rw [if_neg (by omega)] at val
    cases e2 : asgT t d e' with
    | none => rw [e2] at z; exact z.elim
    | some e2' =>
      rw [e2] at z
      refine tgt_put (ro := Rt.ro) g.st hm val g.dis e2 hi hr fun σ' fp2 s2 o2 hro hlen => ?_
      refine z σ' F' H' fp2 ⟨s2, fun _ z => z.elim, g.s (ro := Rt.ro).ch, fun a z => ?_, hro, hlen⟩
      rcases z with z | z
      · rcases o2 a z with z | z
        · exact g.grow a (.inl z)
        · exact g.grow a (.inr z)
      · exact z.elim
/-! ### what is walked -/
/-- the i-th of xs comes, shared -/
def YD (K : PySem.W.Frag) (F : Hp) (xs : List D) (i : Nat) (H : Hp) (v : V) (H' : Hp) : Prop :=
  ∃ d, xs[i]? = some d ∧ ∀ Fc, Sub F Fc → Sub Fc H → ∃ F2, Sub Fc F2 ∧ Sub F2 H' ∧ Sub H H' ∧ (∀ a, Fc a = none → F2 a ≠ none → H a = none) ∧ RF K F2 d v
def Wk (K : PySem.W.Frag) (F : Hp) (J : It) (xs : List D) : Prop := Walk J xs.length (fun H => Sub F H) (YD K F xs)
def rdI (T : Tb) (W : WX) (kp : List Nat) (q : Bool) (r : Env → R D) (Γ Γ' : Gm) : TI := fun σ H R => ∃ e F fp, St T.K Γ e.s σ F H fp ∧ match r e with
  | .ok d e' => (match items d with
    | some xs => ∀ F' H' fp' J, Go T.K q Γ' σ F H fp e.s e'.s F' H' fp' emp → Wk T.K F' J xs → R J H'
    | none => False)
  | .exc x e' => XW T W kp σ F H fp x e'.s
  | .bad => False
/-- THE JUDGEMENT of what a loop walks -/
def SI (X : Cx) (T : Tb) (W : WX) (kp : List Nat) (q : Bool) (r : Env → R D) (tg x : Expr) (Γ Γ' : Gm) : Prop := PI X tg x (rdI T W kp q r Γ Γ')
theorem PI.mono {X : Cx} {tg x : Expr} {t t' : TI} (h : PI X tg x t) (m : ∀ σ H R, t' σ H R → t σ H R) : PI X tg x t' := ⟨fun pins s σ H R I z => h.run pins s σ H R I (m σ H R z)⟩
theorem wk_list {K : PySem.W.Frag} {F H : Hp} {xs : List D} {a : Addr} {vs : List V} (q : Rd F a (.lst vs)) (r : RFL K F xs vs) : Wk K F (Itl K a) xs := by
  have hl := rfl_len r
  unfold Wk
  rw [← hl]
  refine (walk_list (K := K) (a := a) (xs := vs)).mono (fun H' s => .inl (Rd.sub s q)) fun i H1 v H2 hi s y => ?_
  obtain ⟨rfl, y⟩ := y
  have hi' : i < xs.length := by omega
  obtain ⟨w, e, rw_⟩ := rfl_get r (List.getElem?_eq_getElem hi')
  rw [y] at e; cases e
  exact ⟨_, List.getElem?_eq_getElem hi', fun Fc s1 s2 => ⟨Fc, Sub.refl _, s2, Sub.refl _, fun a e e' => (e' e).elim, RF.sub s1 _ _ rw_⟩⟩
theorem wk_tup {K : PySem.W.Frag} {F H : Hp} {xs : List D} {a : Addr} {vs : List V} (q : SqT K F a vs) (r : RFL K F xs vs) : Wk K F (Itt K a) xs := by
  have hl := rfl_len r
  unfold Wk
  rw [← hl]
  refine (walk_tup (K := K) (a := a) (xs := vs)).mono (fun H' s => SqT.sub s q) fun i H1 v H2 hi s y => ?_
  obtain ⟨rfl, y⟩ := y
  have hi' : i < xs.length := by omega
  obtain ⟨w, e, rw_⟩ := rfl_get r (List.getElem?_eq_getElem hi')
  rw [y] at e; cases e
  exact ⟨_, List.getElem?_eq_getElem hi', fun Fc s1 s2 => ⟨Fc, Sub.refl _, s2, Sub.refl _, fun a e e' => (e' e).elim, RF.sub s1 _ _ rw_⟩⟩
theorem wk_str {K : PySem.W.Frag} {F : Hp} {s : Txt} : Wk K F (Its (txt s)) (s.map fun c => .str [c]) := by
  unfold Wk
  have e1 : (txt s).cps.size = (s.map fun c => D.str [c]).length := by simp [txt]
  rw [← e1]
  refine walk_str.mono (fun _ _ => True.intro) fun i H1 v H2 hi _ y => ?_
  obtain ⟨rfl, c, ec, rfl⟩ := y
  have ec' : s[i]? = some c := by simpa [txt] using ec
  refine ⟨.str [c], by simp [ec'], fun Fc s1 s2 => ⟨Fc, Sub.refl _, s2, Sub.refl _, fun a e e' => (e' e).elim, by rw [← txt_one]; exact mk_str⟩⟩
theorem wk_range {K : PySem.W.Frag} {F : Hp} {lo : Int} {n : Nat} : Wk K F (Itr lo n) (rangeD lo n) := by
  unfold Wk
  have e1 : (rangeD lo n).length = n := by simp [rangeD]
  rw [e1]
  refine walk_range.mono (fun _ _ => True.intro) fun i H1 v H2 hi _ y => ?_
  obtain ⟨rfl, rfl⟩ := y
  exact ⟨.int (lo + (i : Nat)), by simp [rangeD, hi], fun Fc s1 s2 => ⟨Fc, Sub.refl _, s2, Sub.refl _, fun a e e' => (e' e).elim, mk_int⟩⟩
/-- a list, a tuple or a text, walked -/
def iAny (K : PySem.W.Frag) (tl : TE) : TI := fun σ H R => tl σ H fun x H1 => (∃ a, x = .ref a ∧ (∃ xs, SqL K H1 a xs) ∧ R (Itl K a) H1) ∨ (∃ a, x = .ref a ∧ (∃ xs, SqT K H1 a xs) ∧ R (Itt K a) H1) ∨ ∃ z, x = .str z ∧ R (Its z) H1
theorem pi_any {tg l : Expr} {tl : TE} (hl : PE X l tl) : PI X tg l (iAny X.K tl) := by
  refine ⟨fun pins s σ H R I h => ?_⟩
  refine thn (hl.run pins s σ H _ I h) fun v s1 ⟨x, H1, I1, r1, q1⟩ => ?_
  rcases q1 with ⟨a, e, ⟨xs, hq⟩, q⟩ | ⟨a, e, ⟨xs, hq⟩, q⟩ | ⟨z, e, q⟩
  · subst e
    cases r1
    obtain ⟨its, rv, p, hz⟩ := I1.list hq
    refine wpAny_pyIter_list p.isList ?_
    refine ⟨s1.heap.objs.size, [s1.heap.objs.size], _, _, H1, rfl, I1.kept (t' := s1.toks) fun b o e => Heap.get?_push_of_some _ e, turn_list a _, ⟨_, Heap.get?_push_size _ rfl, rfl, rfl⟩, fun b hb => ?_, q⟩
    have e : b = s1.heap.objs.size := by simpa using hb
    subst e
    exact I1.fpOk (Nat.le_refl _) (I1.hok.fresh (Nat.le_refl _))
  · subst e
    cases r1
    obtain ⟨its, rv, p, hz⟩ := I1.tuple hq
    refine wpAny_pyIter_tuple (show s1.heap.IsTuple a its.toArray from p) ?_
    refine ⟨s1.heap.objs.size, [s1.heap.objs.size], _, _, H1, rfl, I1.kept (t' := s1.toks) fun b o e => Heap.get?_push_of_some _ e, turn_tuple a _, ⟨_, Heap.get?_push_size _ rfl, rfl, rfl⟩, fun b hb => ?_, q⟩
    have e : b = s1.heap.objs.size := by simpa using hb
    subst e
    exact I1.fpOk (Nat.le_refl _) (I1.hok.fresh (Nat.le_refl _))
  · subst e
    obtain ⟨t, rfl⟩ := r1
    cases ha : z.cps.all (· < 128)
    · exact wpAny_pyIter_wide ha (pi_one (tk := s1.toks) I1 _ (turn_str _ z t "str_iterator" (.inr rfl)) ⟨_, Heap.get?_push_size _ rfl, rfl, rfl⟩ q)
    · exact wpAny_pyIter_ascii ha (pi_one (tk := s1.toks) I1 _ (turn_str _ z t "str_ascii_iterator" (.inl rfl)) ⟨_, Heap.get?_push_size _ rfl, rfl, rfl⟩ q)
theorem si_val {ra : Env → R D} {tg x : Expr} {q : Bool} {Γ Γ1 : Gm} {m : Nat} (hK : X.K = T.K) (h : SE X T W kp q ra x Γ m Γ1) (hm : own m = true) : SI X T W kp q ra tg x Γ Γ1 := by
  refine PI.mono (pi_any (se_weak h (leG.refl _) (.inr ⟨Nat.le_refl 1, own_pos hm⟩))) fun σ H RR z => ?_
  rw [hK]
  obtain ⟨e, F, fp, s, z⟩ := z
  refine ⟨e, F, fp, s, ?_⟩
  cases e1 : ra e with
  | bad => rw [e1] at z; exact z
  | exc y e' => rw [e1] at z; exact z
  | ok d e' =>
    rw [e1] at z
    dsimp only at z ⊢
    intro F' H' fp' v f g val
    unfold Val at val
    rw [if_neg (by decide)] at val
    obtain ⟨hr, rfl⟩ := RO.to1 (Nat.le_refl 1) val
    cases hi : items d with
    | none => rw [hi] at z; exact z.elim
    | some xs =>
      rw [hi] at z
      cases d <;> simp only [items, reduceCtorEq, Option.some.injEq] at hi
      · split at hi <;> simp only [reduceCtorEq, Option.some.injEq] at hi
        subst hi
        obtain rfl := rf_str hr
        exact .inr (.inr ⟨_, rfl, z F' H' fp' _ g wk_str⟩)
      · subst hi
        simp only [RF] at hr
        obtain ⟨a, vs, rfl, qq, r⟩ := hr
        exact .inr (.inl ⟨a, rfl, ⟨vs, SqT.sub g.st.sub qq⟩, z F' H' fp' _ g (wk_tup (H := H') qq r)⟩)
      · subst hi
        simp only [RF] at hr
        obtain ⟨a, vs, rfl, qq, r⟩ := hr
        exact .inl ⟨a, rfl, ⟨vs, .inl (Rd.sub g.st.sub qq)⟩, z F' H' fp' _ g (wk_list (H := H') qq r)⟩
      · simp only [RF] at hr
theorem lim62 : (LIM : Int) < 2 ^ 62 := by decide
/-- range(n) -/
theorem si_rg {ra : Env → R D} {tg a : Expr} {p pos : Pos} {q : Bool} {Γ Γ1 : Gm} {m : Nat} (hg : Gl X "range") (hm : X.mg "range" = none) (h : SE X T W kp q ra a Γ m Γ1) (h2 : ns a = true) :
    SI X T W kp q (fun e => (ra e).bind fun x e1 => R.lift (rgD x) e1) tg (.Call (.Name "range" p) [a] [] pos) Γ Γ1 := by
  refine PI.mono (pi_range1 hg hm (pa_cons h pa_nil (star_cons h2)) (star_cons h2)) fun σ H RR z => ?_
  obtain ⟨e, F, fp, s, z⟩ := z
  refine ⟨e, F, fp, s, ?_⟩
  dsimp only at z
  cases e1 : ra e with
  | bad => rw [e1] at z; exact z
  | exc y e' => rw [e1] at z; exact z
  | ok d e' =>
    rw [e1] at z
    simp only [R.bind_ok] at z
    intro F' H' fp' v f g val
    cases d <;> try exact z.elim
    rename_i n
    by_cases hl : n ≤ (LIM : Int) ∧ -(LIM : Int) ≤ n
    · simp only [rgD, if_pos hl, R.lift_some, items] at z
      obtain rfl := rf_int (val.rf g.st.sub)
      have h62 := lim62
      exact ⟨n, rfl, by omega, by omega, z F' H' fp' _ (go_app g fun _ z => z.elim) wk_range⟩
    · simp only [rgD, if_neg hl] at z
      exact z.elim
theorem si_rg2 {ra rb : Env → R D} {tg a b : Expr} {p pos : Pos} {q1 q2 : Bool} {Γ Γ1 Γ2 : Gm} {m n : Nat} (hg : Gl X "range") (hm : X.mg "range" = none) (ha : SE X T W kp q1 ra a Γ m Γ1) (hb : SE X T W kp q2 rb b Γ1 n Γ2) (hs : own m = true ∨ q2 = true) (h2 : ns a = true) (h3 : ns b = true) :
    SI X T W kp (q1 && q2) (fun e => (ra e).bind fun x e1 => (rb e1).bind fun y e2 => R.lift (rg2D x y) e2) tg (.Call (.Name "range" p) [a, b] [] pos) Γ Γ2 := by
  have hst : starEach [a, b] X.env = [(false, eval a X.env), (false, eval b X.env)] := by rw [star_cons h2, star_cons h3]; rfl
  refine PI.mono (pi_range2 hg hm (pa_cons ha (pa_cons hb pa_nil (star_cons h3)) (star_cons h2)) hst (star_cons h3)) fun σ H RR z => ?_
  show tOp (fun v u H1 _ => ∃ i j : Int, [v, u] = [.int i, .int j] ∧ (-(2 ^ 62) ≤ i ∧ i < 2 ^ 62 ∧ -(2 ^ 62) ≤ j ∧ j < 2 ^ 62) ∧ RR (Itr i (j - i).toNat) H1) (rdE T W kp q1 ra Γ m Γ1) (rdE T W kp q2 rb Γ1 n Γ2) σ H (fun _ _ => True)
  obtain ⟨e, F, fp, s, z⟩ := z
  refine ⟨e, F, fp, s, ?_⟩
  dsimp only at z
  cases e1 : ra e with
  | bad => rw [e1] at z; exact z
  | exc y e' => rw [e1] at z; exact z
  | ok d e' =>
    rw [e1] at z
    simp only [R.bind_ok] at z
    intro F1 H1 fp1 v f g val
    refine ⟨e', F1, fp1, g.st, ?_⟩
    cases e2 : rb e' with
    | bad => rw [e2] at z; exact z
    | exc y e'' => rw [e2] at z; exact XW.back z g
    | ok d2 e'' =>
      rw [e2] at z
      simp only [R.bind_ok] at z
      intro F2 H2 fp2 u f2 g2 val2
      cases d <;> cases d2 <;> try exact z.elim
      rename_i x y
      by_cases hl : (y ≤ (LIM : Int) ∧ -(LIM : Int) ≤ y) ∧ x ≤ (LIM : Int) ∧ -(LIM : Int) ≤ x
      · simp only [rg2D, if_pos hl, R.lift_some, items] at z
        have val' := val.stay g2.ch g.dis hs (hs.imp own_ne id)
        obtain rfl := rf_int (val'.rf g2.st.sub)
        obtain rfl := rf_int (val2.rf g2.st.sub)
        have h62 := lim62
        refine ⟨x, y, rfl, by omega, z F2 H2 fp2 _ (go_app (Go.trans g g2 val.cells) fun _ z => z.elim) wk_range⟩
      · simp only [rg2D, if_neg hl] at z
        exact z.elim
end
end Z

/-! Z11: for, while. -/
namespace Z
open PySem L2 PyProof.Rows
section
variable {X : Cx} {T : Tb} {W : WX} {kp : List Nat} {Rt : RT}
def nset : Expr → Bool
  | .Set .. => false
  | _ => true
theorem set_ok {e : Expr} {env : PySem.Env} (h : nset e = true) : ∀ x, foldedSetIterable e env x = pure x := by
  intro x
  cases e <;> first
    | rfl
    | (simp [nset] at h)
structure ForOk (O Ob : Out) (Γi : Gm) : Prop where
  nx : leO (some Γi) Ob.nx
  ct : leO (some Γi) Ob.ct
  bk : leO O.nx Ob.bk
  out : leO O.nx (some Γi)
theorem ss_for {ra : Env → R D} {rb : Env → RS} {tg it : Expr} {body : List Stmt} {pos : Pos} {q : Bool} {Γ Γ1 Γi : Gm} {t : Z.T} {Ob O : Out} (hp : PassesOwn (model X.prog X.w) X.A X.env X.xe) (hc : X.calm = true)
    (hi : SI X T W kp q ra tg it Γ Γ1) (hg : PG X tg (gT T.K t)) (hb : SSs X T W kp Rt rb body (tgtG t 1 Γi) Ob) (l1 : leG Γi Γ1) (f : ForOk O Ob Γi) (ht : ∀ i ∈ t.is, i < Γi.length) (hr : ∀ i ∈ t.is, i ∉ Rt.ro) (hs : nset it = true) :
    SS X T W kp Rt (fun e => (ra e).st fun x e1 => match items x with | none => .bad | some xs => forL t rb xs e1) (.For tg it body [] pos) Γ O := by
  refine PS.mono (ps_for hp hc hi hg hb (set_ok hs)) fun DD σ H z => ?_
  obtain ⟨e, F, fp, s, z⟩ := z
  refine ⟨e, F, fp, s, ?_⟩
  dsimp only at z
  cases e1 : ra e with
  | bad => rw [e1] at z; exact z
  | exc y e' => rw [e1] at z; exact XWs.at_ z
  | ok d e' =>
    rw [e1] at z
    simp only [R.st_ok] at z ⊢
    cases e2 : items d with
    | none => rw [e2] at z; exact z.elim
    | some xs =>
      rw [e2] at z
      dsimp only at z ⊢
      intro F1 H1 fp1 J g wk
      refine for_it wk (fun n σ' H' => ∃ (e2 : Env) (F2 : Hp) (fp2 : Nat → AS), St T.K Γi e2.s σ' F2 H' fp2 ∧ Sub F1 F2 ∧ OutS T W kp Rt O σ' F2 H' fp2 DD (forL t rb (xs.drop n) e2)) ?_ (fun n σ' H' _ ⟨e2, F2, fp2, s2, sb, _⟩ => sb.trans s2.sub) ?_ ?_
      · obtain ⟨F2, fp2, g2, k2⟩ := g.weak l1 (fun _ z => z.elim)
        exact ⟨e', F2, fp2, g2.st, k2.sub, z.back g2.s⟩
      · rintro i v σ' H2 H3 hlt ⟨e2, F2, fp2, s2, sb, z2⟩ ⟨d2, hd2, y⟩
        obtain ⟨F3, s23, s3H, sH, nw, rv⟩ := y F2 sb s2.sub
        have hdrop : xs.drop i = d2 :: xs.drop (i + 1) := by
          rw [List.drop_eq_getElem_cons hlt]
          congr 1
          rw [List.getElem?_eq_getElem hlt] at hd2
          exact Option.some.inj hd2
        rw [hdrop] at z2
        simp only [forL] at z2
        cases e3 : asgT t d2 e2 with
        | none => rw [e3] at z2; exact z2.elim
        | some e3' =>
          rw [e3] at z2
          dsimp only at z2
          -- the heap with the new pair
          have s3 : St T.K Γi e2.s σ' F3 H3 fp2 := ⟨s3H, s2.lG, s2.le, fun j hj => by
            obtain ⟨d3, v3, ea, eb, r3⟩ := s2.at_ j hj
            refine ⟨d3, v3, ea, eb, RO.kept d3 _ v3 _ ⟨s23, fun a ha => ?_, fun a ha hn => ?_⟩ r3⟩
            · have := (s2.cells ⟨j, ha⟩).2
              cases eh : H2 a with
              | none => exact absurd eh this
              | some z => exact sH a z eh
            · cases ef : F3 a with
              | none => rfl
              | some z => exact ((s2.cells ⟨j, ha⟩).2 (nw a hn (by rw [ef]; simp))).elim, s2.dis, s2.dead⟩
          have g23 : GoS T.K Rt.ro Γi σ' F2 H2 fp2 e2.s σ' F3 H3 fp2 emp := ⟨s3, fun _ z => z.elim, ⟨s23, fun a o e _ => sH a o e, fun a e e' => .inr (nw a e e')⟩, fun a z => z.elim .inl fun z => z.elim, fun _ _ => rfl, rfl⟩
          refine tgt_put (ro := Rt.ro) s3 (Nat.le_refl 1) (RO.of1 (Nat.le_refl 1) rv) (fun _ z => z.elim) e3 ht hr fun σ4 fp4 s4 o4 hro hlen => ?_
          have g34 : GoS T.K Rt.ro (tgtG t 1 Γi) σ' F2 H2 fp2 e3'.s σ4 F3 H3 fp4 emp := ⟨s4, fun _ z => z.elim, g23.ch, fun a z => by
            rcases z with z | z
            · rcases o4 a z with z | z
              · exact .inl z
              · exact z.elim
            · exact z.elim, hro, hlen⟩
          refine ⟨e3', F3, fp4, s4, ?_⟩
          have fin : ∀ (e5 : Env) (o : Option Gm), leO (some Γi) o → OutS T W kp Rt O σ' F2 H2 fp2 DD (forL t rb (xs.drop (i + 1)) e5) → EndO T.K Rt.ro o σ4 F3 H3 fp4 e5.s (fun σ' H' => ∃ (e2 : Env) (F2 : Hp) (fp2 : Nat → AS), St T.K Γi e2.s σ' F2 H' fp2 ∧ Sub F1 F2 ∧ OutS T W kp Rt O σ' F2 H' fp2 DD (forL t rb (xs.drop (i + 1)) e2)) := by
            intro e5 o lo z5
            refine EndO.weak lo fun σ6 F6 H6 fp6 g6 => ?_
            exact ⟨e5, F6, fp6, g6.st, sb.trans (s23.trans g6.ch.sub), z5.back (g34.trans g6)⟩
          cases e4 : rb e3' with
          | nx e5 => rw [e4] at z2; exact fin e5 _ f.nx z2
          | ct e5 => rw [e4] at z2; exact fin e5 _ f.ct z2
          | bk e5 => rw [e4] at z2; exact EndO.back (EndO.weak f.bk z2) g34
          | rt d5 e5 => rw [e4] at z2; exact fun σ5 F5 H5 fp5 v5 f5 g5 r5 => z2 σ5 F5 H5 fp5 v5 f5 (g34.trans g5) r5
          | exc x5 e5 => rw [e4] at z2; exact XWs.back z2 g34
          | bad => rw [e4] at z2; exact z2
      · rintro σ' H2 ⟨e2, F2, fp2, s2, sb, z2⟩
        rw [List.drop_of_length_le (Nat.le_refl _)] at z2
        exact EndO.weak f.out z2 σ' F2 H2 fp2 (.refl s2)
theorem ss_while {rc : Env → R D} {rb : Env → RS} {c : Expr} {body : List Stmt} {pos : Pos} {q : Bool} {Γ Γc Γi : Gm} {Ob O : Out} (hp : PassesOwn (model X.prog X.w) X.A X.env X.xe) (hc : ST X T W kp q rc c Γi Γc) (hb : SSs X T W kp Rt rb body Γc Ob) (l1 : leG Γi Γ) (f : ForOk O Ob Γi) (hx : leO O.nx (some Γc)) :
    SS X T W kp Rt (fun e => whL rc rb BIG e) (.While c body [] pos) Γ O := by
  refine PS.mono (ps_while hp hc hb) fun DD σ H z => ?_
  obtain ⟨e, F, fp, s, z⟩ := z
  refine ⟨fun n σ' H' => ∃ (e2 : Env) (F2 : Hp) (fp2 : Nat → AS), St T.K Γi e2.s σ' F2 H' fp2 ∧ OutS T W kp Rt O σ' F2 H' fp2 DD (whL rc rb n e2), ⟨BIG, ?_⟩, ?_⟩
  · obtain ⟨F2, fp2, g2, k2⟩ := (GoS.refl (ro := Rt.ro) s).weak l1 (fun _ z => z.elim)
    exact ⟨e, F2, fp2, g2.st, z.back g2⟩
  · rintro n σ1 H1 ⟨e2, F2, fp2, s2, z2⟩
    refine ⟨e2, F2, fp2, s2, ?_⟩
    cases n with
    | zero => exact z2.elim
    | succ n =>
      simp only [whL] at z2
      cases e1 : rc e2 with
      | bad => rw [e1] at z2; exact z2
      | exc y e' => rw [e1] at z2; exact XWs.at_ z2
      | ok d e' =>
        rw [e1] at z2
        simp only [R.st_ok] at z2 ⊢
        cases e3 : truth d with
        | none => rw [e3] at z2; exact z2.elim
        | some b =>
          rw [e3] at z2
          intro F' H' fp' g
          cases b with
          | false =>
            rw [if_neg Bool.false_ne_true]
            exact EndO.weak hx z2 σ1 F' H' fp' g.s
          | true =>
            rw [if_pos rfl]
            refine ⟨fun σ' H' => ∃ (e2 : Env) (F2 : Hp) (fp2 : Nat → AS), St T.K Γi e2.s σ' F2 H' fp2 ∧ OutS T W kp Rt O σ' F2 H' fp2 DD (whL rc rb n e2), fun σ' H' w => ⟨n, Nat.lt_succ_self n, w⟩, e', F', fp', g.st, ?_⟩
            dsimp only at z2
            have g0 : GoS T.K Rt.ro Γc σ1 F2 H1 fp2 e'.s σ1 F' H' fp' emp := g.s
            have fin : ∀ (e5 : Env) (o : Option Gm), leO (some Γi) o → OutS T W kp Rt O σ1 F2 H1 fp2 DD (whL rc rb n e5) → EndO T.K Rt.ro o σ1 F' H' fp' e5.s (fun σ' H' => ∃ (e2 : Env) (F2 : Hp) (fp2 : Nat → AS), St T.K Γi e2.s σ' F2 H' fp2 ∧ OutS T W kp Rt O σ' F2 H' fp2 DD (whL rc rb n e2)) := by
              intro e5 o lo z5
              refine EndO.weak lo fun σ6 F6 H6 fp6 g6 => ?_
              exact ⟨e5, F6, fp6, g6.st, z5.back (g0.trans g6)⟩
            cases e4 : rb e' with
            | nx e5 => rw [e4] at z2; exact fin e5 _ f.nx z2
            | ct e5 => rw [e4] at z2; exact fin e5 _ f.ct z2
            | bk e5 => rw [e4] at z2; exact EndO.back (EndO.weak f.bk z2) g0
            | rt d5 e5 => rw [e4] at z2; exact fun σ5 F5 H5 fp5 v5 f5 g5 r5 => z2 σ5 F5 H5 fp5 v5 f5 (g0.trans g5) r5
            | exc x5 e5 => rw [e4] at z2; exact XWs.back z2 g0
            | bad => rw [e4] at z2; exact z2
end
end Z

/-! Z12: comprehensions. -/
namespace Z
open PySem L2 PyProof.Rows
def W0 : WX := fun _ _ _ _ => False
section
variable {K : PySem.W.Frag} {F H : Hp}
theorem St.congr {Γ : Gm} {e e' : List D} {σ σ' : L2.St} {fp : Nat → AS} (s : St K Γ e σ F H fp) (h : ∀ i, 1 ≤ lvOf Γ i → e'[i]? = e[i]? ∧ σ'[i]? = σ[i]?) (hl : e'.length = e.length) (hs : σ'.length = σ.length) : St K Γ e' σ' F H fp :=
  ⟨s.sub, s.lG.trans hs.symm, (hl.trans s.le).trans hs.symm, fun i hi => by
    obtain ⟨d, v, e1, e2, r⟩ := s.at_ i hi
    obtain ⟨h1, h2⟩ := h i hi
    exact ⟨d, v, h1.trans e1, h2.trans e2, r⟩, s.dis, s.dead⟩
theorem lvOf_setG : ∀ (is : List Nat) (n : Nat) (Γ : Gm) (j : Nat), (∀ i ∈ is, i < Γ.length) → lvOf (setG is n Γ) j = if j ∈ is then n else lvOf Γ j
  | [], n, Γ, j, _ => by simp [setG]
  | i :: is, n, Γ, j, h => by
    unfold setG
    have hi := h i List.mem_cons_self
    rw [lvOf_setG is n _ j (fun k hk => by rw [List.length_set]; exact h k (List.mem_cons_of_mem _ hk)), lvOf_set hi]
    by_cases h1 : j ∈ is
    · rw [if_pos h1, if_pos (List.mem_cons_of_mem _ h1)]
    · rw [if_neg h1]
      by_cases h2 : j = i
      · rw [if_pos h2, if_pos (by rw [h2]; exact List.mem_cons_self)]
      · rw [if_neg h2, if_neg (by simp [h1, h2])]
theorem wipe_get (σ : L2.St) : ∀ (vs : List Nat) (j : Nat), j ∉ vs → (wipe σ vs)[j]? = σ[j]? := fun vs j h => wipe_out h
theorem wipe_in (σ : L2.St) : ∀ (vs : List Nat) (j : Nat), j ∈ vs → (wipe σ vs)[j]? = if j < σ.length then some none else none
  | [], j, h => by simp at h
  | v :: vs, j, h => by
    unfold wipe
    by_cases hv : j = v
    · subst hv
      rw [List.getElem?_set]
      simp [wipe_length]
    · rw [List.getElem?_set_ne (Ne.symm hv)]
      exact wipe_in σ vs j ((List.mem_cons.mp h).resolve_left hv)
theorem wipe_setσ {σ σ' : L2.St} {vs : List Nat} (h : ∀ j, j ∉ vs → σ'[j]? = σ[j]?) (hl : σ'.length = σ.length) : wipe σ' vs = wipe σ vs := by
  refine List.ext_getElem? fun j => ?_
  by_cases hj : j ∈ vs
  · rw [wipe_in _ _ _ hj, wipe_in _ _ _ hj, hl]
  · rw [wipe_get _ _ _ hj, wipe_get _ _ _ hj]; exact h j hj
theorem wipe_wipe (σ : L2.St) (vs : List Nat) : wipe (wipe σ vs) vs = wipe σ vs := wipe_setσ (fun j hj => wipe_get σ vs j hj) (wipe_length σ vs)
theorem restore_len : ∀ (is : List Nat) (e0 e : Env), (restore is e0 e).s.length = e.s.length
  | [], _, _ => rfl
  | i :: is, e0, e => by unfold restore; rw [restore_len is]; simp [Env.set]
theorem restore_out : ∀ (is : List Nat) (e0 e : Env) (j : Nat), j ∉ is → (restore is e0 e).s[j]? = e.s[j]?
  | [], _, _, _, _ => rfl
  | i :: is, e0, e, j, h => by
    simp only [List.mem_cons, not_or] at h
    unfold restore
    rw [restore_out is e0 _ j h.2]
    simp [Env.set, List.getElem?_set_ne (Ne.symm h.1)]
theorem restore_in : ∀ (is : List Nat) (e0 e : Env) (j : Nat), j ∈ is → e.s.length = e0.s.length → (restore is e0 e).s[j]? = e0.s[j]?
  | [], _, _, _, h, _ => by simp at h
  | i :: is, e0, e, j, h, hl => by
    unfold restore
    by_cases h1 : j ∈ is
    · exact restore_in is e0 _ j h1 (by simp [Env.set, hl])
    · have hj : j = i := (List.mem_cons.mp h).resolve_right h1
      subst hj
      rw [restore_out is e0 _ j h1]
      simp only [Env.set]
      by_cases hlt : j < e.s.length
      · rw [List.getElem?_set_self hlt]
        rw [List.getElem?_eq_getElem (by omega : j < e0.s.length)]
        rfl
      · rw [List.getElem?_eq_none (by simp; omega), List.getElem?_eq_none (by omega)]
theorem restore_same {is : List Nat} {e0 e : Env} (hl : e.s.length = e0.s.length) (h : ∀ j, j ∉ is → e.s[j]? = e0.s[j]?) : (restore is e0 e).s = e0.s := by
  refine List.ext_getElem? fun j => ?_
  by_cases hj : j ∈ is
  · exact restore_in is e0 e j hj hl
  · rw [restore_out is e0 e j hj]; exact h j hj
theorem setAll_out : ∀ (is : List Nat) (xs : List D) (e : Env) (j : Nat), j ∉ is → (setAll is xs e).s[j]? = e.s[j]?
  | [], _, _, _, _ => by simp [setAll]
  | _ :: _, [], _, _, _ => by simp [setAll]
  | i :: is, x :: xs, e, j, h => by
    simp only [List.mem_cons, not_or] at h
    simp only [setAll]
    rw [setAll_out is xs _ j h.2]
    simp [Env.set, List.getElem?_set_ne (Ne.symm h.1)]
theorem setAll_len : ∀ (is : List Nat) (xs : List D) (e : Env), (setAll is xs e).s.length = e.s.length
  | [], _, _ => by simp [setAll]
  | _ :: _, [], _ => by simp [setAll]
  | i :: is, x :: xs, e => by simp only [setAll]; rw [setAll_len is xs]; simp [Env.set]
theorem asgT_out {t : T} {d : D} {e e' : Env} (h : asgT t d e = some e') : e'.s.length = e.s.length ∧ ∀ j, j ∉ t.is → e'.s[j]? = e.s[j]? := by
  cases t with
  | n i =>
    simp only [asgT, Option.some.injEq] at h
    subst h
    refine ⟨by simp [Env.set], fun j hj => ?_⟩
    simp only [T.is, List.mem_singleton] at hj
    simp [Env.set, List.getElem?_set_ne (Ne.symm hj)]
  | tp is =>
    cases d <;> try (simp [asgT] at h; done)
    simp only [asgT] at h
    split at h <;> simp only [reduceCtorEq, Option.some.injEq] at h
    subst h
    exact ⟨setAll_len _ _ _, fun j hj => setAll_out _ _ _ j hj⟩
/-- a cell that nobody holds is changed -/
theorem St.upd_out {Γ : Gm} {e : List D} {σ : L2.St} {fp : Nat → AS} {p : Addr} {o : HO} (s : St K Γ e σ F H fp) (h1 : F p = none) (h2 : ¬ Own fp p) : St K Γ e σ F (upd H p o) fp := by
  refine ⟨fun a x ea => ?_, s.lG, s.le, fun i hi => ?_, s.dis, s.dead⟩
  · have : a ≠ p := by rintro rfl; rw [h1] at ea; cases ea
    rw [upd_ne this]; exact s.sub a x ea
  · obtain ⟨d, v, e1, e2, r⟩ := s.at_ i hi
    exact ⟨d, v, e1, e2, RO.kept d _ v _ ⟨Sub.refl _, fun a ha => upd_ne (by rintro rfl; exact h2 ⟨i, ha⟩), fun a _ h => h⟩ r⟩
end
section
variable (T : Tb) (W : WX) (kp : List Nat)
/-- the tests of a clause -/
def rdB (q : Bool) (r : Env → R Bool) (Γ Γ' : Gm) : TT := fun σ H Q => ∃ e F fp, St T.K Γ e.s σ F H fp ∧ match r e with
  | .ok b e' => ∀ F' H' fp', Go T.K q Γ' σ F H fp e.s e'.s F' H' fp' emp → Q b H'
  | .exc x e' => XW T W kp σ F H fp x e'.s
  | .bad => False
end
def STs (X : Cx) (T : Tb) (W : WX) (kp : List Nat) (q : Bool) (r : Env → R Bool) (xs : List Expr) (Γ Γ' : Gm) : Prop := PTs X xs (rdB T W kp q r Γ Γ')
theorem PTs.mono {X : Cx} {x : List Expr} {t t' : TT} (h : PTs X x t) (m : ∀ σ H Q, t' σ H Q → t σ H Q) : PTs X x t' := ⟨fun pins s σ H Q I z => h.run pins s σ H Q I (m σ H Q z)⟩
section
variable {X : Cx} {T : Tb} {W : WX} {kp : List Nat}
theorem sts_nil {Γ : Gm} {q : Bool} : STs X T W kp q (fun e => .ok true e) [] Γ Γ :=
  PTs.mono pts_nil fun σ H Q ⟨e, F, fp, s, z⟩ => z F H fp (Go.refl s)
theorem sts_one {c : Expr} {q : Bool} {rc : Env → R D} {Γ Γ' : Gm} (h : ST X T W kp q rc c Γ Γ') : STs X T W kp q (fun e => (rc e).bind fun x e1 => match truth x with | some true => .ok true e1 | some false => .ok false e1 | none => .bad) [c] Γ Γ' := by
  refine PTs.mono (pts_one h) fun σ H Q z => ?_
  obtain ⟨e, F, fp, s, z⟩ := z
  refine ⟨e, F, fp, s, ?_⟩
  dsimp only at z
  cases e1 : rc e with
  | bad => rw [e1] at z; exact z
  | exc y e' => rw [e1] at z; exact z
  | ok d e' =>
    rw [e1] at z
    simp only [R.bind_ok] at z ⊢
    cases e2 : truth d with
    | none => rw [e2] at z; exact z
    | some b =>
      rw [e2] at z
      cases b <;> exact z
/-- what a clause makes of one item -/
def oneD (rt : Env → R Bool) (rl : Env → R D) : Env → R (List D) := fun e3 => (rt e3).bind fun b e4 => if b = true then (rl e4).bind fun z e5 => .ok [z] e5 else .ok [] e4
/-- the static conditions of a comprehension -/
structure LcOk (t : Z.T) (vs : List Nat) (Γ1 Γm Γ2 Γ3 : Gm) (m : Nat) : Prop where
  lt : ∀ i ∈ t.is, i < Γm.length
  sub : ∀ i ∈ t.is, i ∈ vs
  le1 : leG Γm Γ1
  dead : ∀ i ∈ vs, lvOf Γm i = 0
  le2 : leG Γm (setG t.is 0 Γ2)
  le3 : leG Γm (setG t.is 0 Γ3)
  own : own m = true
  n99 : m ≠ 99
theorem comp_turn {t : Z.T} {f : Env → R (List D)} {d : D} {xs : List D} {e e6 : Env} {zs' : List D} (h : compL (turnD t f) (d :: xs) e = .ok zs' e6) : ∃ e3 zs1 e5 zs2, asgT t d e = some e3 ∧ f e3 = .ok zs1 e5 ∧ compL (turnD t f) xs (restore t.is e e5) = .ok zs2 e6 ∧ zs' = zs1 ++ zs2 := by
  simp only [compL] at h
  generalize compL (turnD t f) xs = g at h ⊢
  unfold turnD at h
  cases e3 : asgT t d e with
  | none => rw [e3] at h; cases h
  | some e3' =>
    rw [e3] at h
    dsimp only at h
    cases e4 : f e3' with
    | bad => rw [e4] at h; cases h
    | exc y e'' => rw [e4] at h; cases h
    | ok zs1 e5 =>
      rw [e4] at h
      simp only [R.bind_ok] at h
      cases e5' : g (restore t.is e e5) with
      | bad => rw [e5'] at h; cases h
      | exc y e'' => rw [e5'] at h; cases h
      | ok zs2 e6' =>
        rw [e5'] at h
        simp only [R.bind_ok] at h
        injection h with h1 h2
        subst h2
        exact ⟨e3', zs1, e5, zs2, rfl, e4, e5', h1.symm⟩
theorem St.killAll {K : PySem.W.Frag} {e : List D} {σ : L2.St} {F H : Hp} : ∀ (is : List Nat) {Γ : Gm} {fp : Nat → AS}, St K Γ e σ F H fp → (∀ i ∈ is, i < Γ.length) → ∃ fp', St K (setG is 0 Γ) e σ F H fp' ∧ ∀ a, Own fp' a → Own fp a
  | [], _, fp, s, _ => ⟨fp, s, fun _ z => z⟩
  | i :: is, Γ, fp, s, h => by
    obtain ⟨fp', s', o⟩ := St.killAll is (s.kill (h i List.mem_cons_self)) (fun j hj => by rw [List.length_set]; exact h j (List.mem_cons_of_mem _ hj))
    refine ⟨fp', s', fun a z => ?_⟩
    rcases own_putF (o a z) with z | ⟨j, _, z⟩
    · exact z.elim
    · exact ⟨j, z⟩
/-- a turn's end: the clause's names get their old values back -/
theorem lc_turn {K : PySem.W.Frag} {qs : Bool} {t : Z.T} {vs : List Nat} {Γm Γx : Gm} {σ σ4 : L2.St} {F2 H2 F3 H3 F5 H5 : Hp} {fp2 fp4 fp6 : Nat → AS} {f : AS} {e2 e3 e5 : Env} {d2 : D}
    (s2 : St K Γm e2.s σ F2 H2 fp2) (s23 : Sub F2 F3) (sH : ∀ a o, H2 a = some o → H3 a = some o) (nw : ∀ a, F2 a = none → F3 a ≠ none → H2 a = none) (o4 : ∀ a, Own fp4 a → Own fp2 a) (ha3 : asgT t d2 e2 = some e3)
    (h4 : ∀ j, j ∉ vs → σ4[j]? = σ[j]?) (hl4 : σ4.length = σ.length) (sub : ∀ i ∈ t.is, i ∈ vs) (dead : ∀ i ∈ vs, lvOf Γm i = 0) (le : leG Γm (setG t.is 0 Γx)) (lt : ∀ i ∈ t.is, i < Γm.length)
    (g : Go K qs Γx σ4 F3 H3 fp4 e3.s e5.s F5 H5 fp6 f) (hf : ∀ a, f a → F5 a = none ∧ H5 a ≠ none) :
    ∃ F6 fp7, Go K qs Γm σ F2 H2 fp2 e2.s (restore t.is e2 e5).s F6 H5 fp7 f ∧ Kept f F5 H5 F6 H5 := by
  obtain ⟨a1, a2⟩ := asgT_out ha3
  obtain ⟨fpk, sk, ok_⟩ := St.killAll t.is g.st (fun i hi => by rw [← setG_len t.is 0 Γx, ← le.1]; exact lt i hi)
  obtain ⟨F6, fp7, sw, cw, ow⟩ := sk.weak le
  have lenx : e5.s.length = e2.s.length := by rw [g.st.le, hl4, s2.le]
  have st : St K Γm (restore t.is e2 e5).s σ F6 H5 fp7 := sw.congr (fun i hi => by
    have hv : i ∉ vs := fun z => by rw [dead i z] at hi; omega
    exact ⟨restore_out t.is e2 e5 i fun z => hv (sub i z), (h4 i hv).symm⟩) (restore_len _ _ _) hl4.symm
  have cc : Ch (Own fp2) (Wr qs fp2) F2 H2 F3 H3 := ⟨s23, fun a o e _ => sH a o e, fun a z z' => .inr (nw a z z')⟩
  refine ⟨F6, fp7, ⟨fun hq => ?_, st, fun a z1 z2 => g.dis a z1 (ok_ a (ow a z2)), ?_, fun a z => ?_⟩, cw.kept (fun _ z => z.elim) (fun a z1 z2 => g.dis a z1 (ok_ a z2)) hf⟩
  · have hs := g.same hq
    exact restore_same lenx fun j hj => by rw [hs]; exact a2 j hj
  · refine Ch.trans cc (fun _ z => z.2) (fun a z => .inl (o4 a z)) (?_ : Ch (Own fp4) (Wr qs fp4) F3 H3 F6 H5) (fun _ z => z.2) (fun a z y => ⟨z.1, y⟩)
    exact Ch.trans g.ch (fun _ z => z.2) (fun a z => g.grow a (.inl (ok_ a z))) cw (fun _ z => z.elim) fun _ z => z.elim
  · have : Own fp4 a ∨ H3 a = none := by
      rcases z with z | z
      · exact g.grow a (.inl (ok_ a (ow a z)))
      · exact g.grow a (.inr z)
    rcases this with z | z
    · exact .inl (o4 a z)
    · refine .inr ?_
      cases eh : H2 a with
      | none => rfl
      | some o => rw [sH a o eh] at z; cases z
/-- the new list is changed -/
theorem Go.updD {K : PySem.W.Frag} {q : Bool} {Γ : Gm} {σ : L2.St} {F H F' H' : Hp} {fp fp' : Nat → AS} {e e' : List D} {f f' : AS} {p : Addr} {o : HO} (g : Go K q Γ σ F H fp e e' F' H' fp' f) (hf : F' p = none) (hp : f p) (hff : ∀ a, f' a → f a) (hk : ∀ x, H p = some x → Wr q fp p) : Go K q Γ σ F H fp e e' F' (upd H' p o) fp' f' :=
  ⟨g.same, g.st.upd_out hf fun z => g.dis p hp z, fun a z => g.dis a (hff a z), ⟨g.ch.sub, fun a x hx hw => by
    have : a ≠ p := by rintro rfl; exact hw (hk x hx)
    rw [upd_ne this]
    exact g.ch.keep a x hx hw, g.ch.new⟩, fun a z => g.grow a (z.imp id (hff a))⟩
theorem rd_lc {ri : Env → R D} {rt : Env → R Bool} {rl : Env → R D} {t : Z.T} {vs : List Nat} {q1 q2 q3 : Bool} {Γ Γ1 Γm Γ2 Γ3 : Gm} {m : Nat} {σ : L2.St} {H : Hp} {Q : VK} (ok : LcOk t vs Γ1 Γm Γ2 Γ3 m)
    (z : rdE T W kp (q1 && (q2 && q3)) (fun e => (ri e).bind fun x e1 => match items x with
      | none => .bad
      | some xs => (compL (turnD t (oneD rt rl)) xs e1).nox.bind fun zs e6 => R.lift (guardL zs.length (.lst zs)) e6) Γ (up m) Γm σ H Q) :
    tLc (rdI T W kp q1 ri Γ Γ1) (gT T.K t) (rdB T W0 [] q2 rt (tgtG t 1 Γm) Γ2) (rdE T W0 [] q3 rl Γ2 m Γ3) vs σ H Q := by
  obtain ⟨e, F, fp, s, z⟩ := z
  refine ⟨e, F, fp, s, ?_⟩
  dsimp only at z
  cases e1 : ri e with
  | bad => rw [e1] at z; exact z
  | exc y e' => rw [e1] at z; exact z
  | ok d e' =>
    rw [e1] at z
    simp only [R.bind_ok] at z ⊢
    cases e2 : items d with
    | none => rw [e2] at z; exact z.elim
    | some xs =>
      rw [e2] at z
      dsimp only at z ⊢
      intro F1 H1 fp1 J g1 wk D hD
      have hdn : dn (up m) = m := (dn_up (own_pos ok.own) (by have := ok.own; simp [Z.own] at this; exact this.2)).resolve_right fun w => ok.n99 w.1
      have hup : 2 ≤ up m := by have := own_pos ok.own; unfold up; split <;> omega
      have F1D : F1 D = none := by
        cases ef : F1 D with
        | none => rfl
        | some o => have := g1.st.sub _ _ ef; rw [hD] at this; cases this
      have own1D : ¬ Own fp1 D := fun w => (g1.st.cells w).2 hD
      have own0D : Own fp D ∨ H D = none := Grow.none (f := emp) (g := emp) g1.ch (fun _ z => z.2) hD
      have keepD : ∀ x, H D = some x → Wr (q1 && (q2 && q3)) fp D := fun x hx => by
        refine Classical.byContradiction fun n => ?_
        have := g1.ch.keep D x hx fun w => n ⟨by rw [w.1]; rfl, w.2⟩
        rw [hD] at this; cases this
      refine lc_it wk (fun n H' => ∃ (e2 : Env) (F2 : Hp) (fp2 : Nat → AS) (zs : List Z.D) (acc : List V) (ga : AS), Go T.K (q1 && (q2 && q3)) Γm σ F H fp e.s e2.s F2 H' fp2 (fun a => a = D ∨ ga a) ∧ Sub F1 F2 ∧ H' D = some (.lst acc) ∧ F2 D = none ∧ ¬ ga D ∧ ROL T.K F2 H' zs m acc ga ∧
        ∃ zs' e6, compL (turnD t (oneD rt rl)) (xs.drop n) e2 = .ok zs' e6 ∧ match R.lift (guardL (zs ++ zs').length (.lst (zs ++ zs'))) e6 with
          | .ok dd e7 => ∀ F' H' fp' v f, Go T.K (q1 && (q2 && q3)) Γm σ F H fp e.s e7.s F' H' fp' f → Val T.K (up m) F' H' dd v f → Q v H'
          | .exc x e' => XW T W kp σ F H fp x e'.s
          | .bad => False) ?_ ?_ ?_ ?_
      · obtain ⟨F2, fp2, g2, k2⟩ := g1.weak ok.le1 (fun _ z => z.elim)
        cases e3 : compL (turnD t (oneD rt rl)) xs e' with
        | bad => rw [e3] at z; exact z.elim
        | exc y e'' => rw [e3] at z; exact z.elim
        | ok zs' e6 =>
          rw [e3] at z
          simp only [R.nox_ok, R.bind_ok] at z
          have F2D : F2 D = none := by
            cases ef : F2 D with
            | none => rfl
            | some o => have := g2.st.sub _ _ ef; rw [hD] at this; cases this
          have own2D : ¬ Own fp2 D := fun w => (g2.st.cells w).2 hD
          refine ⟨e', F2, fp2, [], [], emp, ⟨fun hq => g2.same (and_tt hq).1, g2.st.upd_out F2D own2D, fun a z1 z2 => ?_, ⟨g2.ch.sub, fun a x hx hw => ?_, g2.ch.new⟩, fun a z1 => ?_⟩, k2.sub, upd_same, F2D, fun z => z, by simp only [ROL]; exact ⟨trivial, trivial⟩, zs', e6, by rw [List.drop_zero]; exact e3, by rw [List.nil_append]; exact z⟩
          · rcases z1 with rfl | z1
            · exact own2D z2
            · exact z1.elim
          · have : a ≠ D := by rintro rfl; exact hw (keepD x hx)
            rw [upd_ne this]
            exact g2.ch.keep a x hx fun w => hw ⟨by rw [w.1]; rfl, w.2⟩
          · rcases z1 with z1 | rfl | z1
            · exact g2.grow a (.inl z1)
            · exact own0D
            · exact z1.elim
      · rintro i H' _ ⟨e2, F2, fp2, zs, acc, ga, g2, s2, _⟩
        exact s2.trans g2.st.sub
      · rintro i v H2 H3 hlt ⟨e2, F2, fp2, zs, acc, ga, g2, sb, hHD, hFD, ngD, rl0, zs', e6, hcomp, zc⟩ ⟨d2, hd2, y⟩
        obtain ⟨F3, s23, s3H, sH, nw, rv⟩ := y F2 sb g2.st.sub
        have hdrop : xs.drop i = d2 :: xs.drop (i + 1) := by
          rw [List.drop_eq_getElem_cons hlt]
          congr 1
          rw [List.getElem?_eq_getElem hlt] at hd2
          exact Option.some.inj hd2
        rw [hdrop] at hcomp
        simp only [compL] at hcomp
        obtain ⟨e3, zs1, e5, zs2, ha3, hone, hrest, rfl⟩ := comp_turn hcomp
        have own2D : ¬ Own fp2 D := fun w => g2.dis D (.inl rfl) w
        have s3 : St T.K Γm e2.s σ F3 H3 fp2 := ⟨s3H, g2.st.lG, g2.st.le, fun j hj => by
          obtain ⟨d3, v3, ea, eb, r3⟩ := g2.st.at_ j hj
          refine ⟨d3, v3, ea, eb, RO.kept d3 _ v3 _ ⟨s23, fun a ha => ?_, fun a ha hn => ?_⟩ r3⟩
          · have := (g2.st.cells ⟨j, ha⟩).2
            cases eh : H2 a with
            | none => exact absurd eh this
            | some z => exact sH a z eh
          · cases ef : F3 a with
            | none => rfl
            | some z => exact ((g2.st.cells ⟨j, ha⟩).2 (nw a hn (by rw [ef]; simp))).elim, g2.st.dis, g2.st.dead⟩
        have s3w : St T.K Γm e2.s (wipe σ vs) F3 H3 fp2 := s3.congr (fun j hj => ⟨rfl, wipe_get σ vs j fun z => by rw [ok.dead j z] at hj; omega⟩) rfl (wipe_length σ vs)
        have gaC := ROL.cells _ _ _ _ rl0
        have lenA := rol_len rl0
        refine tgt_put (ro := (List.range σ.length).filter (fun j => decide (j ∉ vs))) s3w (Nat.le_refl 1) (RO.of1 (Nat.le_refl 1) rv) (fun _ z => z.elim) ha3 ok.lt (fun j hj z => by
          simp only [List.mem_filter, decide_eq_true_eq] at z
          exact z.2 (ok.sub j hj)) fun σ4 fp4 s4 o4 hro hlen4 => ?_
        have hl4 : σ4.length = σ.length := hlen4.trans (wipe_length σ vs)
        have h4 : ∀ j, j ∉ vs → σ4[j]? = σ[j]? := fun j hj => by
          by_cases hlt2 : j < σ.length
          · rw [hro j (by simp [hlt2, hj]), wipe_get σ vs j hj]
          · rw [List.getElem?_eq_none (by omega), List.getElem?_eq_none (by omega)]
        have o4' : ∀ a, Own fp4 a → Own fp2 a := fun a z => (o4 a z).elim id fun z => z.elim
        have fin : ∀ (Γx : Gm) (zs1 : List Z.D) (e5 : Env) (F5 H5 : Hp) (fp6 : Nat → AS) (us : List V) (f : AS), leG Γm (setG t.is 0 Γx) → Go T.K (q2 && q3) Γx σ4 F3 H3 fp4 e3.s e5.s F5 H5 fp6 f → ROL T.K F5 H5 zs1 m us f →
            compL (turnD t (oneD rt rl)) (xs.drop (i + 1)) (restore t.is e2 e5) = .ok zs2 e6 →
            (match R.lift (guardL (zs ++ (zs1 ++ zs2)).length (.lst (zs ++ (zs1 ++ zs2)))) e6 with
              | .ok dd e7 => ∀ F' H' fp' v f, Go T.K (q1 && (q2 && q3)) Γm σ F H fp e.s e7.s F' H' fp' f → Val T.K (up m) F' H' dd v f → Q v H'
              | .exc x e' => XW T W kp σ F H fp x e'.s
              | .bad => False) → ∃ (e2 : Env) (F2 : Hp) (fp2 : Nat → AS) (ga : AS), Go T.K (q1 && (q2 && q3)) Γm σ F H fp e.s e2.s F2 H5 fp2 (fun a => a = D ∨ ga a) ∧ Sub F1 F2 ∧ H5 D = some (.lst acc) ∧ F2 D = none ∧ ¬ ga D ∧ ROL T.K F2 H5 (zs ++ zs1) m (acc ++ us) ga ∧
            ∃ zs' e6, compL (turnD t (oneD rt rl)) (xs.drop (i + 1)) e2 = .ok zs' e6 ∧ match R.lift (guardL ((zs ++ zs1) ++ zs').length (.lst ((zs ++ zs1) ++ zs'))) e6 with
              | .ok dd e7 => ∀ F' H' fp' v f, Go T.K (q1 && (q2 && q3)) Γm σ F H fp e.s e7.s F' H' fp' f → Val T.K (up m) F' H' dd v f → Q v H'
              | .exc x e' => XW T W kp σ F H fp x e'.s
              | .bad => False := by
          intro Γx zs1 e5 F5 H5 fp6 us f le g rz hrest zc
          have hf := ROL.cells _ _ _ _ rz
          obtain ⟨F6, fp7, g7, k7⟩ := lc_turn g2.st s23 sH nw o4' ha3 h4 hl4 ok.sub ok.dead le ok.lt g hf
          have hcc : ∀ a, (a = D ∨ ga a) → F2 a = none ∧ H2 a ≠ none := by
            rintro a (rfl | z)
            · exact ⟨hFD, by rw [hHD]; simp⟩
            · exact gaC a z
          have gg := Go.trans g2 g7 hcc
          have kp7 := g7.ch.kept (fun _ z => z.2) g2.dis hcc
          have nf : ∀ a, f a → ¬ (a = D ∨ ga a) := fun a z1 z2 => by
            rcases g7.grow a (.inr z1) with z | z
            · exact g2.dis a z2 z
            · exact (hcc a z2).2 z
          refine ⟨restore t.is e2 e5, F6, fp7, fun a => ga a ∨ f a, ?_, sb.trans g7.ch.sub, ?_, kp7.out D (.inl rfl) hFD, ?_, ?_, zs2, e6, hrest, ?_⟩
          · have eq : ((q1 && (q2 && q3)) && (q2 && q3)) = (q1 && (q2 && q3)) := by cases q1 <;> cases q2 <;> cases q3 <;> rfl
            rw [eq] at gg
            refine go_app gg fun a z => ?_
            rcases z with z | z | z
            · exact .inl (.inl z)
            · exact .inl (.inr z)
            · exact .inr z
          · rw [kp7.at_ D (.inl rfl)]; exact hHD
          · rintro (z | z)
            · exact ngD z
            · exact nf D z (.inl rfl)
          · exact ROL.app (ROL.kept _ _ _ _ (kp7.mono fun a z => .inr z) rl0) (ROL.kept _ _ _ _ k7 rz) fun a z1 z2 => nf a z2 (.inr z1)
          · rw [List.append_assoc]; exact zc
        refine ⟨?_, e3, F3, fp4, s4, ?_⟩
        · rw [wipe_setσ h4 hl4]
        · have gst : ∀ {q : Bool}, q = q := rfl
          unfold oneD at hone
          cases hrt : rt e3 with
          | bad => rw [hrt] at hone; cases hone
          | exc y e'' => rw [hrt] at hone; cases hone
          | ok b e4 =>
            rw [hrt] at hone
            simp only [R.bind_ok] at hone
            intro F4 H4 fp5 g34
            cases b with
            | false =>
              rw [if_neg Bool.false_ne_true] at hone ⊢
              injection hone with h1 h2
              subst h1 h2
              obtain ⟨e9, F9, fp9, ga9, w1, w2, w3, w4, w5, w6, w7⟩ := fin Γ2 [] e4 F4 H4 fp5 [] emp ok.le2 g34.left (by simp only [ROL]; exact ⟨trivial, trivial⟩) hrest zc
              rw [List.append_nil] at w6 w7
              rw [List.append_nil] at w6
              exact ⟨e9, F9, fp9, zs, acc, ga9, w1, w2, w3, w4, w5, w6, w7⟩
            | true =>
              rw [if_pos rfl] at hone ⊢
              refine ⟨e4, F4, fp5, g34.st, ?_⟩
              cases hrl : rl e4 with
              | bad => rw [hrl] at hone; cases hone
              | exc y e'' => rw [hrl] at hone; cases hone
              | ok z e5' =>
                rw [hrl] at hone
                simp only [R.bind_ok] at hone
                injection hone with h1 h2
                subst h1 h2
                intro F5 H5 fp6 v f g45 val
                have gg := Go.then_ g34 g45
                have rz : ROL T.K F5 H5 [z] m [v] f := by
                  simp only [ROL]
                  exact ⟨v, [], f, emp, rfl, val.ro ok.own, ⟨rfl, rfl⟩, fun _ _ z => z, by funext a; simp [emp]⟩
                obtain ⟨e9, F9, fp9, ga9, w1, w2, w3, w4, w5, w6, w7⟩ := fin Γ3 [z] e5' F5 H5 fp6 [v] f ok.le3 gg rz hrest zc
                have hlen : (zs ++ [z] ++ zs2).length ≤ LIM := by
                  refine Classical.byContradiction fun n => ?_
                  rw [← List.append_assoc] at zc
                  unfold guardL at zc
                  rw [if_neg n] at zc
                  exact zc
                refine ⟨acc, w3, ?_, e9, F9, fp9, zs ++ [z], acc ++ [v], ga9, w1.updD w4 (.inl rfl) (fun _ z => z) keepD, w2, upd_same, w4, w5, ?_, w7⟩
                · rw [lenA]
                  simp only [List.length_append] at hlen
                  exact Nat.lt_of_le_of_lt (by omega : zs.length ≤ LIM) (by decide)
                · exact ROL.kept _ _ _ _ ⟨Sub.refl _, fun a z => upd_ne (by rintro rfl; exact w5 z), fun _ _ z => z⟩ w6
      · rintro H' ⟨e2, F2, fp2, zs, acc, ga, g2, sb, hHD, hFD, ngD, rl0, zs', e6, hcomp, zc⟩
        rw [List.drop_of_length_le (Nat.le_refl _)] at hcomp
        simp only [compL] at hcomp
        injection hcomp with h1 h2
        subst h1 h2
        rw [List.append_nil] at zc
        by_cases hl : zs.length ≤ LIM
        · rw [guardL_pos hl] at zc
          refine zc F2 H' fp2 (.ref D) _ g2 (Val.of (by omega) ?_)
          unfold RO
          rw [if_neg (by omega)]
          exact ⟨D, acc, ga, rfl, hHD, hFD, ngD, by rw [hdn]; exact rl0, rfl⟩
        · unfold guardL at zc
          rw [if_neg hl] at zc
          exact zc.elim
end
end Z

/-! Z13: zip and enumerate over lists, tuples and texts. -/
namespace Z
open PySem PySem.Spec L2 PyProof.Rows
/-- what is drawn from: a list, a tuple, a text -/
inductive Src | l (a : Addr) | t (a : Addr) | s (z : Str)
namespace Src
def At (K : PySem.W.Frag) (H : Hp) : Src → List V → Prop
  | .l a, xs => SqL K H a xs
  | .t a, xs => SqT K H a xs
  | .s z, xs => xs = z.cps.toList.map fun c => V.str ⟨#[c]⟩
def cell : Src → List Addr
  | .l a => [a]
  | .t a => [a]
  | .s _ => []
def v : Src → V
  | .l a => .ref a
  | .t a => .ref a
  | .s z => .str z
def It : Src → Addr → Nat → Heap → Prop
  | .l a, it, i, h => h.IsListIter it a i
  | .t a, it, i, h => h.IsTupleIter it a i
  | .s z, it, i, h => ∃ t, h.IsStrIter it (strIterType z) z t i
end Src
section
variable {X : Cx} {pins : List (Addr × Obj)} {s : Shared} {σ : L2.St} {H : Hp}
theorem Src.it_at {r : Src} {it : Addr} {i : Nat} {h h' : Heap} (e : r.It it i h) (k : ∀ o, h.get? it = some o → h'.get? it = some o) : r.It it i h' := by
  cases r with
  | l a => exact Heap.IsListIter.at e k
  | t a => exact Heap.IsTupleIter.at e k
  | s z => obtain ⟨t, o, ho, r⟩ := e; exact ⟨t, o, k o ho, r⟩
theorem Src.it_obj {r : Src} {it : Addr} {i : Nat} {h : Heap} (e : r.It it i h) : ∃ o, h.get? it = some o ∧ ∀ v, o.data ≠ .cell v := by
  cases r with
  | l a => obtain ⟨o, ho, _, hd⟩ := e; exact ⟨o, ho, fun v q => by rw [hd] at q; cases q⟩
  | t a => obtain ⟨o, ho, _, hd⟩ := e; exact ⟨o, ho, fun v q => by rw [hd] at q; cases q⟩
  | s z => obtain ⟨t, o, ho, _, hd⟩ := e; exact ⟨o, ho, fun v q => by rw [hd] at q; cases q⟩
theorem Src.inj (I : Inv X pins σ H s) {r : Src} {xs ys : List V} (h : r.At X.K H xs) (h' : r.At X.K H ys) : xs = ys := by
  cases r with
  | l a => exact I.list_inj h h'
  | t a => exact I.tuple_inj h h'
  | s z => exact h.trans h'.symm
theorem draws_mono {P : Program} {w : World} {A : Around} {it : Addr} {fp : List Addr} {n : Nat} {P1 P2 : Nat → Value → Prop} {St1 : Nat → Heap → Prop} (D : Draws P w A it fp n P1 St1) (h : ∀ i v, P1 i v → P2 i v) : Draws P w A it fp n P2 St1 :=
  ⟨D.live, D.frame, fun i s Q E hi st hQ => D.item i s Q E hi st fun x h' tk p => hQ x h' tk (h i x p), D.done⟩
theorem Src.draws (I : Inv X pins σ H s) (hh : X.A.handled = none) {r : Src} {xs : List V} (h : r.At X.K H xs) {it : Addr} {i : Nat} (e : r.It it i s.heap) (ap : ∀ b ∈ r.cell, b ≠ it) :
    ∃ St1, Draws X.prog X.w X.A.in1 it (it :: r.cell) xs.length (fun i u => ∃ x, xs[i]? = some x ∧ RelV x u) St1 ∧ St1 i s.heap ∧ ∀ i h, St1 i h → r.It it i h := by
  have hh1 : X.A.in1.handled = none := hh
  cases r with
  | l a =>
    obtain ⟨its, rv, p, _⟩ := I.list h
    have hl : its.toArray.size = xs.length := by simp [rv.length]
    have D := Draws.list (prog := X.prog) (w := X.w) hh1 it a (ap a (by simp [Src.cell])) its.toArray
    rw [hl] at D
    refine ⟨_, draws_mono D fun j u hu => ?_, ⟨e, p.isList⟩, fun _ _ z => z.1⟩
    have hj : j < xs.length := by
      have := (Array.getElem?_eq_some_iff.mp hu).1
      rw [hl] at this; exact this
    obtain ⟨u', hu', ru⟩ := rv.get (List.getElem?_eq_getElem hj)
    have : its.toArray[j]? = some u' := by simpa using hu'
    rw [this] at hu; cases hu
    exact ⟨_, List.getElem?_eq_getElem hj, ru⟩
  | t a =>
    obtain ⟨its, rv, p, _⟩ := I.tuple h
    have hl : its.toArray.size = xs.length := by simp [rv.length]
    have D := Draws.tuple (prog := X.prog) (w := X.w) hh1 it a (ap a (by simp [Src.cell])) its.toArray
    rw [hl] at D
    refine ⟨_, draws_mono D fun j u hu => ?_, ⟨e, p⟩, fun _ _ z => z.1⟩
    have hj : j < xs.length := by
      have := (Array.getElem?_eq_some_iff.mp hu).1
      rw [hl] at this; exact this
    obtain ⟨u', hu', ru⟩ := rv.get (List.getElem?_eq_getElem hj)
    have : its.toArray[j]? = some u' := by simpa using hu'
    rw [this] at hu; cases hu
    exact ⟨_, List.getElem?_eq_getElem hj, ru⟩
  | s z =>
    obtain ⟨t, e⟩ := e
    have h : xs = z.cps.toList.map fun c => V.str ⟨#[c]⟩ := h
    have hl : z.cps.size = xs.length := by rw [h]; simp
    have D := Draws.text (prog := X.prog) (w := X.w) hh1 it z t
    rw [hl] at D
    refine ⟨_, draws_mono D fun j u hu => ?_, e, fun _ _ z => ⟨t, z⟩⟩
    obtain ⟨c, tu, hc, rfl⟩ := hu
    exact ⟨.str ⟨#[c]⟩, by rw [h]; simpa using hc, _, rfl⟩
/-- pairs of two sources -/
def ItzS (K : PySem.W.Frag) (a b : Src) : L2.It :=
  ⟨fun i H => ∃ (xs ys : List V) (x y : V), a.At K H xs ∧ b.At K H ys ∧ xs[i]? = some x ∧ ys[i]? = some y,
    fun i H v H' => ∃ T x y, v = .ref T ∧ H T = none ∧ H' = upd H T (.tup [x, y]) ∧ (∀ xs, a.At K H xs → xs[i]? = some x) ∧ ∀ ys, b.At K H ys → ys[i]? = some y,
    fun i H => ∃ xs ys : List V, a.At K H xs ∧ b.At K H ys ∧ i = min xs.length ys.length⟩
theorem turn_zipS {P : Program} {w : World} {K : PySem.W.Frag} {elts : List Expr} {kk : Nat} {tpos : Pos} {a b : Src} {z TI TO i1 i2 : Addr} (S : ZipSep2 z TI TO i1 i2 (i1 :: a.cell) (i2 :: b.cell)) (n1 : ∀ c ∈ a.cell, c ≠ i1) (n2 : ∀ c ∈ b.cell, c ≠ i2) :
    Turn P w K (.Tuple elts kk tpos) (ItzS K a b) [z, TI, TO, i1, i2] z (fun i h => IsZip h z TI TO .none ∧ IsTupOf2 h TI (.ref i1) (.ref i2) ∧ (∃ x y, IsTupOf2 h TO x y) ∧ a.It i1 i h ∧ b.It i2 i h) where
  mem := by simp
  obj := fun i h st c hc => by
    obtain ⟨hz, hTI, ⟨x, y, hTO⟩, h1, h2⟩ := st
    have e' : c = z ∨ c = TI ∨ c = TO ∨ c = i1 ∨ c = i2 := by simpa using hc
    rcases e' with q | q | q | q | q
    · rw [q]; exact ⟨_, hz, fun v q => nomatch q⟩
    · rw [q]; exact ⟨_, hTI, fun v q => nomatch q⟩
    · rw [q]; exact ⟨_, hTO, fun v q => nomatch q⟩
    · rw [q]; exact Src.it_obj h1
    · rw [q]; exact Src.it_obj h2
  keep := fun i h h' st k => by
    obtain ⟨hz, hTI, ⟨x, y, hTO⟩, h1, h2⟩ := st
    exact ⟨k z (by simp) _ hz, k TI (by simp) _ hTI, ⟨x, y, k TO (by simp) _ hTO⟩, Src.it_at h1 fun o q => k i1 (by simp) o q, Src.it_at h2 fun o q => k i2 (by simp) o q⟩
  item := by
    intro X hP hw hK hc i pins s σ H E I hf st hg
    subst hP hw hK
    obtain ⟨hz, hTI, ⟨x0, y0, hTO⟩, h1, h2⟩ := st
    obtain ⟨xs, ys, x, y, hqx, hqy, hx, hy⟩ := hg
    obtain ⟨S1, D1, s1, b1⟩ := Src.draws I (I.ok.hd hc) hqx h1 n1
    obtain ⟨S2, D2, s2, b2⟩ := Src.draws I (I.ok.hd hc) hqy h2 n2
    have W := WalksT.zipD2 S D1 D2
    have hi : i < min xs.length ys.length := by
      have e1 := (List.getElem?_eq_some_iff.mp hx).1
      have e2 := (List.getElem?_eq_some_iff.mp hy).1
      omega
    refine W.item i s _ E hi ⟨hz, hTI, ⟨x0, y0, hTO⟩, s1, s2⟩ fun T vals h' tk hP hsz hT mid hk => ⟨_, rfl, ?_⟩
    obtain ⟨u, u2, ⟨x', hx', ru⟩, ⟨y', hy', ru2⟩, rfl⟩ := hP
    rw [hx] at hx'; cases hx'
    rw [hy] at hy'; cases hy'
    have hnT := W.apart i T h' mid
    refine W.go elts kk tpos i T { s with heap := h', toks := tk } _ E mid fun h'' st' hk2 => ?_
    have hT2 : h''.IsTuple T #[u, u2] := by
      obtain ⟨o, ho, r⟩ := hT
      exact ⟨o, hk2 T o hnT ho, r⟩
    have new : ObjOk X.prog X.w (upd H T (.tup [x, y])) h'' T (.tup [x, y]) :=
      ⟨by show 2 ≤ sizeLine; decide, [u, u2], .cons ru (.cons ru2 .nil), hT2⟩
    have hlt : ∀ c ∈ [z, TI, TO, i1, i2], c < s.heap.objs.size := fun c hcm => by
      have e' : c = z ∨ c = TI ∨ c = TO ∨ c = i1 ∨ c = i2 := by simpa using hcm
      rcases e' with q | q | q | q | q
      · rw [q]; exact Heap.lt_size hz
      · rw [q]; exact Heap.lt_size hTI
      · rw [q]; exact Heap.lt_size hTO
      · rw [q]; obtain ⟨_, e1, _⟩ := Src.it_obj h1; exact Heap.lt_size e1
      · rw [q]; obtain ⟨_, e2, _⟩ := Src.it_obj h2; exact Heap.lt_size e2
    have sub4 : ∀ c, c ∈ [z, TO, i1, i2] → c ∈ [z, TI, TO, i1, i2] := fun c hcm => by
      have e' : c = z ∨ c = TO ∨ c = i1 ∨ c = i2 := by simpa using hcm
      rcases e' with q | q | q | q <;> simp [q]
    have I1 : Inv X pins σ (upd H T (.tup [x, y])) { s with heap := h'', toks := tk } :=
      I.turnedNew (t' := tk) (ch := [z, TI, TO, i1, i2]) (fun c o hb q => hk2 c o (fun m => hb (sub4 c m)) (hk c o (fun m => hb (sub4 c m)) q)) hf hsz new
    have HT : H T = none := I.hok.fresh hsz
    refine ⟨.ref T, _, I1, rfl, ⟨T, x, y, rfl, HT, rfl, fun l hl => by rw [Src.inj I hl hqx]; exact hx, fun l hl => by rw [Src.inj I hl hqy]; exact hy⟩, ?_, fun c hcm => ?_⟩
    · obtain ⟨k1, k2, k3, k4, k5⟩ := st'
      exact ⟨k1, k2, k3, b1 _ _ k4, b2 _ _ k5⟩
    · rw [upd_ne (Nat.ne_of_lt (Nat.lt_of_lt_of_le (hlt c hcm) hsz))]
      exact (hf c hcm).1
  done := by
    intro X hP hw hK hc i pins s σ H E I hf st hg
    subst hP hw hK
    obtain ⟨hz, hTI, ⟨x0, y0, hTO⟩, h1, h2⟩ := st
    obtain ⟨xs, ys, hqx, hqy, rfl⟩ := hg
    obtain ⟨S1, D1, s1, b1⟩ := Src.draws I (I.ok.hd hc) hqx h1 n1
    obtain ⟨S2, D2, s2, b2⟩ := Src.draws I (I.ok.hd hc) hqy h2 n2
    have W := WalksT.zipD2 S D1 D2
    have sub4 : ∀ c, c ∈ [z, TO, i1, i2] → c ∈ [z, TI, TO, i1, i2] := fun c hcm => by
      have e' : c = z ∨ c = TO ∨ c = i1 ∨ c = i2 := by simpa using hcm
      rcases e' with q | q | q | q <;> simp [q]
    exact W.done s _ E ⟨hz, hTI, ⟨x0, y0, hTO⟩, s1, s2⟩ fun h' tk hk => ⟨rfl, I.turnedL (t' := tk) (ch := [z, TI, TO, i1, i2]) (fun c o hb q => hk c o (fun m => hb (sub4 c m)) q) hf⟩
  self := fun A i s Q E st h => wpAny_pyIter_zip st.1 h
theorem Src.begins (I : Inv X pins σ H s) {r : Src} {xs : List V} (h : r.At X.K H xs) {u : Value} (ru : RelV r.v u) : ∃ o Hs, Begins u o Hs ∧ Hs s.heap ∧ (∀ b ∈ r.cell, b < s.heap.objs.size) ∧ ∀ h' it, h'.get? it = some o → r.It it 0 h' := by
  cases r with
  | l a =>
    obtain ⟨its, rv, p, _⟩ := I.list h
    cases ru
    exact ⟨_, _, begins_list a its.toArray, p.isList, fun b hb => by rw [List.mem_singleton.mp hb]; exact p.lt, fun h' it e => ⟨_, e, rfl, rfl⟩⟩
  | t a =>
    obtain ⟨its, rv, p, _⟩ := I.tuple h
    cases ru
    exact ⟨_, _, begins_tuple a its.toArray, p, fun b hb => by rw [List.mem_singleton.mp hb]; obtain ⟨o, ho, _⟩ := id p; exact Heap.lt_size ho, fun h' it e => ⟨_, e, rfl, rfl⟩⟩
  | s z =>
    obtain ⟨t, rfl⟩ := ru
    exact ⟨_, (fun _ => True), begins_text z t, trivial, (fun b hb => nomatch hb), fun h' it e => ⟨t, _, e, rfl, rfl⟩⟩
def iZipS (K : PySem.W.Frag) (ta : TA) : TI := fun σ H R => ta σ H fun vs H1 => ∃ (a b : Src) (xs ys : List V), vs = [a.v, b.v] ∧ a.At K H1 xs ∧ b.At K H1 ys ∧ R (ItzS K a b) H1
theorem pi_zipS {e e2 : Expr} {ta : TA} {p pos tpos : Pos} {elts : List Expr} {kk : Nat} (hg : Gl X "zip") (hm : X.mg "zip" = none) (ha : PA X [e, e2] ta)
    (hs : starEach [e, e2] X.env = (false, eval e X.env) :: starEach [e2] X.env) (hpl : (backTo pos (starEach [e2] X.env)).any (·.1) = false) :
    PI X (.Tuple elts kk tpos) (.Call (.Name "zip" p) [e, e2] [] pos) (iZipS X.K ta) := by
  refine ⟨fun pins s σ H R I h => ?_⟩
  refine Call_ (ld_blt I hg hm PyProof.Rows.boot_zip (PyProof.Rows.callWith_type1 (thn (ha.run pos pins s σ H _ I h) fun us s1 ⟨vs, H1, I1, r1, q1⟩ => ?_) hs hpl))
  obtain ⟨a, b, xs, ys, ex, hqx, hqy, q⟩ := q1
  subst ex
  obtain ⟨u1, u2, rfl, ra, rb⟩ := vals2 r1
  obtain ⟨o1, H1s, B1, y1, l1, k1⟩ := Src.begins I1 hqx ra
  obtain ⟨o2, H2s, B2, y2, l2, k2⟩ := Src.begins I1 hqy rb
  refine zip_begins2 B1 B2 y1 y2 fun h' hz hTI hTO h1 h2 hsz hk => wpAny_pyIter_zip hz ?_
  have I2 : Inv X pins σ H1 { s1 with heap := h' } := I1.kept (t' := s1.toks) hk
  refine ⟨s1.heap.objs.size + 4, [s1.heap.objs.size + 4, s1.heap.objs.size + 2, s1.heap.objs.size + 3, s1.heap.objs.size, s1.heap.objs.size + 1], _, _, H1, rfl, I2, turn_zipS (zip_sep2 l1 l2) (fun c hcm e => Nat.lt_irrefl _ (e ▸ l1 c hcm)) (fun c hcm e => Nat.lt_irrefl _ (Nat.lt_of_succ_lt (show (s1.heap.objs.size + 1 : Nat) < s1.heap.objs.size from e ▸ l2 c hcm))), ⟨hz, hTI, ⟨_, _, hTO⟩, k1 h' _ h1, k2 h' _ h2⟩, fun c hcm => ?_, q⟩
  have e' : c = s1.heap.objs.size + 4 ∨ c = s1.heap.objs.size + 2 ∨ c = s1.heap.objs.size + 3 ∨ c = s1.heap.objs.size ∨ c = s1.heap.objs.size + 1 := by simpa using hcm
  have hle : s1.heap.objs.size ≤ c := by
    rcases e' with z | z | z | z | z
    · rw [z]; exact Nat.le_add_right _ _
    · rw [z]; exact Nat.le_add_right _ _
    · rw [z]; exact Nat.le_add_right _ _
    · rw [z]; exact Nat.le_refl _
    · rw [z]; exact Nat.le_add_right _ _
  exact I1.fpOk hle (I1.hok.fresh hle)
/-! ### enumerate -/
theorem meets_enum1 {v : Value} {o : Obj} {Hs : Heap → Prop} (B : Begins v o Hs) :
    Meets (Builtin.«enumerate.__new__» ⟨[.type "enumerate", v], []⟩) (fun _ R s => Hs s.heap ∧
      R (.ok (.ret (.ref (s.heap.push o).objs.size))) { s with heap := (s.heap.push o).push { cls := .type "enumerate", data := .fields #[.none, .bool false, .ref s.heap.objs.size, rawInt 0, .none, .none] } }) :=
  .of_wp fun prog w A R s h => by
    obtain ⟨hp, g, d, tk, os⟩ := s; obtain ⟨h1, h⟩ := h
    have hsub := sub_enumerate
    have q1 : ∀ {A' : Around} {E : Value → Shared → Prop} {Q : Value → Shared → Prop}, Q (.ref hp.objs.size) ⟨hp.push o, g, d, tk, os⟩ → wpAny (model prog w) A' (pyIter v) Q E ⟨hp, g, d, tk, os⟩ :=
      fun q => B.iter prog w _ _ ⟨hp, g, d, tk, os⟩ _ h1 q
    wp_walk using q1
    refine wpAny_stack_any fun st => wpAny_pure ?_
    split
    · rename_i c _ _ _ _ _
      cases (c == Value.type "enumerate")
      · wp_walk using q1
        exact ⟨_, rfl, h⟩
      · wp_walk using q1
        exact ⟨_, rfl, h⟩
    · wp_walk using q1
      exact ⟨_, rfl, h⟩
theorem call_enum1 {prog : Program} {w : World} {A : Around} {E : Value → Shared → Prop} {s : Shared} {v : Value} {o : Obj} {Hs : Heap → Prop} {Q : Value → Shared → Prop} (B : Begins v o Hs) (h1 : Hs s.heap)
    (h : ∀ h', IsEnum h' (s.heap.objs.size + 1) s.heap.objs.size 0 .none → h'.get? s.heap.objs.size = some o → 
      (∀ b o, s.heap.get? b = some o → h'.get? b = some o) → Q (.ref (s.heap.objs.size + 1)) { s with heap := h' }) :
    wpAny (model prog w) A (call (.type "enumerate") [v]) Q E s := by
  refine callType_new F.called_enumerate (by decide) (F.typeCall_enumerate_1 _) (F.newCall_enumerate_1 _) (fun obj => F.args_object_init_2 obj _) F.entry_enumerate_new
    (meets_enum1 B) ⟨h1, ?_⟩
  have hz : (s.heap.push o).objs.size = s.heap.objs.size + 1 := Heap.size_push ..
  show _ ∧ _
  rw [hz]
  have he : IsEnum ((s.heap.push o).push { cls := .type "enumerate", data := .fields #[.none, .bool false, .ref s.heap.objs.size, rawInt 0, .none, .none] }) (s.heap.objs.size + 1) s.heap.objs.size 0 .none := by
    have := Heap.get?_push_size (s.heap.push o) (o := { cls := .type "enumerate", data := .fields #[.none, .bool false, .ref s.heap.objs.size, rawInt 0, .none, .none] }) rfl
    rw [hz] at this; exact this
  exact ⟨⟨_, he, rfl⟩, h _ he (Heap.get?_push_of_some _ (Heap.get?_push_size _ B.free)) fun b o x => Heap.get?_push_of_some _ (Heap.get?_push_of_some _ x)⟩
def IteS (K : PySem.W.Frag) (a : Src) : L2.It :=
  ⟨fun i H => ∃ (xs : List V) (x : V), a.At K H xs ∧ xs[i]? = some x,
    fun i H v H' => ∃ T x, v = .ref T ∧ H T = none ∧ H' = upd H T (.tup [.int (i : Nat), x]) ∧ (∀ xs, a.At K H xs → xs[i]? = some x),
    fun i H => ∃ xs : List V, a.At K H xs ∧ i = xs.length⟩
theorem turn_enumS {P : Program} {w : World} {K : PySem.W.Frag} {elts : List Expr} {kk : Nat} {tpos : Pos} {a : Src} {e it : Addr} (hei : e ≠ it) (hef : e ∉ it :: a.cell) (n1 : ∀ c ∈ a.cell, c ≠ it) :
    Turn P w K (.Tuple elts kk tpos) (IteS K a) [e, it] e (fun i h => (∃ old, IsEnum h e it (0 + (i : Int)) old) ∧ a.It it i h) where
  mem := by simp
  obj := fun i h st c hc => by
    obtain ⟨⟨old, hz⟩, h1⟩ := st
    have e' : c = e ∨ c = it := by simpa using hc
    rcases e' with q | q
    · rw [q]; exact ⟨_, hz, fun v q => nomatch q⟩
    · rw [q]; exact Src.it_obj h1
  keep := fun i h h' st k => by
    obtain ⟨⟨old, hz⟩, h1⟩ := st
    exact ⟨⟨old, k e (by simp) _ hz⟩, Src.it_at h1 fun o q => k it (by simp) o q⟩
  item := by
    intro X hP hw hK hc i pins s σ H E I hf st hg
    subst hP hw hK
    obtain ⟨⟨old, hz⟩, h1⟩ := st
    obtain ⟨xs, x, hqx, hx⟩ := hg
    obtain ⟨S1, D1, s1, b1⟩ := Src.draws I (I.ok.hd hc) hqx h1 n1
    have W := WalksT.enumFrom 0 D1 e hei hef (by simp)
    refine W.item i s _ E (List.getElem?_eq_some_iff.mp hx).1 ⟨⟨old, hz⟩, s1⟩ fun T vals h' tk hP hsz hT mid hk => ⟨_, rfl, ?_⟩
    obtain ⟨tt, u, ⟨x', hx', ru⟩, rfl⟩ := hP
    rw [hx] at hx'; cases hx'
    have hnT := W.apart i T h' mid
    refine W.go elts kk tpos i T { s with heap := h', toks := tk } _ E mid fun h'' st' hk2 => ?_
    have hT2 : h''.IsTuple T #[.int (0 + (i : Int)) tt, u] := by
      obtain ⟨o, ho, r⟩ := hT
      exact ⟨o, hk2 T o hnT ho, r⟩
    have z0 : (0 : Int) + (i : Int) = ((i : Nat) : Int) := by omega
    have new : ObjOk X.prog X.w (upd H T (.tup [.int (i : Nat), x])) h'' T (.tup [.int (i : Nat), x]) :=
      ⟨by show 2 ≤ sizeLine; decide, [.int (0 + (i : Int)) tt, u], .cons ⟨tt, by rw [z0]⟩ (.cons ru .nil), hT2⟩
    have hlt : ∀ c ∈ [e, it], c < s.heap.objs.size := fun c hcm => by
      have e' : c = e ∨ c = it := by simpa using hcm
      rcases e' with q | q
      · rw [q]; exact Heap.lt_size hz
      · rw [q]; obtain ⟨_, e1, _⟩ := Src.it_obj h1; exact Heap.lt_size e1
    have I1 : Inv X pins σ (upd H T (.tup [.int (i : Nat), x])) { s with heap := h'', toks := tk } :=
      I.turnedNew (t' := tk) (ch := [e, it]) (fun c o hb q => hk2 c o hb (hk c o hb q)) hf hsz new
    have HT : H T = none := I.hok.fresh hsz
    refine ⟨.ref T, _, I1, rfl, ⟨T, x, rfl, HT, rfl, fun l hl => by rw [Src.inj I hl hqx]; exact hx⟩, ?_, fun c hcm => ?_⟩
    · obtain ⟨k1, k4⟩ := st'
      exact ⟨k1, b1 _ _ k4⟩
    · rw [upd_ne (Nat.ne_of_lt (Nat.lt_of_lt_of_le (hlt c hcm) hsz))]
      exact (hf c hcm).1
  done := by
    intro X hP hw hK hc i pins s σ H E I hf st hg
    subst hP hw hK
    obtain ⟨⟨old, hz⟩, h1⟩ := st
    obtain ⟨xs, hqx, rfl⟩ := hg
    obtain ⟨S1, D1, s1, b1⟩ := Src.draws I (I.ok.hd hc) hqx h1 n1
    have W := WalksT.enumFrom 0 D1 e hei hef (by simp)
    exact W.done s _ E ⟨⟨old, hz⟩, s1⟩ fun h' tk hk => ⟨rfl, I.turnedL (t' := tk) (ch := [e, it]) (fun c o hb q => hk c o hb q) hf⟩
  self := fun A i s Q E st h => wpAny_pyIter_enum st.1.choose_spec h
def iEnumS (K : PySem.W.Frag) (ta : TA) : TI := fun σ H R => ta σ H fun vs H1 => ∃ (a : Src) (xs : List V), vs = [a.v] ∧ a.At K H1 xs ∧ R (IteS K a) H1
theorem pi_enumS {e : Expr} {ta : TA} {p pos tpos : Pos} {elts : List Expr} {kk : Nat} (hg : Gl X "enumerate") (hm : X.mg "enumerate" = none) (ha : PA X [e] ta) (hs : starEach [e] X.env = [(false, eval e X.env)]) :
    PI X (.Tuple elts kk tpos) (.Call (.Name "enumerate" p) [e] [] pos) (iEnumS X.K ta) := by
  refine ⟨fun pins s σ H R I h => ?_⟩
  refine Call_ (ld_blt I hg hm boot_enumerate (PyProof.Rows.callWith_type1 (thn (ha.run pos pins s σ H _ I h) fun us s1 ⟨vs, H1, I1, r1, q1⟩ => ?_) hs rfl))
  obtain ⟨a, xs, ex, hqx, q⟩ := q1
  subst ex
  obtain ⟨u1, rfl, ra⟩ := vals1 r1
  obtain ⟨o1, H1s, B1, y1, l1, k1⟩ := Src.begins I1 hqx ra
  refine call_enum1 B1 y1 fun h' hz h1 hk => wpAny_pyIter_enum hz ?_
  have I2 : Inv X pins σ H1 { s1 with heap := h' } := I1.kept (t' := s1.toks) hk
  refine ⟨s1.heap.objs.size + 1, [s1.heap.objs.size + 1, s1.heap.objs.size], _, _, H1, rfl, I2, turn_enumS (Nat.succ_ne_self _) (fun m => ?_) (fun c hcm e => Nat.lt_irrefl _ (e ▸ l1 c hcm)), ⟨⟨.none, by rw [show (0 : Int) + ((0 : Nat) : Int) = 0 from rfl]; exact hz⟩, k1 h' _ h1⟩, fun b hb => ?_, q⟩
  · rcases List.mem_cons.mp m with m | m
    · exact Nat.succ_ne_self _ m
    · exact Nat.lt_irrefl _ (Nat.lt_of_succ_lt (show (s1.heap.objs.size + 1 : Nat) < s1.heap.objs.size from l1 _ m))
  · have e' : b = s1.heap.objs.size + 1 ∨ b = s1.heap.objs.size := by simpa using hb
    have hle : s1.heap.objs.size ≤ b := by
      rcases e' with z | z
      · rw [z]; exact Nat.le_add_right _ _
      · rw [z]; exact Nat.le_refl _
    exact I1.fpOk hle (I1.hok.fresh hle)
end
/-! ### what they give -/
section
variable {K : PySem.W.Frag} {F : Hp}
/-- a source that holds the items xs, shared -/
def SrcD (K : PySem.W.Frag) (F : Hp) (a : Src) (xs : List D) : Prop := ∃ vs, RFL K F xs vs ∧ ∀ H, Sub F H → a.At K H vs
theorem zipD_len : ∀ (xs ys : List D), (zipD xs ys).length = min xs.length ys.length
  | [], ys => by cases ys <;> simp [zipD]
  | x :: xs, [] => by simp [zipD]
  | x :: xs, y :: ys => by simp only [zipD, List.length_cons, zipD_len xs ys]; omega
theorem zipD_get : ∀ (xs ys : List D) (i : Nat) (x y : D), xs[i]? = some x → ys[i]? = some y → (zipD xs ys)[i]? = some (.tup [x, y])
  | [], _, _, _, _, h, _ => by simp at h
  | _ :: _, [], _, _, _, _, h => by simp at h
  | x :: xs, y :: ys, 0, _, _, h, h' => by simp at h h'; subst h h'; rfl
  | x :: xs, y :: ys, i + 1, a, b, h, h' => by simp only [zipD, List.getElem?_cons_succ] at h h' ⊢; exact zipD_get xs ys i a b h h'
theorem enumD_len : ∀ (xs : List D) (k : Nat), (enumD k xs).length = xs.length
  | [], _ => rfl
  | x :: xs, k => by simp [enumD, enumD_len xs]
theorem enumD_get : ∀ (xs : List D) (k i : Nat) (x : D), xs[i]? = some x → (enumD k xs)[i]? = some (.tup [.int ((k + i : Nat) : Int), x])
  | [], _, _, _, h => by simp at h
  | x :: xs, k, 0, _, h => by simp at h; subst h; simp [enumD]
  | x :: xs, k, i + 1, a, h => by
    simp only [enumD, List.getElem?_cons_succ] at h ⊢
    rw [enumD_get xs (k + 1) i a h]
    congr 5; omega
theorem pair_new {Fc H : Hp} {T : Addr} {x y : D} {vx vy : V} (s1 : Sub F Fc) (s2 : Sub Fc H) (hT : H T = none) (rx : RF K F x vx) (ry : RF K F y vy) :
    ∃ F2, Sub Fc F2 ∧ Sub F2 (upd H T (.tup [vx, vy])) ∧ Sub H (upd H T (.tup [vx, vy])) ∧ (∀ a, Fc a = none → F2 a ≠ none → H a = none) ∧ RF K F2 (.tup [x, y]) (.ref T) := by
  have fT : Fc T = none := by
    cases e : Fc T with
    | none => rfl
    | some o => have := s2 _ _ e; rw [hT] at this; cases this
  have sF : Sub Fc (upd Fc T (.tup [vx, vy])) := upd_sub fT
  refine ⟨upd Fc T (.tup [vx, vy]), sF, fun a o e => ?_, upd_sub hT, fun a e e' => ?_, ?_⟩
  · by_cases h : a = T
    · subst h; rw [upd_same] at e ⊢; exact e
    · rw [upd_ne h] at e ⊢; exact s2 _ _ e
  · by_cases h : a = T
    · subst h; exact hT
    · rw [upd_ne h] at e'; exact absurd e e'
  · have s3 := s1.trans sF
    simp only [RF]
    refine ⟨T, [vx, vy], rfl, .inl (.inl upd_same), ?_⟩
    simp only [RFL]
    exact ⟨vx, [vy], rfl, RF.sub s3 _ _ rx, vy, [], rfl, RF.sub s3 _ _ ry, rfl⟩
theorem wk_zip {a b : Src} {xs ys : List D} (ha : SrcD K F a xs) (hb : SrcD K F b ys) : Wk K F (ItzS K a b) (zipD xs ys) := by
  obtain ⟨vs, ra, qa⟩ := ha
  obtain ⟨us, rb, qb⟩ := hb
  have h1 := rfl_len ra
  have h2 := rfl_len rb
  unfold Wk
  rw [zipD_len]
  refine ⟨fun i H hi s => ?_, fun H s => ⟨vs, us, qa H s, qb H s, by omega⟩, fun i H v H' hi s y => ?_⟩
  · exact ⟨vs, us, vs[i]'(by omega), us[i]'(by omega), qa H s, qb H s, List.getElem?_eq_getElem _, List.getElem?_eq_getElem _⟩
  · obtain ⟨T, vx, vy, rfl, hT, rfl, g1, g2⟩ := y
    have e1 := g1 vs (qa H s)
    have e2 := g2 us (qb H s)
    obtain ⟨x', ex, rx⟩ := rfl_get ra (List.getElem?_eq_getElem (by omega : i < xs.length))
    obtain ⟨y', ey, ry⟩ := rfl_get rb (List.getElem?_eq_getElem (by omega : i < ys.length))
    rw [e1] at ex; cases ex
    rw [e2] at ey; cases ey
    exact ⟨_, zipD_get xs ys i _ _ (List.getElem?_eq_getElem _) (List.getElem?_eq_getElem _), fun Fc s1 s2 => pair_new s1 s2 hT rx ry⟩
theorem wk_enum {a : Src} {xs : List D} (ha : SrcD K F a xs) : Wk K F (IteS K a) (enumD 0 xs) := by
  obtain ⟨vs, ra, qa⟩ := ha
  have h1 := rfl_len ra
  unfold Wk
  rw [enumD_len]
  refine ⟨fun i H hi s => ⟨vs, vs[i]'(by omega), qa H s, List.getElem?_eq_getElem _⟩, fun H s => ⟨vs, qa H s, by omega⟩, fun i H v H' hi s y => ?_⟩
  obtain ⟨T, vx, rfl, hT, rfl, g1⟩ := y
  have e1 := g1 vs (qa H s)
  obtain ⟨x', ex, rx⟩ := rfl_get ra (List.getElem?_eq_getElem (by omega : i < xs.length))
  rw [e1] at ex; cases ex
  have := enumD_get xs 0 i _ (List.getElem?_eq_getElem (by omega : i < xs.length))
  rw [Nat.zero_add] at this
  exact ⟨_, this, fun Fc s1 s2 => pair_new s1 s2 hT mk_int rx⟩
theorem rfl_chars {K : PySem.W.Frag} {F : Hp} : ∀ (s : Txt), RFL K F (s.map fun c => D.str [c]) (s.map fun c => V.str ⟨#[c]⟩)
  | [] => by simp [RFL]
  | c :: s => by
    simp only [List.map_cons, RFL]
    exact ⟨_, _, rfl, by rw [← txt_one]; exact mk_str, rfl_chars s⟩
/-- a shared value that can be drawn from -/
theorem src_of {d : D} {v : V} {xs : List D} (h : RF K F d v) (hi : items d = some xs) (hn : ∀ ys, d ≠ .itr ys) : ∃ a : Src, v = a.v ∧ SrcD K F a xs := by
  cases d <;> simp only [items, reduceCtorEq, Option.some.injEq] at hi
  · split at hi <;> simp only [reduceCtorEq, Option.some.injEq] at hi
    subst hi
    obtain rfl := rf_str h
    refine ⟨.s _, rfl, _, rfl_chars _, fun H s => ?_⟩
    show _ = _
    rw [txt_list]
  · subst hi
    simp only [RF] at h
    obtain ⟨a, vs, rfl, q, r⟩ := h
    exact ⟨.t a, rfl, vs, r, fun H s => SqT.sub s q⟩
  · subst hi
    simp only [RF] at h
    obtain ⟨a, vs, rfl, q, r⟩ := h
    exact ⟨.l a, rfl, vs, r, fun H s => .inl (Rd.sub s q)⟩
  · rename_i ys; exact absurd rfl (hn ys)
end
end Z

/-! Z14: more expressions: comprehensions, pairs, sequences, built-ins. -/
namespace Z
open PySem PySem.Spec L2 PyProof.Rows
section
variable {X : Cx} {T : Tb} {W : WX} {kp : List Nat}
/-! ### zip, enumerate -/
theorem si_zp {ra rb : Env → R D} {a b : Expr} {p pos tpos : Pos} {elts : List Expr} {kk : Nat} {q1 q2 : Bool} {Γ Γ1 Γ2 : Gm} {m n : Nat} (hK : X.K = T.K) (hg : Gl X "zip") (hm : X.mg "zip" = none) (ha : SE X T W kp q1 ra a Γ m Γ1) (hb : SE X T W kp q2 rb b Γ1 n Γ2) (h1 : own m = true) (h1' : own n = true) (h2 : ns a = true) (h3 : ns b = true) :
    SI X T W kp (q1 && q2) (fun e => (ra e).bind fun x e1 => (rb e1).bind fun y e2 => R.lift ((items x).bind fun xs => (items y).map fun ys => .itr (zipD xs ys)) e2) (.Tuple elts kk tpos) (.Call (.Name "zip" p) [a, b] [] pos) Γ Γ2 := by
  have ha' := se_weak ha (leG.refl _) (m2 := 1) (.inr ⟨Nat.le_refl 1, own_pos h1⟩)
  have hb' := se_weak hb (leG.refl _) (m2 := 1) (.inr ⟨Nat.le_refl 1, own_pos h1'⟩)
  have hst : starEach [a, b] X.env = (false, eval a X.env) :: starEach [b] X.env := star_cons h2
  have hpl : (backTo pos (starEach [b] X.env)).any (·.1) = false := star_any (by simp [h3])
  refine PI.mono (pi_zipS hg hm (pa_cons ha' (pa_cons hb' pa_nil (star_cons h3)) (star_cons h2)) hst hpl) fun σ H RR z => ?_
  show tOp (fun v u H1 _ => ∃ (a b : Src) (xs ys : List V), [v, u] = [a.v, b.v] ∧ a.At X.K H1 xs ∧ b.At X.K H1 ys ∧ RR (ItzS X.K a b) H1) (rdE T W kp q1 ra Γ 1 Γ1) (rdE T W kp q2 rb Γ1 1 Γ2) σ H (fun _ _ => True)
  rw [hK]
  obtain ⟨e, F, fp, s, z⟩ := z
  refine ⟨e, F, fp, s, ?_⟩
  dsimp only at z
  cases e1 : ra e with
  | bad => rw [e1] at z; exact z
  | exc y e' => rw [e1] at z; exact z
  | ok d e' =>
    rw [e1] at z
    simp only [R.bind_ok] at z
    intro F1 H1 fp1 v f g val
    refine ⟨e', F1, fp1, g.st, ?_⟩
    cases e2 : rb e' with
    | bad => rw [e2] at z; exact z
    | exc y e'' => rw [e2] at z; exact XW.back z g
    | ok d2 e'' =>
      rw [e2] at z
      simp only [R.bind_ok] at z
      intro F2 H2 fp2 u f2 g2 val2
      cases i1 : items d with
      | none => rw [i1] at z; exact z.elim
      | some xs =>
        cases i2 : items d2 with
        | none => rw [i1, i2] at z; exact z.elim
        | some ys =>
          rw [i1, i2] at z
          simp only [Option.bind_some, Option.map_some, R.lift_some, items] at z
          have val' := val.stay g2.ch g.dis (.inl rfl) (.inl (by decide))
          have r1 : RF T.K F2 d v := by unfold Val at val'; rw [if_neg (by decide)] at val'; exact (RO.to1 (Nat.le_refl 1) val').1
          have r2 : RF T.K F2 d2 u := by unfold Val at val2; rw [if_neg (by decide)] at val2; exact (RO.to1 (Nat.le_refl 1) val2).1
          obtain ⟨sa, rfl, wa⟩ := src_of r1 i1 (fun ys e => by subst e; simp only [RF] at r1)
          obtain ⟨sb, rfl, wb⟩ := src_of r2 i2 (fun ys e => by subst e; simp only [RF] at r2)
          have gg := go_app (g := emp) (Go.trans g g2 val.cells) fun _ z => z.elim
          obtain ⟨va, _, qa⟩ := id wa
          obtain ⟨vb, _, qb⟩ := id wb
          exact ⟨sa, sb, va, vb, rfl, qa _ gg.st.sub, qb _ gg.st.sub, z F2 H2 fp2 _ gg (wk_zip wa wb)⟩
theorem si_en {ra : Env → R D} {a : Expr} {p pos tpos : Pos} {elts : List Expr} {kk : Nat} {q : Bool} {Γ Γ1 : Gm} {m : Nat} (hK : X.K = T.K) (hg : Gl X "enumerate") (hm : X.mg "enumerate" = none) (ha : SE X T W kp q ra a Γ m Γ1) (h1 : own m = true) (h2 : ns a = true) :
    SI X T W kp q (fun e => (ra e).bind fun x e1 => R.lift ((items x).map fun xs => .itr (enumD 0 xs)) e1) (.Tuple elts kk tpos) (.Call (.Name "enumerate" p) [a] [] pos) Γ Γ1 := by
  have ha' := se_weak ha (leG.refl _) (m2 := 1) (.inr ⟨Nat.le_refl 1, own_pos h1⟩)
  refine PI.mono (pi_enumS hg hm (pa_cons ha' pa_nil (star_cons h2)) (star_cons h2)) fun σ H RR z => ?_
  rw [hK]
  obtain ⟨e, F, fp, s, z⟩ := z
  refine ⟨e, F, fp, s, ?_⟩
  dsimp only at z
  cases e1 : ra e with
  | bad => rw [e1] at z; exact z
  | exc y e' => rw [e1] at z; exact z
  | ok d e' =>
    rw [e1] at z
    simp only [R.bind_ok] at z
    intro F1 H1 fp1 v f g val
    cases i1 : items d with
    | none => rw [i1] at z; exact z.elim
    | some xs =>
      rw [i1] at z
      simp only [Option.map_some, R.lift_some, items] at z
      have r1 : RF T.K F1 d v := by unfold Val at val; rw [if_neg (by decide)] at val; exact (RO.to1 (Nat.le_refl 1) val).1
      obtain ⟨sa, rfl, wa⟩ := src_of r1 i1 (fun ys e => by subst e; simp only [RF] at r1)
      obtain ⟨va, _, qa⟩ := id wa
      exact ⟨sa, va, rfl, qa _ g.st.sub, z F1 H1 fp1 _ (go_app g fun _ z => z.elim) (wk_enum wa)⟩
/-! ### comprehensions -/
theorem se_lc {ri : Env → R D} {rt : Env → R Bool} {rl : Env → R D} {elt tg iter : Expr} {ifs : List Expr} {scope : Scope} {own_ : List (Str × Nat)} {pos : Pos} {t : Z.T} {q1 q2 q3 : Bool} {Γ Γ1 Γm Γ2 Γ3 : Gm} {m : Nat}
    (hc : X.calm = true) (hN : X.N.Nodup) (ok : BlkOk X.N X.env.scope scope own_) (lo : LcOk t (own_.map (·.2)) Γ1 Γm Γ2 Γ3 m) (hi : SI X T W kp q1 ri tg iter Γ Γ1)
    (hg : ∀ (s : Shared) (H : Hp) (C : Addr) (cl : List (Str × Addr)) (fp : List Addr), PG (X.blk s H scope (compEnvC scope cl C X.env) fp) tg (gT T.K t))
    (ht : ∀ (s : Shared) (H : Hp) (C : Addr) (cl : List (Str × Addr)) (fp : List Addr), STs (X.blk s H scope (compEnvC scope cl C X.env) fp) T W0 [] q2 rt ifs (tgtG t 1 Γm) Γ2)
    (he : ∀ (s : Shared) (H : Hp) (C : Addr) (cl : List (Str × Addr)) (fp : List Addr), SE (X.blk s H scope (compEnvC scope cl C X.env) fp) T W0 [] q3 rl elt Γ2 m Γ3) (hs : nset iter = true) :
    SE X T W kp (q1 && (q2 && q3)) (fun e => (ri e).bind fun x e1 => match items x with
      | none => .bad
      | some xs => (compL (turnD t (oneD rt rl)) xs e1).nox.bind fun zs e6 => R.lift (guardL zs.length (.lst zs)) e6) (.ListComp elt [⟨tg, iter, ifs, 0⟩] scope pos) Γ (up m) Γm :=
  PE.mono (pe_lc hc hN hi ok hg ht he (set_ok hs)) fun _ _ _ z => rd_lc lo z
theorem ss_setLc {ri : Env → R D} {rt : Env → R Bool} {rl : Env → R D} {elt tg iter : Expr} {ifs : List Expr} {scope : Scope} {own_ : List (Str × Nat)} {pos py spos : Pos} {y : Str} {i : Nat} {t : Z.T} {q1 q2 q3 : Bool} {Γ Γ1 Γm Γ2 Γ3 : Gm} {m : Nat} {Rt : RT}
    (hc : X.calm = true) (hN : X.N.Nodup) (hy : X.N[i]? = some y) (hyl : X.env.scope.names.lookup y = some .local)
    (hsw : swapsWith (.ListComp elt [⟨tg, iter, ifs, 0⟩] scope pos) (some (.Name y py)) spos.line X.env = pure true) (ok : BlkOk X.N X.env.scope scope own_) (lo : LcOk t (own_.map (·.2)) Γ1 Γm Γ2 Γ3 m) (hi : SI X T W kp q1 ri tg iter Γ Γ1)
    (hg : ∀ (s : Shared) (H : Hp) (C : Addr) (cl : List (Str × Addr)) (fp : List Addr), PG (X.blk s H scope (compEnvC scope cl C X.env) fp) tg (gT T.K t))
    (ht : ∀ (s : Shared) (H : Hp) (C : Addr) (cl : List (Str × Addr)) (fp : List Addr), STs (X.blk s H scope (compEnvC scope cl C X.env) fp) T W0 [] q2 rt ifs (tgtG t 1 Γm) Γ2)
    (he : ∀ (s : Shared) (H : Hp) (C : Addr) (cl : List (Str × Addr)) (fp : List Addr), SE (X.blk s H scope (compEnvC scope cl C X.env) fp) T W0 [] q3 rl elt Γ2 m Γ3) (hs : nset iter = true) (hi' : i < Γm.length) (hr : i ∉ Rt.ro) :
    SS X T W kp Rt (fun e => R.st ((ri e).bind fun x e1 => match items x with
      | none => .bad
      | some xs => (compL (turnD t (oneD rt rl)) xs e1).nox.bind fun zs e6 => R.lift (guardL zs.length (.lst zs)) e6) fun x e1 => match asgT (.n i) x e1 with | some e2 => .nx e2 | none => .bad) (.Assign [.Name y py] (.ListComp elt [⟨tg, iter, ifs, 0⟩] scope pos) spos) Γ ⟨some (tgtG (.n i) (up m) Γm), none, none⟩ := by
  have hup : 1 ≤ up m := by have := own_pos lo.own; unfold up; split <;> omega
  have h := PS.mono (ps_setLc hc hN hy hyl hsw hi ok hg ht he (set_ok hs)) (t' := tAsg (rdE T W kp (q1 && (q2 && q3)) (fun e => (ri e).bind fun x e1 => match items x with
      | none => .bad
      | some xs => (compL (turnD t (oneD rt rl)) xs e1).nox.bind fun zs e6 => R.lift (guardL zs.length (.lst zs)) e6) Γ (up m) Γm) (gT T.K (.n i))) fun DD σ H z => rd_lc lo z
  exact ss_asgT h hup (fun j hj => by simp [Z.T.is] at hj; subst hj; exact hi') (fun j hj => by simp [Z.T.is] at hj; subst hj; exact hr)
end
end Z

/-! Z14a: comprehensions with two clauses. -/
namespace Z
open PySem PySem.Spec L2 PyProof.Rows
section
variable {T : Tb} {W : WX} {kp : List Nat}
/-- a loop within a loop -/
theorem in_it {J : L2.It} {n : Nat} {G : Hp → Prop} {Y : Nat → Hp → V → Hp → Prop} (w : Walk J n G Y) {Step : (Hp → Prop) → V → Hp → Prop} {Qd : Hp → Prop} {H0 : Hp} (Pv : Nat → Hp → Prop) (h0 : Pv 0 H0) (hG : ∀ i H, i ≤ n → Pv i H → G H)
    (hs : ∀ i x H H', i < n → Pv i H → Y i H x H' → Step (Pv (i + 1)) x H') (hd : ∀ H, Pv n H → Qd H) :
    ∃ W : Nat → Nat → Hp → Prop, (∃ m, W 0 m H0) ∧ ∀ i m H, W i m H → (J.stop i H ∧ Qd H) ∨ (J.go i H ∧ ∃ Nx : Hp → Prop, (∀ H', Nx H' → ∃ m', m' < m ∧ W (i + 1) m' H') ∧ ∀ x H', J.yld i H x H' → Step Nx x H') := by
  refine ⟨fun i m H => m = n - i ∧ i ≤ n ∧ Pv i H, ⟨n, by simp, Nat.zero_le _, h0⟩, ?_⟩
  rintro i m H ⟨rfl, hi, p⟩
  have q := hG i H hi p
  rcases Nat.lt_or_ge i n with hlt | hge
  · exact .inr ⟨w.goes i H hlt q, Pv (i + 1), fun H' p' => ⟨n - (i + 1), by omega, rfl, hlt, p'⟩, fun x H' y => hs i x H H' hlt p (w.yields i H x H' hlt q y)⟩
  · obtain rfl : i = n := by omega
    exact .inl ⟨w.stops H q, hd H p⟩
/-- what nobody holds stays out -/
theorem Go.outD {K : PySem.W.Frag} {q : Bool} {Γ : Gm} {σ : L2.St} {F H F' H' : Hp} {fp fp' : Nat → AS} {e e' : List D} {f : AS} {p : Addr} {o : HO} (g : Go K q Γ σ F H fp e e' F' H' fp' f) (h1 : F p = none) (h2 : H p = some o) (h3 : ¬ Own fp p) : F' p = none ∧ ¬ Own fp' p ∧ ¬ f p ∧ H' p = some o := by
  have hn : ¬ (Own fp p ∨ H p = none) := fun z => z.elim h3 fun z => by rw [h2] at z; cases z
  refine ⟨?_, fun z => hn (g.grow p (.inl z)), fun z => hn (g.grow p (.inr z)), g.ch.keep p o h2 fun z => h3 z.2⟩
  cases e : F' p with
  | none => rfl
  | some x => exact (hn (g.ch.new p h1 (by rw [e]; simp))).elim
/-- .. whatever it holds -/
theorem Go.frame {K : PySem.W.Frag} {q : Bool} {Γ : Gm} {σ : L2.St} {F H F' H' : Hp} {fp fp' : Nat → AS} {e e' : List D} {f : AS} {p : Addr} {o : HO} (g : Go K q Γ σ F H fp e e' F' H' fp' f) (o2 : HO) (h1 : F p = none) (h2 : H p = some o) (h3 : ¬ Own fp p) : Go K q Γ σ F (upd H p o2) fp e e' F' (upd H' p o2) fp' f := by
  obtain ⟨k1, k2, k3, k4⟩ := g.outD h1 h2 h3
  refine ⟨g.same, g.st.upd_out k1 k2, g.dis, ⟨g.ch.sub, fun a x hx hw => ?_, fun a z1 z2 => ?_⟩, fun a z => ?_⟩
  · by_cases ha : a = p
    · subst ha; rw [upd_same] at hx ⊢; exact hx
    · rw [upd_ne ha] at hx ⊢; exact g.ch.keep a x hx hw
  · have ha : a ≠ p := by rintro rfl; exact z2 k1
    rw [upd_ne ha]; exact g.ch.new a z1 z2
  · have ha : a ≠ p := by rintro rfl; exact z.elim k2 k3
    rw [upd_ne ha]; exact g.grow a z
theorem upd_upd {H : Hp} {p : Addr} {o o2 : HO} : upd (upd H p o) p o2 = upd H p o2 := by
  funext a
  by_cases h : a = p
  · subst h; rw [upd_same, upd_same]
  · rw [upd_ne h, upd_ne h, upd_ne h]
theorem upd_self {H : Hp} {p : Addr} {o : HO} (h : H p = some o) : upd H p o = H := by
  funext a
  by_cases ha : a = p
  · subst ha; rw [upd_same, h]
  · rw [upd_ne ha]
/-- the inner clause -/
theorem rd_in {ri1 : Env → R D} {rt1 : Env → R Bool} {rl : Env → R D} {t1 : Z.T} {q0 qi q2 q3 : Bool} {Γ2 Γ3 Γm1 Γ4 Γ5 : Gm} {m : Nat} {σ4 : L2.St} {F3 H3 F4 H4 : Hp} {fp4 fp5 : Nat → AS} {e3 e4 e5 : Env} {D : Addr} {acc : List V} {zs1 : List Z.D} {Nx : Hp → Prop}
    (ok : LcOk t1 t1.is Γ3 Γm1 Γ4 Γ5 m) (H3D : H3 D = some (.lst acc)) (F3D : F3 D = none) (o4D : ¬ Own fp4 D) (g34 : Go T.K q0 Γ2 σ4 F3 H3 fp4 e3.s e4.s F4 H4 fp5 emp)
    (hin : ((ri1 e4).bind fun x2 e5 => match items x2 with
      | none => .bad
      | some xs2 => compL (turnD t1 (oneD rt1 rl)) xs2 e5) = .ok zs1 e5) (hlim : acc.length + zs1.length ≤ LIM)
    (hd : ∀ F9 A fp9 us f, Go T.K (q0 && (qi && (q2 && q3))) Γm1 σ4 F3 H3 fp4 e3.s e5.s F9 (upd A D (.lst acc)) fp9 f → A D = some (.lst (acc ++ us)) → ROL T.K F9 A zs1 m us f → Nx A) :
    rdI T W0 [] qi ri1 Γ2 Γ3 σ4 H4 fun J1 H5 => ∃ W1 : Nat → Nat → Hp → Prop, (∃ m, W1 0 m H5) ∧ ∀ j k H, W1 j k H →
      (J1.stop j H ∧ Nx H) ∨ (J1.go j H ∧ ∃ Nx1 : Hp → Prop, (∀ H', Nx1 H' → ∃ k', k' < k ∧ W1 (j + 1) k' H') ∧ ∀ x H', J1.yld j H x H' → gT T.K t1 x (wipe σ4 t1.is) H' fun σ3 H5 => wipe σ3 t1.is = wipe σ4 t1.is ∧ rdB T W0 [] q2 rt1 (tgtG t1 1 Γm1) Γ4 σ3 H5 fun b H6 =>
        if b = true then rdE T W0 [] q3 rl Γ4 m Γ5 σ3 H6 fun y H7 => ∃ acc, H7 D = some (.lst acc) ∧ acc.length < sizeLine ∧ Nx1 (upd H7 D (.lst (acc ++ [y]))) else Nx1 H6) := by
  refine ⟨e4, F4, fp5, g34.st, ?_⟩
  cases e1 : ri1 e4 with
  | bad => rw [e1] at hin; cases hin
  | exc y e' => rw [e1] at hin; cases hin
  | ok d e' =>
    rw [e1] at hin
    simp only [R.bind_ok] at hin ⊢
    cases e2 : items d with
    | none => rw [e2] at hin; cases hin
    | some xs =>
      rw [e2] at hin
      dsimp only at hin ⊢
      intro F6 H6 fp6 J g46 wk
      have g36 := Go.then_ g34 g46
      obtain ⟨Fw, fpw, gw, kw⟩ := g36.weak ok.le1 (fun _ z => z.elim)
      have Q0 : (q0 && (qi && (q2 && q3))) = ((q0 && qi) && (q2 && q3)) := by cases q0 <;> rfl
      refine in_it (Step := fun Nx1 x H' => gT T.K t1 x (wipe σ4 t1.is) H' fun σ3 H5 => wipe σ3 t1.is = wipe σ4 t1.is ∧ rdB T W0 [] q2 rt1 (tgtG t1 1 Γm1) Γ4 σ3 H5 fun b H6 =>
        if b = true then rdE T W0 [] q3 rl Γ4 m Γ5 σ3 H6 fun y H7 => ∃ acc, H7 D = some (.lst acc) ∧ acc.length < sizeLine ∧ Nx1 (upd H7 D (.lst (acc ++ [y]))) else Nx1 H6) wk
        (fun n A => ∃ (e2 : Env) (F2 : Hp) (fp2 : Nat → AS) (zs : List Z.D) (us : List V) (f : AS), Go T.K (q0 && (qi && (q2 && q3))) Γm1 σ4 F3 H3 fp4 e3.s e2.s F2 (upd A D (.lst acc)) fp2 f ∧ Sub F6 F2 ∧ A D = some (.lst (acc ++ us)) ∧ ROL T.K F2 A zs m us f ∧
          ∃ zs', compL (turnD t1 (oneD rt1 rl)) (xs.drop n) e2 = .ok zs' e5 ∧ zs1 = zs ++ zs') ?_ ?_ ?_ ?_
      · have h6 := (gw.outD F3D H3D o4D).2.2.2
        refine ⟨e', Fw, fpw, [], [], emp, ?_, kw.sub, by rw [List.append_nil]; exact h6, by simp only [ROL]; exact ⟨trivial, trivial⟩, zs1, by rw [List.drop_zero]; exact hin, rfl⟩
        rw [upd_self h6, Q0]
        exact gw.left
      · rintro i A _ ⟨e2, F2, fp2, zs, us, f, g2, s2, hA, _⟩
        have o2 := g2.outD F3D H3D o4D
        have st2 := g2.st.upd_out (o := .lst (acc ++ us)) o2.1 o2.2.1
        rw [upd_upd, upd_self hA] at st2
        exact s2.trans st2.sub
      · rintro i v A H3' hlt ⟨e2, F2, fp2, zs, us, f, g2, sb, hAD, rl0, zs', hcomp, hz⟩ ⟨d2, hd2, y⟩
        have o2 := g2.outD F3D H3D o4D
        obtain ⟨FD, oD, fD, _⟩ := o2
        have stA := g2.st.upd_out (o := .lst (acc ++ us)) FD oD
        rw [upd_upd, upd_self hAD] at stA
        obtain ⟨F3', s23, s3H, sH, nw, rv⟩ := y F2 sb stA.sub
        have hdrop : xs.drop i = d2 :: xs.drop (i + 1) := by
          rw [List.drop_eq_getElem_cons hlt]
          congr 1
          rw [List.getElem?_eq_getElem hlt] at hd2
          exact Option.some.inj hd2
        rw [hdrop] at hcomp
        simp only [compL] at hcomp
        obtain ⟨e3', zn, e5', zs2, ha3, hone, hrest, rfl⟩ := comp_turn hcomp
        have s3 : St T.K Γm1 e2.s σ4 F3' H3' fp2 := ⟨s3H, stA.lG, stA.le, fun j hj => by
          obtain ⟨d3, v3, ea, eb, r3⟩ := stA.at_ j hj
          refine ⟨d3, v3, ea, eb, RO.kept d3 _ v3 _ ⟨s23, fun a ha => ?_, fun a ha hn => ?_⟩ r3⟩
          · have := (stA.cells ⟨j, ha⟩).2
            cases eh : A a with
            | none => exact absurd eh this
            | some z => exact sH a z eh
          · cases ef : F3' a with
            | none => rfl
            | some z => exact ((stA.cells ⟨j, ha⟩).2 (nw a hn (by rw [ef]; simp))).elim, stA.dis, stA.dead⟩
        have s3w : St T.K Γm1 e2.s (wipe σ4 t1.is) F3' H3' fp2 := s3.congr (fun j hj => ⟨rfl, wipe_get σ4 t1.is j fun z => by rw [ok.dead j z] at hj; omega⟩) rfl (wipe_length σ4 t1.is)
        have fC : ∀ a, f a → F2 a = none ∧ A a ≠ none := ROL.cells _ _ _ _ rl0
        have lenA := rol_len rl0
        refine tgt_put (ro := (List.range σ4.length).filter (fun j => decide (j ∉ t1.is))) s3w (Nat.le_refl 1) (RO.of1 (Nat.le_refl 1) rv) (fun _ z => z.elim) ha3 ok.lt (fun j hj z => by
          simp only [List.mem_filter, decide_eq_true_eq] at z
          exact z.2 hj) fun σ5 fp5' s5 o5 hro hlen5 => ?_
        have hl5 : σ5.length = σ4.length := hlen5.trans (wipe_length σ4 t1.is)
        have h5 : ∀ j, j ∉ t1.is → σ5[j]? = σ4[j]? := fun j hj => by
          by_cases hlt2 : j < σ4.length
          · rw [hro j (by simp [hlt2, hj]), wipe_get σ4 t1.is j hj]
          · rw [List.getElem?_eq_none (by omega), List.getElem?_eq_none (by omega)]
        have o5' : ∀ a, Own fp5' a → Own fp2 a := fun a z => (o5 a z).elim id fun z => z.elim
        have fin : ∀ (Γx : Gm) (zn : List Z.D) (e5' : Env) (F5 H5 : Hp) (fp7 : Nat → AS) (vn : List V) (fn : AS), leG Γm1 (setG t1.is 0 Γx) → Go T.K (q2 && q3) Γx σ5 F3' H3' fp5' e3'.s e5'.s F5 H5 fp7 fn → ROL T.K F5 H5 zn m vn fn →
            ∃ (F9 : Hp) (fp9 : Nat → AS), Go T.K (q0 && (qi && (q2 && q3))) Γm1 σ4 F3 H3 fp4 e3.s (restore t1.is e2 e5').s F9 (upd H5 D (.lst acc)) fp9 (fun a => f a ∨ fn a) ∧ Sub F6 F9 ∧ H5 D = some (.lst (acc ++ us)) ∧ ¬ (f D ∨ fn D) ∧ ROL T.K F9 H5 (zs ++ zn) m (us ++ vn) (fun a => f a ∨ fn a) := by
          intro Γx zn e5' F5 H5 fp7 vn fn le g rz
          have hf := ROL.cells _ _ _ _ rz
          obtain ⟨F9, fp9, g9, k9⟩ := lc_turn stA s23 sH nw o5' ha3 h5 hl5 ok.sub ok.dead le ok.lt g hf
          obtain ⟨x1, x2, x3, x4⟩ := g9.outD FD hAD oD
          have gf := g9.frame (.lst acc) FD hAD oD
          have hcc : ∀ a, f a → F2 a = none ∧ upd A D (.lst acc) a ≠ none := fun a z => by
            have ha : a ≠ D := by rintro rfl; exact fD z
            rw [upd_ne ha]; exact fC a z
          have gg := Go.trans g2 gf hcc
          have disf : Dis f (Own fp2) := g2.dis
          have kp9 := g9.ch.kept (fun _ z => z.2) disf fC
          have nf : ∀ a, fn a → ¬ f a := fun a z1 z2 => by
            rcases g9.grow a (.inr z1) with z | z
            · exact disf a z2 z
            · exact (fC a z2).2 z
          have eq : ((q0 && (qi && (q2 && q3))) && (q2 && q3)) = (q0 && (qi && (q2 && q3))) := by cases q0 <;> cases qi <;> cases q2 <;> cases q3 <;> rfl
          rw [eq] at gg
          exact ⟨F9, fp9, gg, sb.trans g9.ch.sub, x4, fun z => z.elim fD x3, ROL.app (ROL.kept _ _ _ _ kp9 rl0) (ROL.kept _ _ _ _ k9 rz) fun a z1 z2 => nf a z2 z1⟩
        refine ⟨wipe_setσ h5 hl5, e3', F3', fp5', s5, ?_⟩
        unfold oneD at hone
        cases hrt : rt1 e3' with
        | bad => rw [hrt] at hone; cases hone
        | exc y e'' => rw [hrt] at hone; cases hone
        | ok b e4' =>
          rw [hrt] at hone
          simp only [R.bind_ok] at hone
          intro F4' H4' fp6' g34'
          cases b with
          | false =>
            rw [if_neg Bool.false_ne_true] at hone ⊢
            injection hone with h1 h2
            subst h1 h2
            obtain ⟨F9, fp9, w1, w2, w3, w4, w5⟩ := fin Γ4 [] e4' F4' H4' fp6' [] emp ok.le2 g34'.left (by simp only [ROL]; exact ⟨trivial, trivial⟩)
            rw [List.append_nil, List.append_nil] at w5
            have ef : (fun a => f a ∨ emp a) = f := by funext a; simp [emp]
            rw [ef] at w1 w5
            exact ⟨_, F9, fp9, zs, us, f, w1, w2, w3, w5, zs2, hrest, by rw [hz]; rfl⟩
          | true =>
            rw [if_pos rfl] at hone ⊢
            refine ⟨e4', F4', fp6', g34'.st, ?_⟩
            cases hrl : rl e4' with
            | bad => rw [hrl] at hone; cases hone
            | exc y e'' => rw [hrl] at hone; cases hone
            | ok z e5'' =>
              rw [hrl] at hone
              simp only [R.bind_ok] at hone
              injection hone with h1 h2
              subst h1 h2
              intro F5 H5 fp7 v fv g45 val
              have gg := Go.then_ g34' g45
              have rz : ROL T.K F5 H5 [z] m [v] fv := by
                simp only [ROL]
                exact ⟨v, [], fv, emp, rfl, val.ro ok.own, ⟨rfl, rfl⟩, fun _ _ z => z, by funext a; simp [emp]⟩
              obtain ⟨F9, fp9, w1, w2, w3, w4, w5⟩ := fin Γ5 [z] e5'' F5 H5 fp7 [v] fv ok.le3 gg rz
              refine ⟨acc ++ us, w3, ?_, _, F9, fp9, zs ++ [z], us ++ [v], (fun a => f a ∨ fv a), ?_, w2, ?_, ?_, zs2, hrest, by rw [hz]; simp⟩
              · rw [hz] at hlim
                simp only [List.length_append, List.length_cons] at hlim ⊢
                exact Nat.lt_of_le_of_lt (by omega : acc.length + us.length ≤ LIM) (by decide)
              · rw [upd_upd]; exact w1
              · rw [upd_same, List.append_assoc]
              · exact ROL.kept _ _ _ _ ⟨Sub.refl _, fun a z => upd_ne (by rintro rfl; exact w4 z), fun _ _ z => z⟩ w5
      · rintro A ⟨e2, F2, fp2, zs, us, f, g2, sb, hAD, rl0, zs', hcomp, hz⟩
        rw [List.drop_of_length_le (Nat.le_refl _)] at hcomp
        simp only [compL] at hcomp
        injection hcomp with h1 h2
        subst h1 h2
        rw [List.append_nil] at hz
        subst hz
        exact hd F2 A fp2 us f g2 hAD rl0
/-- what a clause with a further one makes of one item -/
def twoD (rt : Env → R Bool) (ri1 : Env → R D) (t1 : Z.T) (f : Env → R (List D)) : Env → R (List D) := fun e3 => (rt e3).bind fun b e4 => if b = true then (ri1 e4).bind fun x2 e5 => match items x2 with
    | none => .bad
    | some xs2 => compL (turnD t1 f) xs2 e5
  else .ok [] e4
theorem rd_lc2 {ri ri1 : Env → R D} {rt rt1 : Env → R Bool} {rl : Env → R D} {t t1 : Z.T} {vs : List Nat} {q1 q2 qi q4 q5 : Bool} {Γ Γ1 Γm Γ2 Γ3 Γm1 Γ4 Γ5 : Gm} {m : Nat} {σ : L2.St} {H : Hp} {Q : VK} (ok : LcOk t vs Γ1 Γm Γ2 Γm1 m) (ok1 : LcOk t1 t1.is Γ3 Γm1 Γ4 Γ5 m)
    (z : rdE T W kp (q1 && (q2 && (qi && (q4 && q5)))) (fun e => (ri e).bind fun x e1 => match items x with
      | none => .bad
      | some xs => (compL (turnD t (twoD rt ri1 t1 (oneD rt1 rl))) xs e1).nox.bind fun zs e6 => R.lift (guardL zs.length (.lst zs)) e6) Γ (up m) Γm σ H Q) :
    tLc2 (rdI T W kp q1 ri Γ Γ1) (gT T.K t) (rdB T W0 [] q2 rt (tgtG t 1 Γm) Γ2) (rdI T W0 [] qi ri1 Γ2 Γ3) (gT T.K t1) (rdB T W0 [] q4 rt1 (tgtG t1 1 Γm1) Γ4) (rdE T W0 [] q5 rl Γ4 m Γ5) vs t1.is σ H Q := by
  obtain ⟨e, F, fp, s, z⟩ := z
  refine ⟨e, F, fp, s, ?_⟩
  dsimp only at z
  cases e1 : ri e with
  | bad => rw [e1] at z; exact z
  | exc y e' => rw [e1] at z; exact z
  | ok d e' =>
    rw [e1] at z
    simp only [R.bind_ok] at z ⊢
    cases e2 : items d with
    | none => rw [e2] at z; exact z.elim
    | some xs =>
      rw [e2] at z
      dsimp only at z ⊢
      intro F1 H1 fp1 J g1 wk D hD
      have hdn : dn (up m) = m := (dn_up (own_pos ok.own) (by have := ok.own; simp [Z.own] at this; exact this.2)).resolve_right fun w => ok.n99 w.1
      have hup : 2 ≤ up m := by have := own_pos ok.own; unfold up; split <;> omega
      have F1D : F1 D = none := by
        cases ef : F1 D with
        | none => rfl
        | some o => have := g1.st.sub _ _ ef; rw [hD] at this; cases this
      have own1D : ¬ Own fp1 D := fun w => (g1.st.cells w).2 hD
      have own0D : Own fp D ∨ H D = none := Grow.none (f := emp) (g := emp) g1.ch (fun _ z => z.2) hD
      have keepD : ∀ x, H D = some x → Wr (q1 && (q2 && (qi && (q4 && q5)))) fp D := fun x hx => by
        refine Classical.byContradiction fun n => ?_
        have := g1.ch.keep D x hx fun w => n ⟨by rw [w.1]; rfl, w.2⟩
        rw [hD] at this; cases this
      refine in_it (Step := fun Nx x H' => gT T.K t x (wipe σ vs) H' fun σ2 H2 => wipe σ2 vs = wipe σ vs ∧ rdB T W0 [] q2 rt (tgtG t 1 Γm) Γ2 σ2 H2 fun b H3 =>
        if b = true then rdI T W0 [] qi ri1 Γ2 Γ3 σ2 H3 fun J1 H4 => ∃ W1 : Nat → Nat → Hp → Prop, (∃ m, W1 0 m H4) ∧ ∀ j k H, W1 j k H →
          (J1.stop j H ∧ Nx H) ∨ (J1.go j H ∧ ∃ Nx1 : Hp → Prop, (∀ H', Nx1 H' → ∃ k', k' < k ∧ W1 (j + 1) k' H') ∧ ∀ x H', J1.yld j H x H' → gT T.K t1 x (wipe σ2 t1.is) H' fun σ3 H5 => wipe σ3 t1.is = wipe σ2 t1.is ∧ rdB T W0 [] q4 rt1 (tgtG t1 1 Γm1) Γ4 σ3 H5 fun b H6 =>
            if b = true then rdE T W0 [] q5 rl Γ4 m Γ5 σ3 H6 fun y H7 => ∃ acc, H7 D = some (.lst acc) ∧ acc.length < sizeLine ∧ Nx1 (upd H7 D (.lst (acc ++ [y]))) else Nx1 H6)
        else Nx H3) wk (fun n H' => ∃ (e2 : Env) (F2 : Hp) (fp2 : Nat → AS) (zs : List Z.D) (acc : List V) (ga : AS), Go T.K (q1 && (q2 && (qi && (q4 && q5)))) Γm σ F H fp e.s e2.s F2 H' fp2 (fun a => a = D ∨ ga a) ∧ Sub F1 F2 ∧ H' D = some (.lst acc) ∧ F2 D = none ∧ ¬ ga D ∧ ROL T.K F2 H' zs m acc ga ∧
        ∃ zs' e6, compL (turnD t (twoD rt ri1 t1 (oneD rt1 rl))) (xs.drop n) e2 = .ok zs' e6 ∧ match R.lift (guardL (zs ++ zs').length (.lst (zs ++ zs'))) e6 with
          | .ok dd e7 => ∀ F' H' fp' v f, Go T.K (q1 && (q2 && (qi && (q4 && q5)))) Γm σ F H fp e.s e7.s F' H' fp' f → Val T.K (up m) F' H' dd v f → Q v H'
          | .exc x e' => XW T W kp σ F H fp x e'.s
          | .bad => False) ?_ ?_ ?_ ?_
      · obtain ⟨F2, fp2, g2, k2⟩ := g1.weak ok.le1 (fun _ z => z.elim)
        cases e3 : compL (turnD t (twoD rt ri1 t1 (oneD rt1 rl))) xs e' with
        | bad => rw [e3] at z; exact z.elim
        | exc y e'' => rw [e3] at z; exact z.elim
        | ok zs' e6 =>
          rw [e3] at z
          simp only [R.nox_ok, R.bind_ok] at z
          have F2D : F2 D = none := by
            cases ef : F2 D with
            | none => rfl
            | some o => have := g2.st.sub _ _ ef; rw [hD] at this; cases this
          have own2D : ¬ Own fp2 D := fun w => (g2.st.cells w).2 hD
          refine ⟨e', F2, fp2, [], [], emp, ⟨fun hq => g2.same (and_tt hq).1, g2.st.upd_out F2D own2D, fun a z1 z2 => ?_, ⟨g2.ch.sub, fun a x hx hw => ?_, g2.ch.new⟩, fun a z1 => ?_⟩, k2.sub, upd_same, F2D, fun z => z, by simp only [ROL]; exact ⟨trivial, trivial⟩, zs', e6, by rw [List.drop_zero]; exact e3, by rw [List.nil_append]; exact z⟩
          · rcases z1 with rfl | z1
            · exact own2D z2
            · exact z1.elim
          · have : a ≠ D := by rintro rfl; exact hw (keepD x hx)
            rw [upd_ne this]
            exact g2.ch.keep a x hx fun w => hw ⟨by rw [w.1]; rfl, w.2⟩
          · rcases z1 with z1 | rfl | z1
            · exact g2.grow a (.inl z1)
            · exact own0D
            · exact z1.elim
      · rintro i H' _ ⟨e2, F2, fp2, zs, acc, ga, g2, s2, _⟩
        exact s2.trans g2.st.sub
      · rintro i v H2 H3 hlt ⟨e2, F2, fp2, zs, acc, ga, g2, sb, hHD, hFD, ngD, rl0, zs', e6, hcomp, zc⟩ ⟨d2, hd2, y⟩
        obtain ⟨F3, s23, s3H, sH, nw, rv⟩ := y F2 sb g2.st.sub
        have hdrop : xs.drop i = d2 :: xs.drop (i + 1) := by
          rw [List.drop_eq_getElem_cons hlt]
          congr 1
          rw [List.getElem?_eq_getElem hlt] at hd2
          exact Option.some.inj hd2
        rw [hdrop] at hcomp
        simp only [compL] at hcomp
        obtain ⟨e3, zs1, e5, zs2, ha3, hone, hrest, rfl⟩ := comp_turn hcomp
        have own2D : ¬ Own fp2 D := fun w => g2.dis D (.inl rfl) w
        have s3 : St T.K Γm e2.s σ F3 H3 fp2 := ⟨s3H, g2.st.lG, g2.st.le, fun j hj => by
          obtain ⟨d3, v3, ea, eb, r3⟩ := g2.st.at_ j hj
          refine ⟨d3, v3, ea, eb, RO.kept d3 _ v3 _ ⟨s23, fun a ha => ?_, fun a ha hn => ?_⟩ r3⟩
          · have := (g2.st.cells ⟨j, ha⟩).2
            cases eh : H2 a with
            | none => exact absurd eh this
            | some z => exact sH a z eh
          · cases ef : F3 a with
            | none => rfl
            | some z => exact ((g2.st.cells ⟨j, ha⟩).2 (nw a hn (by rw [ef]; simp))).elim, g2.st.dis, g2.st.dead⟩
        have s3w : St T.K Γm e2.s (wipe σ vs) F3 H3 fp2 := s3.congr (fun j hj => ⟨rfl, wipe_get σ vs j fun z => by rw [ok.dead j z] at hj; omega⟩) rfl (wipe_length σ vs)
        have gaC := ROL.cells _ _ _ _ rl0
        have lenA := rol_len rl0
        refine tgt_put (ro := (List.range σ.length).filter (fun j => decide (j ∉ vs))) s3w (Nat.le_refl 1) (RO.of1 (Nat.le_refl 1) rv) (fun _ z => z.elim) ha3 ok.lt (fun j hj z => by
          simp only [List.mem_filter, decide_eq_true_eq] at z
          exact z.2 (ok.sub j hj)) fun σ4 fp4 s4 o4 hro hlen4 => ?_
        have hl4 : σ4.length = σ.length := hlen4.trans (wipe_length σ vs)
        have h4 : ∀ j, j ∉ vs → σ4[j]? = σ[j]? := fun j hj => by
          by_cases hlt2 : j < σ.length
          · rw [hro j (by simp [hlt2, hj]), wipe_get σ vs j hj]
          · rw [List.getElem?_eq_none (by omega), List.getElem?_eq_none (by omega)]
        have o4' : ∀ a, Own fp4 a → Own fp2 a := fun a z => (o4 a z).elim id fun z => z.elim
        have fin : ∀ (Γx : Gm) (zs1 : List Z.D) (e5 : Env) (F5 H5 : Hp) (fp6 : Nat → AS) (us : List V) (f : AS), leG Γm (setG t.is 0 Γx) → Go T.K (q2 && (qi && (q4 && q5))) Γx σ4 F3 H3 fp4 e3.s e5.s F5 H5 fp6 f → ROL T.K F5 H5 zs1 m us f →
            compL (turnD t (twoD rt ri1 t1 (oneD rt1 rl))) (xs.drop (i + 1)) (restore t.is e2 e5) = .ok zs2 e6 →
            (match R.lift (guardL (zs ++ (zs1 ++ zs2)).length (.lst (zs ++ (zs1 ++ zs2)))) e6 with
              | .ok dd e7 => ∀ F' H' fp' v f, Go T.K (q1 && (q2 && (qi && (q4 && q5)))) Γm σ F H fp e.s e7.s F' H' fp' f → Val T.K (up m) F' H' dd v f → Q v H'
              | .exc x e' => XW T W kp σ F H fp x e'.s
              | .bad => False) → ∃ (e2 : Env) (F2 : Hp) (fp2 : Nat → AS) (ga : AS), Go T.K (q1 && (q2 && (qi && (q4 && q5)))) Γm σ F H fp e.s e2.s F2 H5 fp2 (fun a => a = D ∨ ga a) ∧ Sub F1 F2 ∧ H5 D = some (.lst acc) ∧ F2 D = none ∧ ¬ ga D ∧ ROL T.K F2 H5 (zs ++ zs1) m (acc ++ us) ga ∧
            ∃ zs' e6, compL (turnD t (twoD rt ri1 t1 (oneD rt1 rl))) (xs.drop (i + 1)) e2 = .ok zs' e6 ∧ match R.lift (guardL ((zs ++ zs1) ++ zs').length (.lst ((zs ++ zs1) ++ zs'))) e6 with
              | .ok dd e7 => ∀ F' H' fp' v f, Go T.K (q1 && (q2 && (qi && (q4 && q5)))) Γm σ F H fp e.s e7.s F' H' fp' f → Val T.K (up m) F' H' dd v f → Q v H'
              | .exc x e' => XW T W kp σ F H fp x e'.s
              | .bad => False := by
          intro Γx zs1 e5 F5 H5 fp6 us f le g rz hrest zc
          have hf := ROL.cells _ _ _ _ rz
          obtain ⟨F6, fp7, g7, k7⟩ := lc_turn g2.st s23 sH nw o4' ha3 h4 hl4 ok.sub ok.dead le ok.lt g hf
          have hcc : ∀ a, (a = D ∨ ga a) → F2 a = none ∧ H2 a ≠ none := by
            rintro a (rfl | z)
            · exact ⟨hFD, by rw [hHD]; simp⟩
            · exact gaC a z
          have gg := Go.trans g2 g7 hcc
          have kp7 := g7.ch.kept (fun _ z => z.2) g2.dis hcc
          have nf : ∀ a, f a → ¬ (a = D ∨ ga a) := fun a z1 z2 => by
            rcases g7.grow a (.inr z1) with z | z
            · exact g2.dis a z2 z
            · exact (hcc a z2).2 z
          refine ⟨restore t.is e2 e5, F6, fp7, fun a => ga a ∨ f a, ?_, sb.trans g7.ch.sub, ?_, kp7.out D (.inl rfl) hFD, ?_, ?_, zs2, e6, hrest, ?_⟩
          · have eq : ((q1 && (q2 && (qi && (q4 && q5)))) && (q2 && (qi && (q4 && q5)))) = (q1 && (q2 && (qi && (q4 && q5)))) := by cases q1 <;> cases q2 <;> cases qi <;> cases q4 <;> cases q5 <;> rfl
            rw [eq] at gg
            refine go_app gg fun a z => ?_
            rcases z with z | z | z
            · exact .inl (.inl z)
            · exact .inl (.inr z)
            · exact .inr z
          · rw [kp7.at_ D (.inl rfl)]; exact hHD
          · rintro (z | z)
            · exact ngD z
            · exact nf D z (.inl rfl)
          · exact ROL.app (ROL.kept _ _ _ _ (kp7.mono fun a z => .inr z) rl0) (ROL.kept _ _ _ _ k7 rz) fun a z1 z2 => nf a z2 (.inr z1)
          · rw [List.append_assoc]; exact zc
        refine ⟨?_, e3, F3, fp4, s4, ?_⟩
        · rw [wipe_setσ h4 hl4]
        · have gst : ∀ {q : Bool}, q = q := rfl
          unfold twoD at hone
          have H3D : H3 D = some (.lst acc) := sH D _ hHD
          have F3D : F3 D = none := by
            cases ef : F3 D with
            | none => rfl
            | some o => have := nw D hFD (by rw [ef]; simp); rw [hHD] at this; cases this
          have o4D : ¬ Own fp4 D := fun z => own2D (o4' D z)
          cases hrt : rt e3 with
          | bad => rw [hrt] at hone; cases hone
          | exc y e'' => rw [hrt] at hone; cases hone
          | ok b e4 =>
            rw [hrt] at hone
            simp only [R.bind_ok] at hone
            intro F4 H4 fp5 g34
            cases b with
            | false =>
              rw [if_neg Bool.false_ne_true] at hone ⊢
              injection hone with h1 h2
              subst h1 h2
              obtain ⟨e9, F9, fp9, ga9, w1, w2, w3, w4, w5, w6, w7⟩ := fin Γ2 [] e4 F4 H4 fp5 [] emp ok.le2 g34.left (by simp only [ROL]; exact ⟨trivial, trivial⟩) hrest zc
              rw [List.append_nil] at w6 w7
              rw [List.append_nil] at w6
              exact ⟨e9, F9, fp9, zs, acc, ga9, w1, w2, w3, w4, w5, w6, w7⟩
            | true =>
              rw [if_pos rfl] at hone ⊢
              have hlen : (zs ++ (zs1 ++ zs2)).length ≤ LIM := by
                refine Classical.byContradiction fun n => ?_
                unfold guardL at zc
                rw [if_neg n] at zc
                exact zc
              refine rd_in ok1 H3D F3D o4D g34 hone (by rw [lenA]; simp only [List.length_append] at hlen; omega) fun F9 A fp9 us f g hA rz => ?_
              have o9 := g.outD F3D H3D o4D
              have rz' : ROL T.K F9 (upd A D (.lst acc)) zs1 m us f := ROL.kept _ _ _ _ ⟨Sub.refl _, fun a z => upd_ne (by rintro rfl; exact o9.2.2.1 z), fun _ _ z => z⟩ rz
              obtain ⟨e9, F9', fp9', ga9, w1, w2, w3, w4, w5, w6, w7⟩ := fin Γm1 zs1 e5 F9 (upd A D (.lst acc)) fp9 us f ok.le3 g rz' hrest zc
              refine ⟨e9, F9', fp9', zs ++ zs1, acc ++ us, ga9, ?_, w2, hA, w4, w5, ?_, w7⟩
              · have := w1.updD (o := .lst (acc ++ us)) w4 (.inl rfl) (fun _ z => z) keepD
                rw [upd_upd, upd_self hA] at this
                exact this
              · have := ROL.kept (F' := F9') (H' := A) _ _ _ _ ⟨Sub.refl _, fun a z => (upd_ne (by rintro rfl; exact w5 z)).symm, fun _ _ z => z⟩ w6
                exact this
      · rintro H' ⟨e2, F2, fp2, zs, acc, ga, g2, sb, hHD, hFD, ngD, rl0, zs', e6, hcomp, zc⟩
        rw [List.drop_of_length_le (Nat.le_refl _)] at hcomp
        simp only [compL] at hcomp
        injection hcomp with h1 h2
        subst h1 h2
        rw [List.append_nil] at zc
        by_cases hl : zs.length ≤ LIM
        · rw [guardL_pos hl] at zc
          refine zc F2 H' fp2 (.ref D) _ g2 (Val.of (by omega) ?_)
          unfold RO
          rw [if_neg (by omega)]
          exact ⟨D, acc, ga, rfl, hHD, hFD, ngD, by rw [hdn]; exact rl0, rfl⟩
        · unfold guardL at zc
          rw [if_neg hl] at zc
          exact zc.elim

variable {X : Cx}
/-- [elt for t in it if .. for t1 in it1 if ..] -/
theorem se_lc2 {ri ri1 : Env → R D} {rt rt1 : Env → R Bool} {rl : Env → R D} {elt tg iter tg1 iter1 : Expr} {ifs ifs1 : List Expr} {scope : Scope} {own_ : List (Str × Nat)} {pos : Pos} {t t1 : Z.T} {q1 q2 qi q4 q5 : Bool} {Γ Γ1 Γm Γ2 Γ3 Γm1 Γ4 Γ5 : Gm} {m : Nat}
    (hc : X.calm = true) (hN : X.N.Nodup) (ok : BlkOk X.N X.env.scope scope own_) (lo : LcOk t (own_.map (·.2)) Γ1 Γm Γ2 Γm1 m) (lo1 : LcOk t1 t1.is Γ3 Γm1 Γ4 Γ5 m) (hv : ∀ i ∈ t1.is, i ∈ own_.map (·.2)) (hi : SI X T W kp q1 ri tg iter Γ Γ1)
    (hg : ∀ (s : Shared) (H : Hp) (C : Addr) (cl : List (Str × Addr)) (fp : List Addr), PG (X.blk s H scope (compEnvC scope cl C X.env) fp) tg (gT T.K t))
    (ht : ∀ (s : Shared) (H : Hp) (C : Addr) (cl : List (Str × Addr)) (fp : List Addr), STs (X.blk s H scope (compEnvC scope cl C X.env) fp) T W0 [] q2 rt ifs (tgtG t 1 Γm) Γ2)
    (hi1 : ∀ (s : Shared) (H : Hp) (C : Addr) (cl : List (Str × Addr)) (fp : List Addr), SI (X.blk s H scope (compEnvC scope cl C X.env) fp) T W0 [] qi ri1 tg1 iter1 Γ2 Γ3)
    (hg1 : ∀ (s : Shared) (H : Hp) (C : Addr) (cl : List (Str × Addr)) (fp : List Addr), PG (X.blk s H scope (compEnvC scope cl C X.env) fp) tg1 (gT T.K t1))
    (ht1 : ∀ (s : Shared) (H : Hp) (C : Addr) (cl : List (Str × Addr)) (fp : List Addr), STs (X.blk s H scope (compEnvC scope cl C X.env) fp) T W0 [] q4 rt1 ifs1 (tgtG t1 1 Γm1) Γ4)
    (he : ∀ (s : Shared) (H : Hp) (C : Addr) (cl : List (Str × Addr)) (fp : List Addr), SE (X.blk s H scope (compEnvC scope cl C X.env) fp) T W0 [] q5 rl elt Γ4 m Γ5) (hs : nset iter = true) (hs1 : nset iter1 = true) :
    SE X T W kp (q1 && (q2 && (qi && (q4 && q5)))) (fun e => (ri e).bind fun x e1 => match items x with
      | none => .bad
      | some xs => (compL (turnD t (twoD rt ri1 t1 (oneD rt1 rl))) xs e1).nox.bind fun zs e6 => R.lift (guardL zs.length (.lst zs)) e6) (.ListComp elt [⟨tg, iter, ifs, 0⟩, ⟨tg1, iter1, ifs1, 0⟩] scope pos) Γ (up m) Γm :=
  PE.mono (pe_lc2 hc hN hi ok hv hg ht hi1 hg1 ht1 he (set_ok hs) (fun _ => set_ok hs1)) fun _ _ _ z => rd_lc2 lo lo1 z
end
end Z

/-! Z15: sequences, built-ins. -/
namespace Z
open PySem PySem.Spec L2 PyProof.Rows
section
variable {K : PySem.W.Frag}
/-- a new list or tuple of shared items -/
theorem new_shared {F H : Hp} {xs : List D} {vs : List V} {f : AS} {tup : Bool} {p : Addr} (s : Sub F H) (r : RFL K F xs vs) (np : H p = none) {Q : VK}
    (k : ∀ F2 H2 w f2, Sub F2 H2 → Sub F F2 → Sub H H2 → (∀ a, F a = none → F2 a ≠ none → f a ∨ H a = none) → (∀ a, f2 a → f a ∨ H a = none) → Val K 2 F2 H2 (if tup then .tup xs else .lst xs) w f2 → Q w H2) : Q (.ref p) (upd H p (if tup then .tup vs else .lst vs)) := by
  have sH : Sub H (upd H p (if tup then .tup vs else .lst vs)) := upd_sub np
  have Fp : F p = none := by
    cases e : F p with
    | none => rfl
    | some o => have := s _ _ e; rw [np] at this; cases this
  refine k F _ (.ref p) (fun b => b = p ∨ emp b) (s.trans sH) (Sub.refl F) sH (fun a z z' => absurd z z') (fun a z => ?_) (Val.of (by decide) ?_)
  · rcases z with rfl | z
    · exact .inr np
    · exact z.elim
  · cases tup with
    | true =>
      simp only [if_true]
      unfold RO
      rw [if_neg (by decide)]
      exact ⟨p, vs, emp, rfl, upd_same, Fp, fun z => z, rol_of1 r, rfl⟩
    | false =>
      simp only [Bool.false_eq_true, if_false]
      unfold RO
      rw [if_neg (by decide)]
      exact ⟨p, vs, emp, rfl, upd_same, Fp, fun z => z, rol_of1 r, rfl⟩
/-- .. brought down to shared -/
theorem new_frozen {F H : Hp} {xs : List D} {vs : List V} {f : AS} {tup : Bool} {p : Addr} (s : Sub F H) (r : RFL K F xs vs) (np : H p = none) {Q : VK}
    (k : ∀ F2 H2 w f2, Sub F2 H2 → Sub F F2 → Sub H H2 → (∀ a, F a = none → F2 a ≠ none → f a ∨ H a = none) → (∀ a, f2 a → f a ∨ H a = none) → Val K 1 F2 H2 (if tup then .tup xs else .lst xs) w f2 → Q w H2) : Q (.ref p) (upd H p (if tup then .tup vs else .lst vs)) := by
  have sH : Sub H (upd H p (if tup then .tup vs else .lst vs)) := upd_sub np
  have Fp : F p = none := by
    cases e : F p with
    | none => rfl
    | some o => have := s _ _ e; rw [np] at this; cases this
  have sF : Sub F (upd F p (if tup then .tup vs else .lst vs)) := upd_sub Fp
  refine k (upd F p (if tup then .tup vs else .lst vs)) _ (.ref p) emp (fun a o e => ?_) sF sH (fun a z z' => ?_) (fun a z => z.elim) (Val.of (by decide) (RO.of1 (Nat.le_refl 1) ?_))
  · by_cases h : a = p
    · subst h; rw [upd_same] at e ⊢; exact e
    · rw [upd_ne h] at e ⊢; exact s _ _ e
  · by_cases h : a = p
    · subst h; exact .inr np
    · rw [upd_ne h] at z'; exact absurd z z'
  · cases tup with
    | true =>
      simp only [if_true, RF]
      exact ⟨p, vs, rfl, .inl (.inl upd_same), RFL.sub sF _ _ r⟩
    | false =>
      simp only [Bool.false_eq_true, if_false, RF]
      exact ⟨p, vs, rfl, .inl upd_same, RFL.sub sF _ _ r⟩
theorem rfl_app {F : Hp} : ∀ {xs ys : List D} {vs us : List V}, RFL K F xs vs → RFL K F ys us → RFL K F (xs ++ ys) (vs ++ us)
  | [], _, vs, us, h, h' => by simp only [RFL] at h; subst h; exact h'
  | x :: xs, ys, vs, us, h, h' => by
    simp only [RFL] at h
    obtain ⟨w, ws, rfl, q, r⟩ := h
    simp only [List.cons_append, RFL]
    exact ⟨w, ws ++ us, rfl, q, rfl_app r h'⟩
theorem rfl_drop {F : Hp} : ∀ {xs : List D} {vs : List V} (n : Nat), RFL K F xs vs → RFL K F (xs.drop n) (vs.drop n)
  | xs, vs, 0, h => h
  | [], vs, n + 1, h => by simp only [RFL] at h; subst h; simp [RFL]
  | x :: xs, vs, n + 1, h => by
    simp only [RFL] at h
    obtain ⟨w, ws, rfl, q, r⟩ := h
    simpa using rfl_drop n r
theorem rfl_take {F : Hp} : ∀ {xs : List D} {vs : List V} (n : Nat), RFL K F xs vs → RFL K F (xs.take n) (vs.take n)
  | xs, vs, 0, h => by simp [RFL]
  | [], vs, n + 1, h => by simp only [RFL] at h; subst h; simp [RFL]
  | x :: xs, vs, n + 1, h => by
    simp only [RFL] at h
    obtain ⟨w, ws, rfl, q, r⟩ := h
    simp only [List.take_succ_cons, RFL]
    exact ⟨w, ws.take n, rfl, q, rfl_take n r⟩
theorem rfl_rep {F : Hp} {xs : List D} {vs : List V} (h : RFL K F xs vs) : ∀ n : Nat, RFL K F (List.replicate n xs).flatten (List.replicate n vs).flatten
  | 0 => by simp [RFL]
  | n + 1 => by
    simp only [List.replicate_succ, List.flatten_cons]
    exact rfl_app h (rfl_rep h n)
theorem rfl_rev {F : Hp} : ∀ {xs : List D} {vs : List V}, RFL K F xs vs → RFL K F xs.reverse vs.reverse
  | [], vs, h => by simp only [RFL] at h; subst h; simp [RFL]
  | x :: xs, vs, h => by
    simp only [RFL] at h
    obtain ⟨w, ws, rfl, q, r⟩ := h
    simp only [List.reverse_cons]
    refine rfl_app (rfl_rev r) ?_
    simp only [RFL]
    exact ⟨w, [], rfl, q, rfl⟩
theorem sIx_eq (n d : Nat) (o : Option Int) : HT.sIx n d o = sIx n d o := by cases o <;> rfl
theorem cut_eq (xs : List V) (lo hi : Option Int) : cutV xs lo hi = cut xs lo hi := by unfold cutV cut; simp only [sIx_eq]
theorem rfl_cut {F : Hp} {xs : List D} {vs : List V} (lo hi : Option Int) (h : RFL K F xs vs) : RFL K F (cut xs lo hi) (cutV vs lo hi) := by
  rw [cut_eq]
  unfold cut
  rw [rfl_len h]
  exact rfl_take _ (rfl_drop _ h)
theorem cut_txt (s : Txt) (lo hi : Option Int) : cutS (txt s) lo hi = txt (cut s lo hi) := by
  unfold cutS cut txt
  simp only [sIx_eq, Str.length, List.size_toArray]
end
section
variable {X : Cx} {T : Tb} {W : WX} {kp : List Nat}
/-- list + list, of any standing -/
def rCatR : R2 := fun x y H Q => ∃ l b xs zs, x = .ref l ∧ y = .ref b ∧ Rd H l (.lst xs) ∧ Rd H b (.lst zs) ∧ xs.length + zs.length ≤ sizeLine ∧ ∀ p, H p = none → Q (.ref p) (upd H p (.lst (xs ++ zs)))
theorem op_catR : OpR X (binaryOp .Add) rCatR := by
  intro pins s σ H x y v u Q I rx ry h
  obtain ⟨l, b, xs, zs, rfl, rfl, hH, hB, hz, q⟩ := h
  cases rx
  cases ry
  obtain ⟨z, its, n, r, e⟩ := hH.ok I.hok
  obtain ⟨z2, its2, n2, r2, e2⟩ := hB.ok I.hok
  have hl := r.length
  have hl2 := r2.length
  refine PySem.P.add_list e e2 ?_ (by rw [List.size_toArray, List.size_toArray]; omega)
  have ea : its.toArray ++ its2.toArray = (its ++ its2).toArray := by simp
  rw [ea]
  exact ⟨.ref _, _, I.lnew (t' := s.toks) (r.append r2) (by rw [List.length_append]; omega), rfl, q _ I.fresh⟩
/-- both operands shared: the answer is new -/
theorem pair_rf {F H : Hp} {x y : D} {v u : V} {f : AS} (h : ValL T.K F H [1, 1] [x, y] [v, u] f) : RF T.K F x v ∧ RF T.K F y u := by
  obtain ⟨w1, ws, g1, g2, e1, v1, v2, _, rfl⟩ := h
  cases e1
  obtain ⟨w2, ws2, g3, g4, e2, v3, _⟩ := v2
  cases e2
  unfold Val at v1 v3
  rw [if_neg (by decide)] at v1 v3
  exact ⟨(RO.to1 (Nat.le_refl 1) v1).1, (RO.to1 (Nat.le_refl 1) v3).1⟩
theorem se_cat {q1 q2 : Bool} {ra rb : Env → R D} {a b : Expr} {pos : Pos} {Γ Γ1 Γ2 : Gm} {m n : Nat} (ha : SE X T W kp q1 ra a Γ m Γ1) (hb : SE X T W kp q2 rb b Γ1 n Γ2) (hm : own m = true) (hn : own n = true) :
    SE X T W kp (q1 && q2) (fun e => (ra e).bind fun x e1 => (rb e1).bind fun y e2 => R.lift (opCat x y) e2) (.BinOp a .Add b pos) Γ 2 Γ2 := by
  refine PE.mono (pe_op op_catR (se_weak ha (leG.refl _) (.inr ⟨Nat.le_refl 1, own_pos hm⟩)) (se_weak hb (leG.refl _) (.inr ⟨Nat.le_refl 1, own_pos hn⟩))) fun σ H Q z => rd_two (.inl (by decide)) z fun F H' x y v u f d s val hg k => ?_
  obtain ⟨r1, r2⟩ := pair_rf val
  cases x <;> cases y <;> simp only [opCat, reduceCtorEq] at hg
  unfold guardL at hg
  split at hg <;> simp only [reduceCtorEq, Option.some.injEq] at hg
  rename_i hl
  subst hg
  simp only [RF] at r1 r2
  obtain ⟨a1, vs, rfl, q1, r1⟩ := r1
  obtain ⟨a2, us, rfl, q2, r2⟩ := r2
  exact ⟨a1, a2, vs, us, rfl, rfl, Rd.sub s q1, Rd.sub s q2, by rw [rfl_len r1, rfl_len r2]; exact lim_line hl, fun p np => new_shared (tup := false) s (rfl_app r1 r2) np k⟩
theorem se_catT {q1 q2 : Bool} {ra rb : Env → R D} {a b : Expr} {pos : Pos} {Γ Γ1 Γ2 : Gm} {m n : Nat} (hK : X.K = T.K) (ha : SE X T W kp q1 ra a Γ m Γ1) (hb : SE X T W kp q2 rb b Γ1 n Γ2) (hm : own m = true) (hn : own n = true) :
    SE X T W kp (q1 && q2) (fun e => (ra e).bind fun x e1 => (rb e1).bind fun y e2 => R.lift (opCatT x y) e2) (.BinOp a .Add b pos) Γ 1 Γ2 := by
  refine PE.mono (pe_op (OpR.or op_catR op_catA) (se_weak ha (leG.refl _) (.inr ⟨Nat.le_refl 1, own_pos hm⟩)) (se_weak hb (leG.refl _) (.inr ⟨Nat.le_refl 1, own_pos hn⟩))) fun σ H Q z => rd_two (.inl (by decide)) z fun F H' x y v u f d s val hg k => ?_
  obtain ⟨r1, r2⟩ := pair_rf val
  cases x <;> cases y <;> simp only [opCatT, reduceCtorEq] at hg
  · unfold guardL at hg
    split at hg <;> simp only [reduceCtorEq, Option.some.injEq] at hg
    rename_i xs ys hl
    subst hg
    refine .inr ?_
    simp only [RF] at r1 r2
    have r1' : RF T.K F (.tup xs) v := by simp only [RF]; exact r1
    have r2' : RF T.K F (.tup ys) u := by simp only [RF]; exact r2
    obtain ⟨a1, vs, rfl, q1, r1⟩ := r1
    obtain ⟨a2, us, rfl, q2, r2⟩ := r2
    have h1 := rfl_len r1
    have h2 := rfl_len r2
    refine ⟨a1, a2, vs, us, rfl, rfl, hK ▸ SqT.sub s q1, hK ▸ SqT.sub s q2, by rw [h1, h2]; exact lim_line hl, fun e => ?_, fun _ e => ?_, fun _ _ p np => new_frozen (tup := true) s (rfl_app r1 r2) np k⟩
    · subst e
      have : xs = [] := List.length_eq_zero_iff.mp h1.symm
      rw [this, List.nil_append] at k
      exact k F H' _ emp s (Sub.refl F) (Sub.refl H') (fun a z z' => (z' z).elim) (fun a z => z.elim) (Val.of (by decide) (RO.of1 (Nat.le_refl 1) r2'))
    · subst e
      have : ys = [] := List.length_eq_zero_iff.mp h2.symm
      rw [this, List.append_nil] at k
      exact k F H' _ emp s (Sub.refl F) (Sub.refl H') (fun a z z' => (z' z).elim) (fun a z => z.elim) (Val.of (by decide) (RO.of1 (Nat.le_refl 1) r1'))
  · unfold guardL at hg
    split at hg <;> simp only [reduceCtorEq, Option.some.injEq] at hg
    rename_i hl
    subst hg
    refine .inl ?_
    simp only [RF] at r1 r2
    obtain ⟨a1, vs, rfl, q1, r1⟩ := r1
    obtain ⟨a2, us, rfl, q2, r2⟩ := r2
    exact ⟨a1, a2, vs, us, rfl, rfl, Rd.sub s q1, Rd.sub s q2, by rw [rfl_len r1, rfl_len r2]; exact lim_line hl, fun p np => new_frozen (tup := false) s (rfl_app r1 r2) np k⟩
/-! ### slices -/
def rdO (T : Tb) (W : WX) (kp : List Nat) (q : Bool) (r : Env → R (Option Int)) (Γ Γ' : Gm) : TO := fun σ H Q => ∃ e F fp, St T.K Γ e.s σ F H fp ∧ match r e with
  | .ok o e' => ∀ F' H' fp', Go T.K q Γ' σ F H fp e.s e'.s F' H' fp' emp → Q o H'
  | .exc x e' => XW T W kp σ F H fp x e'.s
  | .bad => False
def SO (X : Cx) (T : Tb) (W : WX) (kp : List Nat) (q : Bool) (r : Env → R (Option Int)) (x : Option Expr) (Γ Γ' : Gm) : Prop := PO X x (rdO T W kp q r Γ Γ')
theorem PO.mono {X : Cx} {x : Option Expr} {t t' : TO} (h : PO X x t) (m : ∀ σ H Q, t' σ H Q → t σ H Q) : PO X x t' := ⟨fun pins s σ H Q I z => h.run pins s σ H Q I (m σ H Q z)⟩
theorem so_none {Γ : Gm} {q : Bool} : SO X T W kp q (fun e => .ok none e) none Γ Γ :=
  PO.mono po_none fun σ H Q ⟨e, F, fp, s, z⟩ => z F H fp (Go.refl s)
theorem so_some {ra : Env → R D} {a : Expr} {q : Bool} {Γ Γ1 : Gm} {m : Nat} (h : SE X T W kp q ra a Γ m Γ1) : SO X T W kp q (fun e => (ra e).bind fun x e1 => R.lift (optI x) e1) (some a) Γ Γ1 := by
  refine PO.mono (po_some h) fun σ H Q ⟨e, F, fp, s, z⟩ => ⟨e, F, fp, s, ?_⟩
  dsimp only at z
  cases e1 : ra e with
  | bad => rw [e1] at z; exact z
  | exc y e' => rw [e1] at z; exact z
  | ok d e' =>
    rw [e1] at z
    simp only [R.bind_ok] at z
    intro F' H' fp' v f g val
    cases d <;> simp only [optI, R.lift_none] at z
    exact ⟨_, rf_int (val.rf g.st.sub), z F' H' fp' (go_app g fun _ z => z.elim)⟩
theorem rd_sl {q1 q2 q3 : Bool} {ra : Env → R D} {rl rh : Env → R (Option Int)} {Γ Γ1 Γ2 Γ3 : Gm} {g : Option Int → Option Int → D → Option D} {mo : Nat} {σ : L2.St} {H : Hp} {Q : VK} {rr : V → Option Int → Option Int → Hp → VK → Prop}
    (h : rdE T W kp (q1 && (q2 && q3)) (fun e => (ra e).bind fun x e1 => (rl e1).bind fun l e2 => (rh e2).bind fun u e3 => R.lift (g l u x) e3) Γ mo Γ3 σ H Q)
    (rule : ∀ F H' x v l u d, Sub F H' → RF T.K F x v → g l u x = some d →
      (∀ F2 H2 w f2, Sub F2 H2 → Sub F F2 → Sub H' H2 → (∀ a, F a = none → F2 a ≠ none → H' a = none) → (∀ a, f2 a → H' a = none) → Val T.K mo F2 H2 d w f2 → Q w H2) → rr v l u H' Q) :
    tSl rr (rdE T W kp q1 ra Γ 1 Γ1) (rdO T W kp q2 rl Γ1 Γ2) (rdO T W kp q3 rh Γ2 Γ3) σ H Q := by
  obtain ⟨e, F, fp, s, h⟩ := h
  refine ⟨e, F, fp, s, ?_⟩
  dsimp only at h
  cases e1 : ra e with
  | bad => rw [e1] at h; exact h
  | exc y e' => rw [e1] at h; exact h
  | ok x e' =>
    rw [e1] at h
    simp only [R.bind_ok] at h
    intro F1 H1 fp1 v f1 g1 val1
    unfold Val at val1
    rw [if_neg (by decide)] at val1
    obtain ⟨rx, rfl⟩ := RO.to1 (Nat.le_refl 1) val1
    refine ⟨e', F1, fp1, g1.st, ?_⟩
    cases e2 : rl e' with
    | bad => rw [e2] at h; exact h
    | exc y e2' => rw [e2] at h; exact XW.back h g1
    | ok l e2' =>
      rw [e2] at h
      simp only [R.bind_ok] at h
      intro F2 H2 fp2 g2
      have g12 := Go.then_ g1 g2
      refine ⟨e2', F2, fp2, g2.st, ?_⟩
      cases e3 : rh e2' with
      | bad => rw [e3] at h; exact h
      | exc y e3' => rw [e3] at h; exact XW.back h g12
      | ok u e3' =>
        rw [e3] at h
        simp only [R.bind_ok] at h
        intro F3 H3 fp3 g3
        have gg := Go.then_ g12 g3
        rw [Bool.and_assoc] at gg
        cases hg : g l u x with
        | none => rw [hg] at h; exact h.elim
        | some d =>
          rw [hg] at h
          simp only [R.lift_some] at h
          refine rule F3 H3 x v l u d gg.st.sub (RF.sub (g2.ch.sub.trans g3.ch.sub) _ _ rx) hg fun F4 H4 w f4 s4 sF sH nw gr vw => ?_
          refine h F4 H4 fp3 w f4 ⟨gg.same, ⟨s4, gg.st.lG, gg.st.le, fun i hi => ?_, gg.st.dis, gg.st.dead⟩, fun a z1 z2 => ?_, ?_, fun a z => ?_⟩ vw
          · obtain ⟨d2, v2, e3, e4, r2⟩ := gg.st.at_ i hi
            refine ⟨d2, v2, e3, e4, RO.kept d2 _ v2 _ ⟨sF, fun a ha => ?_, fun a ha hn => ?_⟩ r2⟩
            · have := (gg.st.cells ⟨i, ha⟩).2
              cases eh : H3 a with
              | none => exact absurd eh this
              | some z => exact sH a z eh
            · cases ef : F4 a with
              | none => rfl
              | some z => exact ((gg.st.cells ⟨i, ha⟩).2 (nw a hn (by rw [ef]; simp))).elim
          · exact (gg.st.cells z2).2 (gr a z1)
          · refine ⟨gg.ch.sub.trans sF, fun a z hz hw => sH a z (gg.ch.keep a z hz hw), fun a z z' => ?_⟩
            cases ef : F3 a with
            | some y => exact gg.ch.new a z (by rw [ef]; simp)
            | none => exact Grow.none (f := emp) (g := emp) gg.ch (fun _ z => z.2) (nw a ef z')
          · rcases z with z | z
            · exact gg.grow a (.inl z)
            · exact Grow.none (f := emp) (g := emp) gg.ch (fun _ z => z.2) (gr a z)
theorem se_sl {q1 q2 q3 : Bool} {ra : Env → R D} {rl rh : Env → R (Option Int)} {a : Expr} {lo hi : Option Expr} {p2 pos : Pos} {Γ Γ1 Γ2 Γ3 : Gm} {m : Nat} (hK : X.K = T.K) (ha : SE X T W kp q1 ra a Γ m Γ1) (hm : own m = true) (hl : SO X T W kp q2 rl lo Γ1 Γ2) (hh : SO X T W kp q3 rh hi Γ2 Γ3) :
    SE X T W kp (q1 && (q2 && q3)) (fun e => (ra e).bind fun x e1 => (rl e1).bind fun l e2 => (rh e2).bind fun u e3 => R.lift (opSl l u x) e3) (.Subscript a (.Slice lo hi none p2) pos) Γ 2 Γ3 := by
  refine PE.mono (pe_slice (SlR.or sl_list sl_str) (se_weak ha (leG.refl _) (.inr ⟨Nat.le_refl 1, own_pos hm⟩)) hl hh) fun σ H Q z => rd_sl z fun F H' x v l u d s r hg k => ?_
  have k' : ∀ F2 H2 w f2, Sub F2 H2 → Sub F F2 → Sub H' H2 → (∀ a, F a = none → F2 a ≠ none → emp a ∨ H' a = none) → (∀ a, f2 a → emp a ∨ H' a = none) → Val T.K 2 F2 H2 d w f2 → Q w H2 :=
    fun F2 H2 w f2 a1 a2 a3 a4 a5 a6 => k F2 H2 w f2 a1 a2 a3 (fun a z z' => (a4 a z z').resolve_left fun z => z) (fun a z => (a5 a z).resolve_left fun z => z) a6
  cases x <;> simp only [opSl, reduceCtorEq] at hg
  · split at hg <;> simp only [reduceCtorEq, Option.some.injEq] at hg
    rename_i hl
    subst hg
    obtain rfl := rf_str r
    refine .inr ⟨_, rfl, by rw [txt_len]; exact lim_line hl, ?_⟩
    rw [cut_txt]
    exact keep_flat s rfl k' _ mk_str
  · cases hg
    simp only [RF] at r
    obtain ⟨a1, vs, rfl, q1, r1⟩ := r
    exact .inl ⟨a1, vs, rfl, .inl (Rd.sub s q1), fun p np => new_shared (tup := false) s (rfl_cut l u r1) np k'⟩
theorem se_slT {q1 q2 q3 : Bool} {ra : Env → R D} {rl rh : Env → R (Option Int)} {a : Expr} {lo hi : Option Expr} {p2 pos : Pos} {Γ Γ1 Γ2 Γ3 : Gm} {m : Nat} (hK : X.K = T.K) (ha : SE X T W kp q1 ra a Γ m Γ1) (hm : own m = true) (hl : SO X T W kp q2 rl lo Γ1 Γ2) (hh : SO X T W kp q3 rh hi Γ2 Γ3) :
    SE X T W kp (q1 && (q2 && q3)) (fun e => (ra e).bind fun x e1 => (rl e1).bind fun l e2 => (rh e2).bind fun u e3 => R.lift (opSlT l u x) e3) (.Subscript a (.Slice lo hi none p2) pos) Γ 1 Γ3 := by
  refine PE.mono (pe_slice (SlR.or sl_list (SlR.or sl_tupA sl_str)) (se_weak ha (leG.refl _) (.inr ⟨Nat.le_refl 1, own_pos hm⟩)) hl hh) fun σ H Q z => rd_sl z fun F H' x v l u d s r hg k => ?_
  have k' : ∀ F2 H2 w f2, Sub F2 H2 → Sub F F2 → Sub H' H2 → (∀ a, F a = none → F2 a ≠ none → emp a ∨ H' a = none) → (∀ a, f2 a → emp a ∨ H' a = none) → Val T.K 1 F2 H2 d w f2 → Q w H2 :=
    fun F2 H2 w f2 a1 a2 a3 a4 a5 a6 => k F2 H2 w f2 a1 a2 a3 (fun a z z' => (a4 a z z').resolve_left fun z => z) (fun a z => (a5 a z).resolve_left fun z => z) a6
  cases x <;> simp only [opSlT, reduceCtorEq] at hg
  · split at hg <;> simp only [reduceCtorEq, Option.some.injEq] at hg
    rename_i hl
    subst hg
    obtain rfl := rf_str r
    refine .inr (.inr ⟨_, rfl, by rw [txt_len]; exact lim_line hl, ?_⟩)
    rw [cut_txt]
    exact keep_flat s rfl k' _ mk_str
  · rename_i xs
    cases hg
    have r' := r
    simp only [RF] at r
    obtain ⟨a1, vs, rfl, q1, r1⟩ := r
    refine .inr (.inl ⟨a1, vs, rfl, hK ▸ SqT.sub s q1, fun hw => ?_, fun _ p np => new_frozen (tup := true) s (rfl_cut l u r1) np k'⟩)
    simp only [sIx_eq, rfl_len r1] at hw
    have e : cut xs l u = xs := by
      unfold cut
      rw [hw.1, hw.2]
      simp only [List.drop_zero, Nat.sub_zero]
      exact List.take_length
    rw [e] at k'
    exact k' F H' _ emp s (Sub.refl F) (Sub.refl H') (fun a z z' => (z' z).elim) (fun a z => z.elim) (Val.of (by decide) (RO.of1 (Nat.le_refl 1) r'))
  · cases hg
    simp only [RF] at r
    obtain ⟨a1, vs, rfl, q1, r1⟩ := r
    exact .inl ⟨a1, vs, rfl, .inl (Rd.sub s q1), fun p np => new_frozen (tup := false) s (rfl_cut l u r1) np k'⟩
end
end Z

/-! Z16: built-in functions. -/
namespace Z
open PySem PySem.Spec L2 PyProof.Rows
section
variable {X : Cx} {T : Tb} {W : WX} {kp : List Nat} {K : PySem.W.Frag}
/-- a built-in whose answer is flat -/
def BiF (K : PySem.W.Frag) (g : List D → Option D) (r : List V → Hp → VK → Prop) : Prop := ∀ H xs vs d Q, RFL K H xs vs → g xs = some d → flat d = true ∧ ((∀ w, RF K H d w → Q w H) → r vs H Q)
theorem rd_biF {q : Bool} {rs : Env → R (List D)} {Γ Γ1 : Gm} {ms : List Nat} {mo : Nat} {g : List D → Option D} {r : List V → Hp → VK → Prop} {σ : L2.St} {H : Hp} {Q : VK} (hb : BiF T.K g r) (z : rdE T W kp q (fun e => (rs e).bind fun xs e1 => R.lift (g xs) e1) Γ mo Γ1 σ H Q) : tCB r (rdL T W kp q rs Γ ms Γ1) σ H Q :=
  rd_many (rr := fun vs H Q => r vs H Q) z fun F H' xs vs f d s _ val hg k => by
    obtain ⟨fl, h⟩ := hb H' xs vs d Q (ValL.rf s val) hg
    exact h (keep_flat s fl k)
theorem se_biF {q : Bool} {rs : Env → R (List D)} {x : Str} {p pos : Pos} {a : Expr} {as : List Expr} {id : String} {Γ Γ1 : Gm} {ms : List Nat} {mo : Nat} {g : List D → Option D} {r : List V → Hp → VK → Prop} (hb : BiF T.K g r) (hc : CallR X (.builtin id) r) (hg : Gl X x) (hm : X.mg x = none) (hv : bootBuiltins x = some (.builtin id)) (hn : x ≠ "__name__") (hdb : (x == ("__debug__" : Str)) = false)
    (ha : SL X T W kp q rs (a :: as) Γ ms Γ1) (h2 : (a :: as).all ns = true) : SE X T W kp q (fun e => (rs e).bind fun xs e1 => R.lift (g xs) e1) (.Call (.Name x p) (a :: as) [] pos) Γ mo Γ1 := by
  simp only [List.all_cons, Bool.and_eq_true] at h2
  exact PE.mono (pe_callB hc hg hm hv ha hn hdb (star_cons h2.1) (star_any h2.2)) fun _ _ _ z => rd_biF hb z
theorem se_tyF {q : Bool} {rs : Env → R (List D)} {x : Str} {p pos : Pos} {a : Expr} {as : List Expr} {id : String} {Γ Γ1 : Gm} {ms : List Nat} {mo : Nat} {g : List D → Option D} {r : List V → Hp → VK → Prop} (hb : BiF T.K g r) (hc : CallR X (.type id) r) (hg : Gl X x) (hm : X.mg x = none) (hv : bootBuiltins x = some (.type id)) (hn : x ≠ "__name__") (hdb : (x == ("__debug__" : Str)) = false)
    (ha : SL X T W kp q rs (a :: as) Γ ms Γ1) (h2 : (a :: as).all ns = true) : SE X T W kp q (fun e => (rs e).bind fun xs e1 => R.lift (g xs) e1) (.Call (.Name x p) (a :: as) [] pos) Γ mo Γ1 := by
  simp only [List.all_cons, Bool.and_eq_true] at h2
  exact PE.mono (pe_callTy hc hg hm hv ha hn hdb (star_cons h2.1) (star_any h2.2)) fun _ _ _ z => rd_biF hb z
theorem rfl1 {H : Hp} {d : D} {vs : List V} (h : RFL K H [d] vs) : ∃ v, vs = [v] ∧ RF K H d v := by
  simp only [RFL] at h
  obtain ⟨w, ws, rfl, q, rfl⟩ := h
  exact ⟨w, rfl, q⟩
theorem rfl2 {H : Hp} {d d2 : D} {vs : List V} (h : RFL K H [d, d2] vs) : ∃ v u, vs = [v, u] ∧ RF K H d v ∧ RF K H d2 u := by
  simp only [RFL] at h
  obtain ⟨w, ws, rfl, q, w2, ws2, rfl, q2, rfl⟩ := h
  exact ⟨w, w2, rfl, q, q2⟩
/-- the answers of a built-in, one by one -/
theorem biF_one {g : List D → Option D} {r : List V → Hp → VK → Prop} (h1 : ∀ xs d, g xs = some d → ∃ x, xs = [x]) (h : ∀ H x v d Q, RF K H x v → g [x] = some d → flat d = true ∧ ((∀ w, RF K H d w → Q w H) → r [v] H Q)) : BiF K g r := by
  intro H xs vs d Q rr hg
  obtain ⟨x, rfl⟩ := h1 xs d hg
  obtain ⟨v, rfl, rv⟩ := rfl1 rr
  exact h H x v d Q rv hg
theorem b1_one {f : B1} (hf : f = .len ∨ f = .abs ∨ f = .int ∨ f = .str ∨ f = .sum ∨ f = .all ∨ f = .any) : ∀ xs d, b1 f xs = some d → ∃ x, xs = [x] := by
  intro xs d h
  rcases hf with rfl | rfl | rfl | rfl | rfl | rfl | rfl <;> (match xs, h with
    | [], h => simp [b1] at h
    | [x], h => exact ⟨x, rfl⟩
    | x :: y :: r, h => simp [b1] at h)
theorem bi_len : BiF K (b1 .len) (fun xs H Q => ∃ x n, xs = [x] ∧ LenV K x H n ∧ Q (.int n) H) := biF_one (b1_one (.inl rfl)) fun H x v d Q rv hg => by
  cases x <;> simp only [b1, reduceCtorEq] at hg
  · split at hg <;> simp only [reduceCtorEq, Option.some.injEq] at hg
    rename_i hl
    subst hg
    obtain rfl := rf_str rv
    exact ⟨rfl, fun k => ⟨_, _, rfl, ⟨by rw [txt_len]; exact lim_line hl, rfl⟩, by rw [txt_len]; exact k _ mk_int⟩⟩
  · cases hg
    simp only [RF] at rv
    obtain ⟨a, vs, rfl, q, r⟩ := rv
    exact ⟨rfl, fun k => ⟨_, _, rfl, .inr ⟨vs, q, rfl⟩, by rw [rfl_len r]; exact k _ mk_int⟩⟩
  · cases hg
    simp only [RF] at rv
    obtain ⟨a, vs, rfl, q, r⟩ := rv
    exact ⟨rfl, fun k => ⟨_, _, rfl, .inl ⟨vs, .inl q, rfl⟩, by rw [rfl_len r]; exact k _ mk_int⟩⟩
  · simp only [RF] at rv
theorem bi_abs : BiF K (b1 .abs) (fun xs H Q => ∃ i, xs = [.int i] ∧ Q (.int (if i < 0 then -i else i)) H) := biF_one (b1_one (.inr (.inl rfl))) fun H x v d Q rv hg => by
  cases x <;> simp only [b1, reduceCtorEq, Option.some.injEq] at hg
  subst hg
  obtain rfl := rf_int rv
  exact ⟨rfl, fun k => ⟨_, rfl, k _ mk_int⟩⟩
theorem bi_int : BiF K (b1 .int) (fun xs H Q => (∃ i, xs = [.int i] ∧ Q (.int i) H) ∨ ∃ k, xs = [.bl k] ∧ Q (.int (if k then 1 else 0)) H) := biF_one (b1_one (.inr (.inr (.inl rfl)))) fun H x v d Q rv hg => by
  cases x <;> simp only [b1, reduceCtorEq, Option.some.injEq] at hg
  · subst hg
    obtain rfl := rf_bl rv
    exact ⟨rfl, fun k => .inr ⟨_, rfl, k _ mk_int⟩⟩
  · subst hg
    obtain rfl := rf_int rv
    exact ⟨rfl, fun k => .inl ⟨_, rfl, k _ mk_int⟩⟩
theorem ints_rfl {H : Hp} : ∀ {xs : List D} {vs : List V} {l : List Int}, RFL K H xs vs → ints? xs = some l → vs = l.map V.int
  | [], vs, l, h, e => by simp [ints?] at e; subst e; simp only [RFL] at h; simpa using h
  | x :: xs, vs, l, h, e => by
    simp only [RFL] at h
    obtain ⟨w, ws, rfl, q, r⟩ := h
    cases x <;> simp only [ints?, reduceCtorEq, Option.map_eq_some_iff] at e
    obtain ⟨l', e', rfl⟩ := e
    rw [rf_int q, ints_rfl r e']; rfl
theorem bls_rfl {H : Hp} : ∀ {xs : List D} {vs : List V} {l : List Bool}, RFL K H xs vs → bls? xs = some l → vs = l.map V.bl
  | [], vs, l, h, e => by simp [bls?] at e; subst e; simp only [RFL] at h; simpa using h
  | x :: xs, vs, l, h, e => by
    simp only [RFL] at h
    obtain ⟨w, ws, rfl, q, r⟩ := h
    cases x <;> simp only [bls?, reduceCtorEq, Option.map_eq_some_iff] at e
    obtain ⟨l', e', rfl⟩ := e
    rw [rf_bl q, bls_rfl r e']; rfl
theorem bi_sum : BiF K (b1 .sum) (rSum K) := biF_one (b1_one (by simp)) fun H x v d Q rv hg => by
  cases x <;> simp only [b1, reduceCtorEq, Option.map_eq_some_iff] at hg
  obtain ⟨l, e, rfl⟩ := hg
  simp only [RF] at rv
  obtain ⟨a, vs, rfl, q, r⟩ := rv
  exact ⟨rfl, fun k => ⟨a, l, rfl, by rw [← ints_rfl r e]; exact .inl q, k _ mk_int⟩⟩
theorem bi_all : BiF K (b1 .all) (rAll K) := biF_one (b1_one (by simp)) fun H x v d Q rv hg => by
  cases x <;> simp only [b1, reduceCtorEq, Option.map_eq_some_iff] at hg
  obtain ⟨l, e, rfl⟩ := hg
  simp only [RF] at rv
  obtain ⟨a, vs, rfl, q, r⟩ := rv
  exact ⟨rfl, fun k => ⟨a, l, rfl, by rw [← bls_rfl r e]; exact .inl q, k _ mk_bl⟩⟩
theorem bi_any : BiF K (b1 .any) (rAny K) := biF_one (b1_one (by simp)) fun H x v d Q rv hg => by
  cases x <;> simp only [b1, reduceCtorEq, Option.map_eq_some_iff] at hg
  obtain ⟨l, e, rfl⟩ := hg
  simp only [RF] at rv
  obtain ⟨a, vs, rfl, q, r⟩ := rv
  exact ⟨rfl, fun k => ⟨a, l, rfl, by rw [← bls_rfl r e]; exact .inl q, k _ mk_bl⟩⟩
theorem bi_max2 : BiF K (fun xs => match xs with | [.int i, .int j] => some (.int (if j > i then j else i)) | _ => none) (fun xs H Q => ∃ i j, xs = [.int i, .int j] ∧ Q (.int (if j > i then j else i)) H) := by
  intro H xs vs d Q rr hg
  dsimp only at hg
  split at hg <;> simp only [reduceCtorEq, Option.some.injEq] at hg
  subst hg
  obtain ⟨v, u, rfl, r1, r2⟩ := rfl2 rr
  obtain rfl := rf_int r1
  obtain rfl := rf_int r2
  exact ⟨rfl, fun k => ⟨_, _, rfl, k _ mk_int⟩⟩
theorem bi_min2 : BiF K (fun xs => match xs with | [.int i, .int j] => some (.int (if j < i then j else i)) | _ => none) (fun xs H Q => ∃ i j, xs = [.int i, .int j] ∧ Q (.int (if j < i then j else i)) H) := by
  intro H xs vs d Q rr hg
  dsimp only at hg
  split at hg <;> simp only [reduceCtorEq, Option.some.injEq] at hg
  subst hg
  obtain ⟨v, u, rfl, r1, r2⟩ := rfl2 rr
  obtain rfl := rf_int r1
  obtain rfl := rf_int r2
  exact ⟨rfl, fun k => ⟨_, _, rfl, k _ mk_int⟩⟩
theorem maxL_spec {l : List Int} {m : Int} (h : maxL l = some m) : 0 < l.length ∧ ∀ m', m' ∈ l → (∀ y, y ∈ l → y ≤ m') → m' = m := by
  cases l with
  | nil => cases h
  | cons x r =>
    simp only [maxL, Option.some.injEq] at h
    refine ⟨Nat.succ_pos _, fun m' hm hy => ?_⟩
    have key : ∀ (r : List Int) (x : Int), (r.foldl (fun m y => if m < y then y else m) x ∈ x :: r) ∧ ∀ y ∈ x :: r, y ≤ r.foldl (fun m y => if m < y then y else m) x := by
      intro r
      induction r with
      | nil => intro x; simp
      | cons a r ih =>
        intro x
        simp only [List.foldl_cons]
        obtain ⟨h1, h2⟩ := ih (if x < a then a else x)
        constructor
        · rcases List.mem_cons.mp h1 with h | h
          · rw [h]; split <;> simp
          · simp [h]
        · intro y hy
          have h3 := h2 _ List.mem_cons_self
          generalize hf : List.foldl _ _ r = m0 at h2 h3 ⊢
          clear hf
          rcases List.mem_cons.mp hy with rfl | hy
          · split at h3 <;> omega
          · rcases List.mem_cons.mp hy with rfl | hy
            · split at h3 <;> omega
            · exact h2 y (List.mem_cons_of_mem _ hy)
    obtain ⟨k1, k2⟩ := key r x
    rw [h] at k1 k2
    have := k2 m' hm
    have := hy m k1
    omega
theorem minL_spec {l : List Int} {m : Int} (h : minL l = some m) : 0 < l.length ∧ ∀ m', m' ∈ l → (∀ y, y ∈ l → m' ≤ y) → m' = m := by
  cases l with
  | nil => cases h
  | cons x r =>
    simp only [minL, Option.some.injEq] at h
    refine ⟨Nat.succ_pos _, fun m' hm hy => ?_⟩
    have key : ∀ (r : List Int) (x : Int), (r.foldl (fun m y => if y < m then y else m) x ∈ x :: r) ∧ ∀ y ∈ x :: r, r.foldl (fun m y => if y < m then y else m) x ≤ y := by
      intro r
      induction r with
      | nil => intro x; simp
      | cons a r ih =>
        intro x
        simp only [List.foldl_cons]
        obtain ⟨h1, h2⟩ := ih (if a < x then a else x)
        constructor
        · rcases List.mem_cons.mp h1 with h | h
          · rw [h]; split <;> simp
          · simp [h]
        · intro y hy
          have h3 := h2 _ List.mem_cons_self
          generalize hf : List.foldl _ _ r = m0 at h2 h3 ⊢
          clear hf
          rcases List.mem_cons.mp hy with rfl | hy
          · split at h3 <;> omega
          · rcases List.mem_cons.mp hy with rfl | hy
            · split at h3 <;> omega
            · exact h2 y (List.mem_cons_of_mem _ hy)
    obtain ⟨k1, k2⟩ := key r x
    rw [h] at k1 k2
    have := k2 m' hm
    have := hy m k1
    omega
theorem bi_maxL : BiF K (fun xs => match xs with | [.lst xs] => ((ints? xs).bind maxL).map .int | _ => none) (rMax K) := by
  intro H xs vs d Q rr hg
  dsimp only at hg
  split at hg <;> simp only [reduceCtorEq, Option.map_eq_some_iff, Option.bind_eq_some_iff] at hg
  obtain ⟨m, ⟨l, e, em⟩, rfl⟩ := hg
  obtain ⟨v, rfl, rv⟩ := rfl1 rr
  simp only [RF] at rv
  obtain ⟨a, vs, rfl, q, r⟩ := rv
  obtain ⟨h1, h2⟩ := maxL_spec em
  exact ⟨rfl, fun k => ⟨a, l, rfl, by rw [← ints_rfl r e]; exact .inl q, h1, fun m' hm hy => by rw [h2 m' hm hy]; exact k _ mk_int⟩⟩
theorem bi_minL : BiF K (fun xs => match xs with | [.lst xs] => ((ints? xs).bind minL).map .int | _ => none) (rMin K) := by
  intro H xs vs d Q rr hg
  dsimp only at hg
  split at hg <;> simp only [reduceCtorEq, Option.map_eq_some_iff, Option.bind_eq_some_iff] at hg
  obtain ⟨m, ⟨l, e, em⟩, rfl⟩ := hg
  obtain ⟨v, rfl, rv⟩ := rfl1 rr
  simp only [RF] at rv
  obtain ⟨a, vs, rfl, q, r⟩ := rv
  obtain ⟨h1, h2⟩ := minL_spec em
  exact ⟨rfl, fun k => ⟨a, l, rfl, by rw [← ints_rfl r e]; exact .inl q, h1, fun m' hm hy => by rw [h2 m' hm hy]; exact k _ mk_int⟩⟩
/-! ### list(x), tuple(x) -/
theorem one_rf {F H : Hp} {x : D} {vs : List V} {f : AS} (h : ValL T.K F H [1] [x] vs f) : ∃ v, vs = [v] ∧ RF T.K F x v := by
  obtain ⟨w1, ws, g1, g2, rfl, v1, v2, _, rfl⟩ := h
  obtain ⟨rfl, _⟩ := v2
  unfold Val at v1
  rw [if_neg (by decide)] at v1
  exact ⟨w1, rfl, (RO.to1 (Nat.le_refl 1) v1).1⟩
def listD : List D → Option D
  | [.lst xs] => some (.lst xs)
  | [.tup xs] => some (.lst xs)
  | _ => none
theorem se_list {q : Bool} {ra : Env → R D} {p pos : Pos} {a : Expr} {Γ Γ1 : Gm} {m : Nat} (hK : X.K = T.K) (hg : Gl X "list") (hm : X.mg "list" = none) (ha : SE X T W kp q ra a Γ m Γ1) (hmo : own m = true) (h2 : ns a = true) :
    SE X T W kp q (fun e => ((ra e).bind fun x e1 => .ok [x] e1).bind fun xs e1 => R.lift (listD xs) e1) (.Call (.Name "list" p) [a] [] pos) Γ 2 Γ1 := by
  have hl := sl_cons (q2 := true) (se_weak ha (leG.refl _) (m2 := 1) (.inr ⟨Nat.le_refl 1, own_pos hmo⟩)) (sl_nil (Γ := Γ1)) (.inr rfl) (star_cons h2)
  rw [Bool.and_true] at hl
  simp only [R.bind_ok] at hl
  refine PE.mono (pe_callTy call_list_of hg hm (by decide +kernel) hl (by decide) (by decide) (star_cons h2) (star_any rfl)) fun σ H Q z => rd_many (rr := fun vs H Q => _) z fun F H' xs vs f d s _ val hgd k => ?_
  match xs, val, hgd with
  | [x], val, hgd =>
    obtain ⟨v, rfl, r⟩ := one_rf val
    cases x <;> simp only [listD, reduceCtorEq, Option.some.injEq] at hgd
    · subst hgd
      simp only [RF] at r
      obtain ⟨a, vs, rfl, qq, r⟩ := r
      exact ⟨a, vs, rfl, .inr (hK ▸ SqT.sub s qq), fun l np => new_shared (tup := false) s r np k⟩
    · subst hgd
      simp only [RF] at r
      obtain ⟨a, vs, rfl, qq, r⟩ := r
      exact ⟨a, vs, rfl, .inl (.inl (Rd.sub s qq)), fun l np => new_shared (tup := false) s r np k⟩
  | [], val, hgd => simp [listD] at hgd
  | x :: y :: r, val, hgd => simp [listD] at hgd
def tupleD : List D → Option D
  | [.lst xs] => some (.tup xs)
  | [.tup xs] => some (.tup xs)
  | _ => none
theorem se_tuple {q : Bool} {ra : Env → R D} {p pos : Pos} {a : Expr} {Γ Γ1 : Gm} {m : Nat} (hK : X.K = T.K) (hg : Gl X "tuple") (hm : X.mg "tuple" = none) (ha : SE X T W kp q ra a Γ m Γ1) (hmo : own m = true) (h2 : ns a = true) :
    SE X T W kp q (fun e => ((ra e).bind fun x e1 => .ok [x] e1).bind fun xs e1 => R.lift (tupleD xs) e1) (.Call (.Name "tuple" p) [a] [] pos) Γ 1 Γ1 := by
  have hl := sl_cons (q2 := true) (se_weak ha (leG.refl _) (m2 := 1) (.inr ⟨Nat.le_refl 1, own_pos hmo⟩)) (sl_nil (Γ := Γ1)) (.inr rfl) (star_cons h2)
  rw [Bool.and_true] at hl
  simp only [R.bind_ok] at hl
  refine PE.mono (pe_callTy call_tuple_of hg hm (by decide +kernel) hl (by decide) (by decide) (star_cons h2) (star_any rfl)) fun σ H Q z => rd_many (rr := fun vs H Q => _) z fun F H' xs vs f d s _ val hgd k => ?_
  match xs, val, hgd with
  | [x], val, hgd =>
    obtain ⟨v, rfl, r⟩ := one_rf val
    cases x <;> simp only [tupleD, reduceCtorEq, Option.some.injEq] at hgd
    · rename_i ys
      subst hgd
      have r' := r
      simp only [RF] at r
      obtain ⟨a, vs, rfl, qq, r⟩ := r
      exact ⟨a, vs, rfl, .inr ⟨hK ▸ SqT.sub s qq, k F H' _ emp s (Sub.refl F) (Sub.refl H') (fun a z z' => (z' z).elim) (fun a z => z.elim) (Val.of (by decide) (RO.of1 (Nat.le_refl 1) r'))⟩⟩
    · subst hgd
      simp only [RF] at r
      obtain ⟨a, vs, rfl, qq, r⟩ := r
      exact ⟨a, vs, rfl, .inl ⟨.inl (Rd.sub s qq), fun l np => new_frozen (tup := true) s r np k⟩⟩
  | [], val, hgd => simp [tupleD] at hgd
  | x :: y :: r, val, hgd => simp [tupleD] at hgd
end
end Z

/-! Z17: isinstance, globals, and / or, calls. -/
namespace Z
open PySem PySem.Spec L2 PyProof.Rows
/-! ### the promise of a def -/
def lvAt : List Nat → List Nat → Nat → Nat
  | i :: is, l :: ls, j => if j = i then l else lvAt is ls j
  | _, _, _ => 1
/-- the levels of the arguments -/
def Fn.alv (fn : Fn) : List Nat := (List.range fn.np).map (lvAt fn.io fn.il)
/-- the changed arguments, at their places -/
def OutL (K : PySem.W.Frag) (F H : Hp) : List Nat → List Nat → List D → List V → AS → Prop
  | i :: is, l :: ls, d :: ds, vs, f => ∃ v f1 f2, vs[i]? = some v ∧ RO K F H d l v f1 ∧ OutL K F H is ls ds vs f2 ∧ Dis f1 f2 ∧ f = fun b => f1 b ∨ f2 b
  | [], [], [], _, f => f = emp
  | _, _, _, _, _ => False
def spF (T : Tb) (n f : Nat) : Sp := fun vs H Q E => ∃ fn xs F g o, T.P.fns[f]? = some fn ∧ vs.length = fn.np ∧ Sub F H ∧ ValL T.K F H fn.alv xs vs g ∧ match run T.P n f xs o with
  | .ok r outs _ => ∀ F' H' v f' fo, Sub F' H' → Ch g g F H F' H' → RO T.K F' H' r fn.rl v f' → OutL T.K F' H' fn.io fn.il outs vs fo → Dis f' fo → (∀ a, f' a ∨ fo a → g a ∨ H a = none) → Q v H'
  | .exc x _ => ∀ F' H' cls dx, Sub F' H' → Ch g g F H F' H' → Exc T F' H' x cls dx → E cls dx H'
  | .bad => False
theorem spF_len {T : Tb} {n f : Nat} {fn : Fn} (hf : T.P.fns[f]? = some fn) : ∀ vs H Q E, spF T n f vs H Q E → vs.length = fn.np := by
  rintro vs H Q E ⟨fn', xs, F, g, o, e, hl, _⟩
  rw [hf] at e; cases e
  exact hl
/-- a def of the text, as a callee -/
structure Callee (T : Tb) (n f : Nat) (fn : Fn) (x : Str) (X : Cx) : Prop where
  ex : ∃ a fd ps, ps.length = fn.np ∧ FnOk X.prog X.w X.K X.mg X.base (L2.CX X.prog X.w) (n + 2) a fd ps (spF T n f) ∧ X.mg x = some (.ref a) ∧ PySem.W.keepIn X.K (.ref a) = true ∧ Binds X.K fd ps []
section
variable {X : Cx} {T : Tb} {W : WX} {kp : List Nat} {K : PySem.W.Frag}
theorem rol_to1 {F H : Hp} : ∀ {xs : List D} {vs : List V} {f : AS}, ROL K F H xs 1 vs f → RFL K F xs vs ∧ f = emp
  | [], vs, f, h => by simp only [ROL] at h; simp only [RFL]; exact h
  | x :: xs, vs, f, h => by
    simp only [ROL] at h
    obtain ⟨w, ws, g1, g2, rfl, q, r, _, rfl⟩ := h
    obtain ⟨q1, rfl⟩ := RO.to1 (Nat.le_refl 1) q
    obtain ⟨r1, rfl⟩ := rol_to1 r
    simp only [RFL]
    exact ⟨⟨w, ws, rfl, q1, r1⟩, by funext a; simp [emp]⟩
/-- values of one's own, all shared from here on -/
theorem vall_share {F H : Hp} {ms : List Nat} {xs : List D} {vs : List V} {f : AS} (s : Sub F H) (h : ValL K F H ms xs vs f) (hm : ms.all own = true) : RFL K (frz F H f) xs vs := by
  obtain ⟨g, f', hs, hd, r⟩ := vall_rol (Nat.le_refl 1) s h fun m hm' => own_pos (List.all_eq_true.mp hm m hm')
  obtain ⟨r1, rfl⟩ := rol_to1 r
  have : g = f := by funext a; exact propext ⟨fun z => (hs a).mpr (.inl z), fun z => ((hs a).mp z).resolve_right fun z => z⟩
  subst this
  exact r1
theorem vall_of1 {F H : Hp} : ∀ {xs : List D} {vs : List V} (n : Nat), RFL K F xs vs → xs.length = n → ValL K F H (List.replicate n 1) xs vs emp
  | [], vs, n, h, hl => by simp at hl; subst hl; simp only [RFL] at h; simp only [List.replicate, ValL]; exact ⟨h, trivial⟩
  | x :: xs, vs, 0, h, hl => by simp at hl
  | x :: xs, vs, n + 1, h, hl => by
    simp only [RFL] at h
    obtain ⟨w, ws, rfl, q, r⟩ := h
    simp only [List.replicate_succ, ValL]
    exact ⟨w, ws, emp, emp, rfl, Val.of (by decide) (RO.of1 (Nat.le_refl 1) q), vall_of1 n r (by simpa using hl), fun _ z => z.elim, by funext a; simp [emp]⟩
theorem alv_io0 {fn : Fn} (h : fn.io = []) : fn.alv = List.replicate fn.np 1 := by
  unfold Fn.alv
  rw [h]
  have : lvAt [] fn.il = fun _ => 1 := by funext j; unfold lvAt; rfl
  rw [this]
  refine List.ext_getElem (by simp) fun i h1 h2 => by simp
theorem putBack_io0 : ∀ (as : List C) (e : Env), putBack as [] e = e
  | [], e => by simp [putBack]
  | a :: as, e => by cases a <;> simp only [putBack] <;> exact putBack_io0 as e
theorem vall_len2 {F H : Hp} : ∀ {ms : List Nat} {xs : List D} {vs : List V} {f : AS}, ValL K F H ms xs vs f → xs.length = ms.length
  | [], [], _, _, h => rfl
  | m :: ms, x :: xs, _, _, h => by
    simp only [ValL] at h
    obtain ⟨w, ws, g1, g2, e, h1, h2, d, rfl⟩ := h
    simp [vall_len2 h2]
  | [], _ :: _, _, _, h => by simp only [ValL] at h
  | _ :: _, [], _, _, h => by simp only [ValL] at h
/-- every local, shared -/
theorem st_share {Γ : Gm} {e : List D} {σ : L2.St} {F H : Hp} {fp : Nat → AS} {i : Nat} (s : St K Γ e σ F H fp) (hi : 1 ≤ lvOf Γ i) : ∃ d v, e[i]? = some d ∧ σ[i]? = some (some v) ∧ RF K (frz F H (Own fp)) d v := by
  obtain ⟨d, v, e1, e2, r⟩ := s.at_ i hi
  refine ⟨d, v, e1, e2, ?_⟩
  obtain ⟨g, f', hs, _, r'⟩ := RO.weak s.sub d _ 1 v _ (Nat.le_refl 1) hi r
  obtain ⟨r1, _⟩ := RO.to1 (Nat.le_refl 1) r'
  refine RF.sub (fun a o ea => ?_) _ _ r1
  by_cases hg : g a
  · rw [frz_in hg] at ea
    rw [frz_in (show Own fp a from ⟨i, (hs a).mpr (.inl hg)⟩)]; exact ea
  · rw [frz_out hg] at ea
    by_cases ho : Own fp a
    · rw [frz_in ho]; exact s.sub a o ea
    · rw [frz_out ho]; exact ea
/-- behind a call that changes no argument -/
theorem rd_call {q : Bool} {rs : Env → R (List D)} {as : List C} {Γ Γ1 : Gm} {ms : List Nat} {n f : Nat} {fn : Fn} {σ : L2.St} {H : Hp} {Q : VK} (hf : T.P.fns[f]? = some fn) (hio : fn.io = []) (hm : ms.all own = true) (hl : ms.length = fn.np) (hrl : 1 ≤ fn.rl) (hkp : ∀ i ∈ kp, 1 ≤ lvOf Γ1 i)
    (z : rdE T W kp q (fun e => (rs e).bind fun xs e1 => callR (run T.P n) f as xs e1) Γ fn.rl Γ1 σ H Q) :
    tCallS (spF T n f) (WE W) (rdL T W kp q rs Γ ms Γ1) σ H Q := by
  obtain ⟨e, F, fp, s, z⟩ := z
  refine ⟨e, F, fp, s, ?_⟩
  dsimp only at z
  cases e1 : rs e with
  | bad => rw [e1] at z; exact z
  | exc y e' => rw [e1] at z; exact z
  | ok xs e' =>
    rw [e1] at z
    simp only [R.bind_ok] at z
    intro F1 H1 fp1 vs f1 g1 val
    have r1 := vall_share g1.st.sub val hm
    have hc := val.cells
    have hxl : xs.length = fn.np := by rw [← hl]; exact (vall_len2 val)
    refine ⟨fn, xs, frz F1 H1 f1, emp, e'.o, hf, by rw [vall_len val]; exact hxl, frz_le g1.st.sub, ?_, ?_⟩
    · rw [alv_io0 hio]
      exact vall_of1 _ r1 hxl
    · have sF : Sub F1 (frz F1 H1 f1) := frz_sub fun a z => (hc a z).1
      have c1 : Ch (Own fp) (Wr q fp) F H (frz F1 H1 f1) H1 := ⟨g1.ch.sub.trans sF, g1.ch.keep, fun a z z' => by
        by_cases ha : f1 a
        · exact g1.grow a (.inr ha)
        · rw [frz_out ha] at z'; exact g1.ch.new a z z'⟩
      have st1 : St T.K Γ1 e'.s σ (frz F1 H1 f1) H1 fp1 := ⟨frz_le g1.st.sub, g1.st.lG, g1.st.le, fun i hi => by
        obtain ⟨d2, v2, e3, e4, r2⟩ := g1.st.at_ i hi
        exact ⟨d2, v2, e3, e4, RO.kept d2 _ v2 _ (frz_kept (fun a ha => (hc a ha).1) fun a z1 z2 => g1.dis a z2 ⟨i, z1⟩) r2⟩, g1.st.dis, g1.st.dead⟩
      unfold callR at z
      -- what is kept of a state behind the callee
      have after : ∀ F' H', Sub F' H' → Ch emp emp (frz F1 H1 f1) H1 F' H' → St T.K Γ1 e'.s σ F' H' fp1 := fun F' H' sub' ch => ⟨sub', st1.lG, st1.le, fun i hi => by
        obtain ⟨d2, v2, e3, e4, r2⟩ := st1.at_ i hi
        refine ⟨d2, v2, e3, e4, RO.kept d2 _ v2 _ ⟨ch.sub, fun a ha => ?_, fun a ha hn => ?_⟩ r2⟩
        · have := (st1.cells ⟨i, ha⟩).2
          cases eh : H1 a with
          | none => exact absurd eh this
          | some z => exact ch.keep a z eh fun z => z
        · cases ef : F' a with
          | none => rfl
          | some z => exact ((ch.new a hn (by rw [ef]; simp)).elim (fun z => z) fun z => (st1.cells ⟨i, ha⟩).2 z).elim, st1.dis, st1.dead⟩
      cases er : run T.P n f xs e'.o with
      | bad => rw [er] at z; exact z
      | exc x o =>
        rw [er] at z
        dsimp only at z ⊢
        intro F' H' cls dx sub' ch ex
        have st2 := after F' H' sub' ch
        have hown : ∀ a, Own fp1 a → F' a = none ∧ H' a ≠ none := fun a ha => st2.cells ha
        have sF2 : Sub F' (frz F' H' (Own fp1)) := frz_sub fun a z => (hown a z).1
        refine z (frz F' H' (Own fp1)) H' cls dx (frz_le sub') st1.le ?_ (fun i hi => st_share st2 (hkp i hi)) ?_
        · refine Ch.trans (c1.mono (fun _ z => z) fun _ z => z.2) (fun _ z => z) (fun a z => g1.grow a (.inl z)) (?_ : Ch (Own fp1) (Own fp1) _ H1 _ H') (fun _ z => z) fun _ _ z => z
          refine ⟨ch.sub.trans sF2, fun a o ea _ => ch.keep a o ea fun z => z, fun a z z' => ?_⟩
          by_cases ha : Own fp1 a
          · exact .inl ha
          · rw [frz_out ha] at z'
            exact (ch.new a z z').imp (fun z => z.elim) id
        · cases x <;> try exact ex.elim
          obtain ⟨h1, h0, a, vs2, h2, h3, h4, h5⟩ := ex
          exact ⟨h1, h0, a, vs2, h2, h3, h4, RFL.sub sF2 _ _ h5⟩
      | ok r outs o =>
        rw [er] at z
        dsimp only at z ⊢
        intro F' H' v f' fo sub' ch ro ol dd gr
        have st2 := after F' H' sub' ch
        have houts : outs = [] := by
          rw [hio] at ol
          cases hil : fn.il with
          | nil =>
            rw [hil] at ol
            cases outs with
            | nil => rfl
            | cons d ds => exact ol.elim
          | cons l ls => rw [hil] at ol; exact ol.elim
        subst houts
        rw [putBack_io0] at z
        have grf : ∀ a, f' a → H1 a = none := fun a z => (gr a (.inl z)).resolve_left fun z => z
        refine z F' H' fp1 v f' ⟨g1.same, st2, fun a z1 z2 => (st1.cells z2).2 (grf a z1), ?_, fun a z => ?_⟩ (Val.of (by omega) ro)
        · exact Ch.trans c1 (fun _ z => z.2) (fun a z => g1.grow a (.inl z)) (ch.mono (fun _ z => z.elim) (fun _ z => z.elim) : Ch (Own fp1) emp _ H1 F' H') (fun _ z => z.elim) fun _ z => z.elim
        · rcases z with z | z
          · exact g1.grow a (.inl z)
          · exact Grow.none (f := emp) (g := emp) g1.ch (fun _ z => z.2) (grf a z)
theorem se_call {q : Bool} {rs : Env → R (List D)} {as : List C} {x : Str} {p pos : Pos} {a : Expr} {es : List Expr} {Γ Γ1 : Gm} {ms : List Nat} {n f : Nat} {fn : Fn} (hf : T.P.fns[f]? = some fn) (hio : fn.io = []) (hm : ms.all own = true) (hl : ms.length = fn.np) (hrl : 1 ≤ fn.rl) (hkp : ∀ i ∈ kp, 1 ≤ lvOf Γ1 i)
    (tk : Takes X W) (hr : Room (n + 2) X.A) (hg : Gl X x) (c : Callee T n f fn x X) (ha : SL X T W kp q rs (a :: es) Γ ms Γ1) (h2 : (a :: es).all ns = true) (hdb : (x == ("__debug__" : Str)) = false) :
    SE X T W kp q (fun e => (rs e).bind fun xs e1 => callR (run T.P n) f as xs e1) (.Call (.Name x p) (a :: es) [] pos) Γ fn.rl Γ1 := by
  obtain ⟨ad, fd, ps, hps, F, hmg, hk, hb⟩ := c.ex
  simp only [List.all_cons, Bool.and_eq_true] at h2
  exact PE.mono (pe_callS F hr hg hmg hk hb (fun σ => passAt tk σ) ha hdb (star_cons h2.1) (star_any h2.2)) fun _ _ _ z => rd_call hf hio hm hl hrl hkp z
end
end Z

/-! Z18: isinstance, globals, and / or. -/
namespace Z
open PySem PySem.Spec L2 PyProof.Rows
section
variable {X : Cx} {T : Tb} {W : WX} {kp : List Nat} {K : PySem.W.Frag}
/-! ### isinstance -/
def isTy : B1 → Option String
  | .isInt => some "int"
  | .isBool => some "bool"
  | .isStr => some "str"
  | .isList => some "list"
  | .isTuple => some "tuple"
  | _ => none
def tyN : D → Option String
  | .non => some "NoneType"
  | .bl _ => some "bool"
  | .int _ => some "int"
  | .str _ => some "str"
  | .lst _ => some "list"
  | .tup _ => some "tuple"
  | _ => none
theorem ty_of {H : Hp} {d : D} {v : V} {t : String} (h : RF K H d v) (e : tyN d = some t) : TyX K H v (.type t) := by
  cases d <;> simp only [tyN, reduceCtorEq, Option.some.injEq] at e <;> subst e <;> simp only [RF] at h
  · subst h; exact .base .non
  · subst h; exact .base (.bl _)
  · subst h; exact .base (.int _)
  · subst h; exact .base (.str _)
  · obtain ⟨a, vs, rfl, q, _⟩ := h
    rcases q with (q | ⟨o, q⟩) | ⟨o, its, n, q, c, _⟩
    · exact .base (.tup q)
    · exact .fTuple q
    · exact .kTuple q c
  · obtain ⟨a, vs, rfl, q, _⟩ := h
    rcases q with q | ⟨o, q⟩
    · exact .base (.lst q)
    · exact .base (.frz q)
theorem isi_spec {f : B1} {t : String} {x d : D} (hf : isTy f = some t) (h : b1 f [x] = some d) : ∃ u b, tyN x = some u ∧ kitB u t = some b ∧ d = .bl b := by
  cases f <;> simp only [isTy, reduceCtorEq, Option.some.injEq] at hf <;> subst hf <;> cases x <;> simp only [b1, reduceCtorEq, Option.map_some, Option.map_none, Option.some.injEq] at h <;> subst h <;> exact ⟨_, _, rfl, by decide +kernel, rfl⟩
theorem se_isi {q : Bool} {ra : Env → R D} {p p2 pos : Pos} {a : Expr} {Γ Γ1 : Gm} {m mo : Nat} {f : B1} {t : String} {ts : Str} (hK : X.K = T.K) (hf : isTy f = some t) (hg : Gl X "isinstance") (hm : X.mg "isinstance" = none) (hg2 : Gl X ts) (hm2 : X.mg ts = none) (hv : bootBuiltins ts = some (.type t)) (hn : ts ≠ "__name__") (hdb : (ts == ("__debug__" : Str)) = false) (ha : SE X T W kp q ra a Γ m Γ1) (h2 : ns a = true) :
    SE X T W kp q (fun e => ((ra e).bind fun x e1 => .ok [x] e1).bind fun xs e1 => R.lift (b1 f xs) e1) (.Call (.Name "isinstance" p) [a, .Name ts p2] [] pos) Γ mo Γ1 := by
  refine PE.mono (pe_callB call_isi hg hm (by decide +kernel) (pa_cons ha (pa_cons (pe_bltn (v := .ty t) hg2 hm2 hv rfl hn hdb) pa_nil) (star_cons h2)) (by decide) (by decide) (star_cons h2) (star_any rfl)) fun σ H Q z => ?_
  show rdE T W kp q ra Γ m Γ1 σ H fun x H1 => rIsi X.K [x, .ty t] H1 Q
  have z' : rdE T W kp q (fun e => (ra e).bind fun x e1 => R.lift (b1 f [x]) e1) Γ mo Γ1 σ H Q := by
    obtain ⟨e, F, fp, s, z⟩ := z
    refine ⟨e, F, fp, s, ?_⟩
    dsimp only at z ⊢
    cases e1 : ra e <;> (rw [e1] at z; exact z)
  refine rd_one (rr := fun x H1 Q => rIsi X.K [x, .ty t] H1 Q) z' fun F H' x v f d s val hgd k => ?_
  obtain ⟨u, b, e1, e2, rfl⟩ := isi_spec hf hgd
  exact ⟨v, .ty t, _, _, b, rfl, .ty t, hK ▸ ty_of (val.rf s) e1, kit_ty e2, keep_flat s rfl k _ mk_bl⟩
/-! ### globals -/
/-- a constant of the module -/
structure GlOk (T : Tb) (x : Str) (d : D) (X : Cx) : Prop where
  ex : ∃ v u, X.mg x = some u ∧ RelV v u ∧ ∀ F, RF T.K F d v
theorem se_gl {q : Bool} {x : Str} {p : Pos} {d : D} {Γ : Gm} {o : Option D} (hg : Gl X x) (g : GlOk T x d X) (hdb : (x == ("__debug__" : Str)) = false) (ho : o = some d) : SE X T W kp q (fun e => R.lift o e) (.Name x p) Γ (if flat d then 100 else 1) Γ := by
  subst ho
  obtain ⟨v, u, h1, h2, h3⟩ := g.ex
  refine PE.mono (pe_glob hg h1 h2 hdb) fun σ H Q h => ?_
  obtain ⟨e, F, fp, s, h⟩ := h
  refine h F H fp v emp (Go.refl s) ?_
  cases hf : flat d with
  | true => simp only [if_true]; exact Val.flat hf (h3 H)
  | false =>
    simp only [Bool.false_eq_true, if_false]
    exact Val.of (by decide) (RO.of1 (Nat.le_refl 1) (h3 F))
/-! ### and, or -/
theorem se_and1 {op : BoolOp} {q : Bool} {ra : Env → R D} {a : Expr} {pos : Pos} {Γ Γ1 : Gm} {m : Nat} (h : SE X T W kp q ra a Γ m Γ1) : SE X T W kp q ra (.BoolOp op [a] pos) Γ m Γ1 := pe_one h
theorem se_and {q1 q2 : Bool} {ra rb : Env → R D} {a b : Expr} {rest : List Expr} {pos : Pos} {Γ Γ1 Γ2 Γ3 : Gm} {m n mo : Nat} (hK : X.K = T.K) (ha : SE X T W kp q1 ra a Γ m Γ1) (hb : SE X T W kp q2 rb (.BoolOp .And (b :: rest) pos) Γ1 n Γ2) (h1 : leG Γ3 Γ1) (h2 : leG Γ3 Γ2) (hm : mo = 0 ∨ (1 ≤ mo ∧ mo ≤ m)) (hn : mo = 0 ∨ (1 ≤ mo ∧ mo ≤ n)) :
    SE X T W kp (q1 && q2) (andD ra rb) (.BoolOp .And (a :: b :: rest) pos) Γ mo Γ3 :=
  PE.mono (pe_andT ha hb) fun σ H Q z => by rw [hK]; exact rd_and h1 h2 hm hn σ H Q z
theorem se_or {q1 q2 : Bool} {ra rb : Env → R D} {a b : Expr} {rest : List Expr} {pos : Pos} {Γ Γ1 Γ2 Γ3 : Gm} {m n mo : Nat} (hK : X.K = T.K) (ha : SE X T W kp q1 ra a Γ m Γ1) (hb : SE X T W kp q2 rb (.BoolOp .Or (b :: rest) pos) Γ1 n Γ2) (h1 : leG Γ3 Γ1) (h2 : leG Γ3 Γ2) (hm : mo = 0 ∨ (1 ≤ mo ∧ mo ≤ m)) (hn : mo = 0 ∨ (1 ≤ mo ∧ mo ≤ n)) :
    SE X T W kp (q1 && q2) (orD ra rb) (.BoolOp .Or (a :: b :: rest) pos) Γ mo Γ3 :=
  PE.mono (pe_orT ha hb) fun σ H Q z => by rw [hK]; exact rd_or h1 h2 hm hn σ H Q z
theorem sw_and1 {q : Bool} {ra : Env → R D} {a : Expr} {pos : Pos} {Γ Γ1 : Gm} (h : ST X T W kp q ra a Γ Γ1) : SW X T W kp q ra (.BoolOp .And [a] pos) Γ Γ1 := pw_and1 h
theorem sw_or1 {q : Bool} {ra : Env → R D} {a : Expr} {pos : Pos} {Γ Γ1 : Gm} (h : ST X T W kp q ra a Γ Γ1) : SW X T W kp q ra (.BoolOp .Or [a] pos) Γ Γ1 := pw_or1 h
theorem sw_and {q1 q2 : Bool} {ra rb : Env → R D} {a b : Expr} {rest : List Expr} {pos : Pos} {Γ Γ1 Γ2 Γ3 : Gm} (ha : ST X T W kp q1 ra a Γ Γ1) (hb : SW X T W kp q2 rb (.BoolOp .And (b :: rest) pos) Γ1 Γ2) (h1 : leG Γ3 Γ1) (h2 : leG Γ3 Γ2) : SW X T W kp (q1 && q2) (andD ra rb) (.BoolOp .And (a :: b :: rest) pos) Γ Γ3 :=
  PW.mono (pw_and ha hb) (rdT_and h1 h2)
theorem sw_or {q1 q2 : Bool} {ra rb : Env → R D} {a b : Expr} {rest : List Expr} {pos : Pos} {Γ Γ1 Γ2 Γ3 : Gm} (ha : ST X T W kp q1 ra a Γ Γ1) (hb : SW X T W kp q2 rb (.BoolOp .Or (b :: rest) pos) Γ1 Γ2) (h1 : leG Γ3 Γ1) (h2 : leG Γ3 Γ2) : SW X T W kp (q1 && q2) (orD ra rb) (.BoolOp .Or (a :: b :: rest) pos) Γ Γ3 :=
  PW.mono (pw_or ha hb) (rdT_or h1 h2)
theorem sw_st {q : Bool} {ra : Env → R D} {a : Expr} {Γ Γ1 : Gm} (h : SW X T W kp q ra a Γ Γ1) : ST X T W kp q ra a Γ Γ1 := h.pt
/-- a test that is a value's truth -/
def plainT : Expr → Bool
  | .UnaryOp .Not _ _ => false
  | .BoolOp .. => false
  | .IfExp .. => false
  | .Compare .. => false
  | _ => true
theorem plainT_ok {x : Expr} {env : PySem.Env} (h : plainT x = true) : ∀ whole, isTrue x env whole = (do let v ← whole; standAt x.pos; holding [v] (truthy v)) := by
  intro whole
  cases x with
  | UnaryOp op a p => cases op <;> first | rfl | (simp [plainT] at h)
  | BoolOp => simp [plainT] at h
  | IfExp => simp [plainT] at h
  | Compare => simp [plainT] at h
  | _ => rfl
/-! ### calls with arguments that are looked at only -/
/-- such an argument is the local's value -/
def BoL (σ : L2.St) (es : List D) : List C → List D → List V → Prop
  | .bo i :: as, x :: xs, v :: vs => (es[i]? = some x ∧ σ[i]? = some (some v)) ∧ BoL σ es as xs vs
  | _ :: as, _ :: xs, _ :: vs => BoL σ es as xs vs
  | _, _, _ => True
def rdB2 (T : Tb) (W : WX) (kp : List Nat) (as : List C) (r : Env → R (List D)) (Γ : Gm) (ms : List Nat) (Γ' : Gm) : TA := fun σ H Q => ∃ e F fp, St T.K Γ e.s σ F H fp ∧ match r e with
  | .ok xs e' => ∀ F' H' fp' vs f, Go T.K true Γ' σ F H fp e.s e'.s F' H' fp' f → ValL T.K F' H' ms xs vs f → BoL σ e.s as xs vs → Q vs H'
  | .exc x e' => XW T W kp σ F H fp x e'.s
  | .bad => False
def SLb (X : Cx) (T : Tb) (W : WX) (kp : List Nat) (as : List C) (r : Env → R (List D)) (xs : List Expr) (Γ : Gm) (ms : List Nat) (Γ' : Gm) : Prop := PA X xs (rdB2 T W kp as r Γ ms Γ')
def isBo : C → Bool
  | .bo _ => true
  | _ => false
theorem sb_nil {Γ : Gm} : SLb X T W kp [] (fun e => .ok [] e) [] Γ [] Γ := by
  refine PA.mono pa_nil fun σ H Q h => ?_
  obtain ⟨e, F, fp, s, h⟩ := h
  exact h F H fp [] emp (Go.refl s) ⟨rfl, rfl⟩ trivial
/-- an argument of one's own -/
theorem sb_own {c : C} {cs : List C} {r : Env → R D} {rs : Env → R (List D)} {x : Expr} {xs : List Expr} {Γ Γ1 Γ2 : Gm} {m : Nat} {ms : List Nat} (hb : isBo c = false) (ha : SE X T W kp true r x Γ m Γ1) (hs : SLb X T W kp cs rs xs Γ1 ms Γ2) (hm : own m = true) (h2 : ns x = true) :
    SLb X T W kp (c :: cs) (fun e => (r e).bind fun d e1 => (rs e1).bind fun ds e2 => .ok (d :: ds) e2) (x :: xs) Γ (m :: ms) Γ2 := by
  refine PA.mono (pa_cons ha hs (star_cons h2)) fun σ H Q h => ?_
  obtain ⟨e, F, fp, s, h⟩ := h
  refine ⟨e, F, fp, s, ?_⟩
  dsimp only at h
  cases e1 : r e with
  | bad => rw [e1] at h; exact h
  | exc y e' => rw [e1] at h; exact h
  | ok d e' =>
    rw [e1] at h
    simp only [R.bind_ok] at h
    intro F1 H1 fp1 v f g val
    refine ⟨e', F1, fp1, g.st, ?_⟩
    cases e2 : rs e' with
    | bad => rw [e2] at h; exact h
    | exc y e2' => rw [e2] at h; exact XW.back h g
    | ok ds e2' =>
      rw [e2] at h
      simp only [R.bind_ok] at h
      intro F2 H2 fp2 vs f2 g2 val2 bo
      refine h F2 H2 fp2 (v :: vs) _ (Go.trans g g2 val.cells) ?_ ?_
      · have val' := val.stay g2.ch g.dis (.inl hm) (.inl (own_ne hm))
        refine ⟨v, vs, f, f2, rfl, val', val2, fun a z1 z2 => ?_, rfl⟩
        rcases g2.grow a (.inr z2) with u | u
        · exact g.dis a z1 u
        · exact (val.cells a z1).2 u
      · rw [g.same rfl] at bo
        cases c <;> first
          | exact bo
          | (simp [isBo] at hb)
/-- a local that is looked at -/
theorem sb_bo {i : Nat} {cs : List C} {rs : Env → R (List D)} {x : Expr} {xs : List Expr} {Γ Γ2 : Gm} {ms : List Nat} (ha : PE X x (tVar i)) (h1 : 1 ≤ lvOf Γ i) (hs : SLb X T W kp cs rs xs Γ ms Γ2) (h2 : ns x = true) :
    SLb X T W kp (.bo i :: cs) (fun e => (R.lift (e.get i) e).bind fun d e1 => (rs e1).bind fun ds e2 => .ok (d :: ds) e2) (x :: xs) Γ (0 :: ms) Γ2 := by
  refine PA.mono (pa_cons ha hs (star_cons h2)) fun σ H Q h => ?_
  obtain ⟨e, F, fp, s, h⟩ := h
  obtain ⟨d, v, e1, e2, r⟩ := s.at_ i h1
  have e1' : e.get i = some d := e1
  refine ⟨v, e2, ?_⟩
  dsimp only at h
  rw [e1'] at h
  simp only [R.lift_some, R.bind_ok] at h
  refine ⟨e, F, fp, s, ?_⟩
  cases e3 : rs e with
  | bad => rw [e3] at h; exact h
  | exc y e' => rw [e3] at h; exact h
  | ok ds e' =>
    rw [e3] at h
    simp only [R.bind_ok] at h
    intro F2 H2 fp2 vs f2 g2 val2 bo
    refine h F2 H2 fp2 (v :: vs) _ g2 ⟨v, vs, emp, f2, rfl, ?_, val2, fun _ z => z.elim, by funext a; simp [emp]⟩ ⟨⟨e1, e2⟩, bo⟩
    unfold Val
    rw [if_pos rfl]
    exact ⟨RF.sub (g2.ch.subH rfl) _ _ (RO.rf s.sub d _ v _ r), rfl⟩
/-- all arguments, shared -/
theorem bo_share {Γ : Gm} {es : List D} {σ : L2.St} {F H : Hp} {fp : Nat → AS} (s : St T.K Γ es σ F H fp) : ∀ {as : List C} {ms : List Nat} {xs : List D} {vs : List V} {f : AS}, ValL T.K F H ms xs vs f → BoL σ es as xs vs → as.length = xs.length → (∀ i, .bo i ∈ as → 1 ≤ lvOf Γ i) → (∀ j : Nat, ∀ c, as[j]? = some c → isBo c = true ∨ ∃ m, ms[j]? = some m ∧ own m = true) →
    RFL T.K (frz F H fun a => f a ∨ Own fp a) xs vs
  | [], ms, xs, vs, f, val, _, hl, _, _ => by
    cases xs with
    | cons _ _ => simp at hl
    | nil =>
      cases ms with
      | cons _ _ => simp only [ValL] at val
      | nil => simp only [ValL] at val; simp only [RFL]; exact val.1
  | c :: as, ms, xs, vs, f, val, bo, hl, hΓ, hm => by
    cases xs with
    | nil => simp at hl
    | cons x xs =>
      cases ms with
      | nil => simp only [ValL] at val
      | cons m ms =>
        simp only [ValL] at val
        obtain ⟨w, ws, g1, g2, rfl, v1, v2, dd, rfl⟩ := val
        have bo2 : BoL σ es as xs ws := by
          cases c <;> first
            | exact bo
            | exact bo.2
        have hl2 : as.length = xs.length := by simpa using hl
        have rest := bo_share s v2 bo2 hl2 (fun i hi => hΓ i (List.mem_cons_of_mem _ hi)) (fun j c hc => by simpa using hm (j + 1) c (by simpa using hc))
        have big : ∀ (f1 f2 : AS), (∀ a, f1 a → f2 a) → Sub (frz F H f1) (frz F H f2) := fun f1 f2 hf a o ea => by
          by_cases h1 : f1 a
          · rw [frz_in h1] at ea; rw [frz_in (hf a h1)]; exact ea
          · rw [frz_out h1] at ea
            by_cases h2 : f2 a
            · rw [frz_in h2]; exact s.sub a o ea
            · rw [frz_out h2]; exact ea
        simp only [RFL]
        refine ⟨w, ws, rfl, ?_, RFL.sub (big _ _ fun a z => z.imp .inr id) _ _ rest⟩
        rcases hm 0 c (by simp) with hc | ⟨m', hm', ho⟩
        · cases c <;> first
            | (simp [isBo] at hc; done)
            | skip
          rename_i i
          obtain ⟨d, v, e1, e2, r⟩ := st_share s (hΓ i List.mem_cons_self)
          obtain ⟨⟨b1, b2⟩, _⟩ := bo
          rw [b1] at e1; cases e1
          rw [b2] at e2; cases e2
          exact RF.sub (big _ _ fun a z => .inr z) _ _ r
        · simp at hm'
          subst hm'
          have q : RO T.K F H x m w g1 := v1.ro ho
          obtain ⟨g, f', hs, _, r'⟩ := RO.weak s.sub x _ 1 w _ (Nat.le_refl 1) (own_pos ho) q
          obtain ⟨r1, _⟩ := RO.to1 (Nat.le_refl 1) r'
          exact RF.sub (big _ _ fun a z => .inl (.inl ((hs a).mpr (.inl z)))) _ _ r1
mutual
/-- what is one's own through and through -/
theorem ro100 {F F2 H : Hp} : ∀ (d : D) (v : V) (f : AS), (∀ a, f a → F2 a = none) → RO K F H d 100 v f → RO K F2 H d 100 v f
  | .non, _, _, _, h => h
  | .bl _, _, _, _, h => h
  | .int _, _, _, _, h => h
  | .str _, _, _, _, h => h
  | .lst xs, v, f, k, h => by
    unfold RO at h ⊢
    rw [if_neg (by decide)] at h ⊢
    obtain ⟨a, vs, g, e, q, z, na, r, rfl⟩ := h
    exact ⟨a, vs, g, e, q, k a (.inl rfl), na, rol100 xs vs g (fun b hb => k b (.inr hb)) r, rfl⟩
  | .tup xs, v, f, k, h => by
    unfold RO at h ⊢
    rw [if_neg (by decide)] at h ⊢
    obtain ⟨a, vs, g, e, q, z, na, r, rfl⟩ := h
    exact ⟨a, vs, g, e, q, k a (.inl rfl), na, rol100 xs vs g (fun b hb => k b (.inr hb)) r, rfl⟩
  | .set _, _, _, _, h => h
  | .itr _, _, _, _, h => h
  | .dct _ _, _, _, _, h => h
  | .ob _, _, _, _, h => h
  | .exc _ _, _, _, _, h => h
theorem rol100 {F F2 H : Hp} : ∀ (xs : List D) (vs : List V) (f : AS), (∀ a, f a → F2 a = none) → ROL K F H xs (dn 100) vs f → ROL K F2 H xs (dn 100) vs f
  | [], _, _, _, h => h
  | x :: xs, vs, f, k, h => by
    simp only [ROL] at h ⊢
    obtain ⟨w, ws, g1, g2, e, q, r, d, rfl⟩ := h
    exact ⟨w, ws, g1, g2, e, ro100 x w g1 (fun a ha => k a (.inl ha)) q, rol100 xs ws g2 (fun a ha => k a (.inr ha)) r, d, rfl⟩
end
theorem rd_callB {rs : Env → R (List D)} {as : List C} {Γ Γ1 : Gm} {ms : List Nat} {n f : Nat} {fn : Fn} {σ : L2.St} {H : Hp} {Q : VK} (hf : T.P.fns[f]? = some fn) (hio : fn.io = []) (hl : as.length = fn.np) (hrl : fn.rl = 100) (hkp : ∀ i ∈ kp, 1 ≤ lvOf Γ1 i)
    (hΓ : ∀ i, .bo i ∈ as → 1 ≤ lvOf Γ1 i) (hm : ∀ j : Nat, ∀ c, as[j]? = some c → isBo c = true ∨ ∃ m, ms[j]? = some m ∧ own m = true) (hrs : ∀ e xs e', rs e = .ok xs e' → xs.length = as.length)
    (z : rdE T W kp true (fun e => (rs e).bind fun xs e1 => callR (run T.P n) f as xs e1) Γ 100 Γ1 σ H Q) :
    tCallS (spF T n f) (WE W) (rdB2 T W kp as rs Γ ms Γ1) σ H Q := by
  obtain ⟨e, F, fp, s, z⟩ := z
  refine ⟨e, F, fp, s, ?_⟩
  dsimp only at z
  cases e1 : rs e with
  | bad => rw [e1] at z; exact z
  | exc y e' => rw [e1] at z; exact z
  | ok xs e' =>
    rw [e1] at z
    simp only [R.bind_ok] at z
    intro F1 H1 fp1 vs f1 g1 val bo
    have hxl := hrs e xs e' e1
    rw [← g1.same rfl] at bo
    have r1 := bo_share g1.st val bo hxl.symm hΓ hm
    have hc := val.cells
    have hc1 : ∀ a, (f1 a ∨ Own fp1 a) → F1 a = none ∧ H1 a ≠ none := fun a z => z.elim (hc a) fun z => g1.st.cells z
    refine ⟨fn, xs, frz F1 H1 fun a => f1 a ∨ Own fp1 a, emp, e'.o, hf, by rw [vall_len val, hxl, hl], frz_le g1.st.sub, ?_, ?_⟩
    · rw [alv_io0 hio]
      exact vall_of1 _ r1 (by rw [hxl, hl])
    · have sF : Sub F1 (frz F1 H1 fun a => f1 a ∨ Own fp1 a) := frz_sub fun a z => (hc1 a z).1
      unfold callR at z
      -- what is kept of the state behind the callee
      have after : ∀ H', (∀ a o, H1 a = some o → H' a = some o) → St T.K Γ1 e'.s σ F1 H' fp1 := fun H' kH => ⟨fun a o ea => kH a o (g1.st.sub a o ea), g1.st.lG, g1.st.le, fun i hi => by
        obtain ⟨d2, v2, e3, e4, r2⟩ := g1.st.at_ i hi
        refine ⟨d2, v2, e3, e4, RO.kept d2 _ v2 _ ⟨Sub.refl F1, fun a ha => ?_, fun a ha hn => hn⟩ r2⟩
        have := (g1.st.cells ⟨i, ha⟩).2
        cases eh : H1 a with
        | none => exact absurd eh this
        | some z => exact kH a z eh, g1.st.dis, g1.st.dead⟩
      cases er : run T.P n f xs e'.o with
      | bad => rw [er] at z; exact z
      | exc x o =>
        rw [er] at z
        dsimp only at z ⊢
        intro F' H' cls dx sub' ch ex
        have kH : ∀ a o, H1 a = some o → H' a = some o := fun a o ea => ch.keep a o ea fun z => z
        refine z F' H' cls dx sub' g1.st.le ?_ (fun i hi => ?_) ex
        · refine Ch.trans (g1.ch.mono (fun _ z => z) fun _ z => z.2) (fun _ z => z) (fun a z => g1.grow a z) (?_ : Ch (fun a => Own fp1 a ∨ f1 a) (fun a => Own fp1 a ∨ f1 a) F1 H1 F' H') (fun _ z => z) fun _ _ z => z
          refine ⟨sF.trans ch.sub, fun a o ea _ => kH a o ea, fun a z z' => ?_⟩
          by_cases ha : f1 a ∨ Own fp1 a
          · exact .inl ha.symm
          · exact (ch.new a (by rw [frz_out ha]; exact z) z').imp (fun z => z.elim) id
        · obtain ⟨d, v, e2, e3, r⟩ := st_share g1.st (hkp i hi)
          refine ⟨d, v, e2, e3, RF.sub (fun a o ea => ch.sub a o ?_) _ _ r⟩
          by_cases ha : Own fp1 a
          · rw [frz_in ha] at ea
            rw [frz_in (show f1 a ∨ Own fp1 a from .inr ha)]; exact ea
          · rw [frz_out ha] at ea
            by_cases hb : f1 a ∨ Own fp1 a
            · rw [frz_in hb]; exact g1.st.sub a o ea
            · rw [frz_out hb]; exact ea
      | ok r outs o =>
        rw [er] at z
        dsimp only at z ⊢
        intro F' H' v f' fo sub' ch ro ol dd gr
        have kH : ∀ a o, H1 a = some o → H' a = some o := fun a o ea => ch.keep a o ea fun z => z
        have st2 := after H' kH
        have houts : outs = [] := by
          rw [hio] at ol
          cases hil : fn.il with
          | nil =>
            rw [hil] at ol
            cases outs with
            | nil => rfl
            | cons d ds => exact ol.elim
          | cons l ls => rw [hil] at ol; exact ol.elim
        subst houts
        rw [putBack_io0] at z
        have grf : ∀ a, f' a → H1 a = none := fun a z => (gr a (.inl z)).resolve_left fun z => z
        have f1n : ∀ a, f' a → F1 a = none := fun a z => by
          cases ef : F1 a with
          | none => rfl
          | some o => have := g1.st.sub a o ef; rw [grf a z] at this; cases this
        rw [hrl] at ro
        refine z F1 H' fp1 v f' ⟨g1.same, st2, fun a z1 z2 => (g1.st.cells z2).2 (grf a z1), ⟨g1.ch.sub, fun a o ea hw => kH a o (g1.ch.keep a o ea hw), g1.ch.new⟩, fun a z => ?_⟩ (Val.of (by decide) (ro100 _ _ _ f1n ro))
        rcases z with z | z
        · exact g1.grow a (.inl z)
        · exact Grow.none (f := emp) (g := emp) g1.ch (fun _ z => z.2) (grf a z)
theorem se_callB {rs : Env → R (List D)} {as : List C} {x : Str} {p pos : Pos} {a : Expr} {es : List Expr} {Γ Γ1 : Gm} {ms : List Nat} {n f : Nat} {fn : Fn} (hf : T.P.fns[f]? = some fn) (hio : fn.io = []) (hl : as.length = fn.np) (hrl : fn.rl = 100) (hkp : ∀ i ∈ kp, 1 ≤ lvOf Γ1 i)
    (hΓ : ∀ i, .bo i ∈ as → 1 ≤ lvOf Γ1 i) (hm : ∀ j : Nat, ∀ c, as[j]? = some c → isBo c = true ∨ ∃ m, ms[j]? = some m ∧ own m = true) (hrs : ∀ e xs e', rs e = .ok xs e' → xs.length = as.length)
    (tk : Takes X W) (hr : Room (n + 2) X.A) (hg : Gl X x) (c : Callee T n f fn x X) (ha : SLb X T W kp as rs (a :: es) Γ ms Γ1) (h2 : (a :: es).all ns = true) (hdb : (x == ("__debug__" : Str)) = false) :
    SE X T W kp true (fun e => (rs e).bind fun xs e1 => callR (run T.P n) f as xs e1) (.Call (.Name x p) (a :: es) [] pos) Γ 100 Γ1 := by
  obtain ⟨ad, fd, ps, hps, F, hmg, hk, hb⟩ := c.ex
  simp only [List.all_cons, Bool.and_eq_true] at h2
  exact PE.mono (pe_callS F hr hg hmg hk hb (fun σ => passAt tk σ) ha hdb (star_cons h2.1) (star_any h2.2)) fun _ _ _ z => rd_callB hf hio hl hrl hkp hΓ hm hrs z
/-! ### chains of comparisons -/
def cmp2D (o o' : Cp) (ra rb rc : Env → R D) : Env → R D := fun e => (ra e).bind fun x e1 => (rb e1).bind fun y e2 => match cp o x y with
  | some true => (rc e2).bind fun z e3 => R.lift ((cp o' y z).map .bl) e3
  | some false => .ok (.bl false) e2
  | none => .bad
end
end Z

/-! Z18a: max, min, methods that read, lists repeated. -/
namespace Z
open PySem PySem.Spec L2 PyProof.Rows
section
variable {X : Cx} {T : Tb} {W : WX} {kp : List Nat} {K : PySem.W.Frag}
theorem callR_or {f : Value} {r r' : List V → Hp → VK → Prop} (h : CallR X f r) (h' : CallR X f r') : CallR X f (fun vs H Q => r vs H Q ∨ r' vs H Q) := by
  intro pins s σ H xs us Q I r1 q
  rcases q with q | q
  · exact h pins s σ H xs us Q I r1 q
  · exact h' pins s σ H xs us Q I r1 q
theorem bi_or {g g1 g2 : List D → Option D} {r1 r2 : List V → Hp → VK → Prop} (h1 : BiF K g1 r1) (h2 : BiF K g2 r2) (hg : ∀ xs d, g xs = some d → g1 xs = some d ∨ g2 xs = some d) : BiF K g (fun vs H Q => r1 vs H Q ∨ r2 vs H Q) := by
  intro H xs vs d Q rr e
  rcases hg xs d e with e | e
  · obtain ⟨a, b⟩ := h1 H xs vs d Q rr e
    exact ⟨a, fun k => .inl (b k)⟩
  · obtain ⟨a, b⟩ := h2 H xs vs d Q rr e
    exact ⟨a, fun k => .inr (b k)⟩
theorem bi_max : BiF K (b1 .max) (fun vs H Q => rMax K vs H Q ∨ ∃ i j, vs = [.int i, .int j] ∧ Q (.int (if j > i then j else i)) H) := bi_or bi_maxL bi_max2 fun xs d e => by
  match xs, e with
  | [], e => simp [b1] at e
  | [x], e => cases x <;> simp only [b1, reduceCtorEq] at e; exact .inl e
  | [x, y], e => cases x <;> cases y <;> simp only [b1, reduceCtorEq] at e; exact .inr e
  | _ :: _ :: _ :: _, e => simp [b1] at e
theorem bi_min : BiF K (b1 .min) (fun vs H Q => rMin K vs H Q ∨ ∃ i j, vs = [.int i, .int j] ∧ Q (.int (if j < i then j else i)) H) := bi_or bi_minL bi_min2 fun xs d e => by
  match xs, e with
  | [], e => simp [b1] at e
  | [x], e => cases x <;> simp only [b1, reduceCtorEq] at e; exact .inl e
  | [x, y], e => cases x <;> cases y <;> simp only [b1, reduceCtorEq] at e; exact .inr e
  | _ :: _ :: _ :: _, e => simp [b1] at e
/-! ### methods that read, their answers flat -/
def mtTy : M1 → String
  | .index => "list"
  | _ => "str"
def MtF (K : PySem.W.Frag) (mm : M1) (r : V → List V → Hp → VK → Prop) : Prop := ∀ H x v xs vs d Q, RF K H x v → RFL K H xs vs → m1 mm x xs = some d → flat d = true ∧ ((∀ w, RF K H d w → Q w H) → r v vs H Q)
theorem ty_mt {H : Hp} {x : D} {v : V} {mm : M1} (r : RF K H x v) (h : mtOk mm x = true) : tyV K (mtTy mm) v H := by
  cases mm <;> cases x <;> simp only [mtOk, Bool.false_eq_true] at h <;> simp only [RF] at r
  · subst r; rfl
  · subst r; rfl
  · subst r; rfl
  · obtain ⟨a, vs, rfl, q, _⟩ := r
    exact .inl ⟨rfl, vs, .inl q⟩
  · subst r; rfl
  · subst r; rfl
theorem rd_mt {q1 q2 : Bool} {ra : Env → R D} {rs : Env → R (List D)} {Γ Γ1 Γ2 : Gm} {m mo : Nat} {ms : List Nat} {mm : M1} {r : V → List V → Hp → VK → Prop} {σ : L2.St} {H : Hp} {Q : VK} (hm : own m = true ∨ q2 = true) (hb : MtF T.K mm r)
    (h : rdE T W kp (q1 && q2) (fun e => (ra e).bind fun x e1 => if mtOk mm x = true then (rs e1).bind fun xs e2 => R.lift (m1 mm x xs) e2 else .bad) Γ mo Γ2 σ H Q) :
    tBM T.K (mtTy mm) r (rdE T W kp q1 ra Γ m Γ1) (rdL T W kp q2 rs Γ1 ms Γ2) σ H Q := by
  obtain ⟨e, F, fp, s, h⟩ := h
  refine ⟨e, F, fp, s, ?_⟩
  dsimp only at h
  cases e1 : ra e with
  | bad => rw [e1] at h; exact h
  | exc y e' => rw [e1] at h; exact h
  | ok x e' =>
    rw [e1] at h
    simp only [R.bind_ok] at h
    intro F1 H1 fp1 v f1 g1 val1
    by_cases hx : mtOk mm x = true
    case neg => rw [if_neg hx] at h; exact h.elim
    rw [if_pos hx] at h
    refine ⟨ty_mt (val1.rf g1.st.sub) hx, e', F1, fp1, g1.st, ?_⟩
    cases e2 : rs e' with
    | bad => rw [e2] at h; exact h
    | exc y e2' => rw [e2] at h; exact XW.back h g1
    | ok ys e2' =>
      rw [e2] at h
      simp only [R.bind_ok] at h
      intro F2 H2 fp2 us f2 g2 val2
      cases hg : m1 mm x ys with
      | none => rw [hg] at h; exact h.elim
      | some d =>
        rw [hg] at h
        simp only [R.lift_some] at h
        have gg := Go.trans g1 g2 val1.cells
        have v1 := (val1.stay g2.ch g1.dis hm (hm.imp own_ne id)).rf g2.st.sub
        obtain ⟨fl, k⟩ := hb H2 x v ys us d Q v1 (ValL.rf g2.st.sub val2) hg
        refine k fun w rw_ => h F2 H2 fp2 w emp ⟨gg.same, gg.st, fun _ z => z.elim, gg.ch, fun a z => gg.grow a (z.imp id fun z => z.elim)⟩ (Val.flat fl rw_)
theorem se_mt {q1 q2 : Bool} {ra : Env → R D} {rs : Env → R (List D)} {o a : Expr} {as : List Expr} {name : Str} {id : String} {apos cpos : Pos} {Γ Γ1 Γ2 : Gm} {m mo : Nat} {ms : List Nat} {mm : M1} {r : V → List V → Hp → VK → Prop} (hK : X.K = T.K) (hm : own m = true ∨ q2 = true) (hb : MtF T.K mm r)
    (pa : PlainAttrs (mtTy mm)) (slot : Slot (mtTy mm) name id) (hty : typeOf (.builtin id) = pure (.type "method_descriptor")) (hr : MtR X id r)
    (ho : SE X T W kp q1 ra o Γ m Γ1) (ha : SL X T W kp q2 rs (a :: as) Γ1 ms Γ2) (h2 : (a :: as).all ns = true) (h3 : nsup o = true) (h4 : (apos.endLine == cpos.line) = true) (h5 : as.length < 20) :
    SE X T W kp (q1 && q2) (fun e => (ra e).bind fun x e1 => if mtOk mm x = true then (rs e1).bind fun xs e2 => R.lift (m1 mm x xs) e2 else .bad) (.Call (.Attribute o name apos) (a :: as) [] cpos) Γ mo Γ2 := by
  have h2' := h2
  simp only [List.all_cons, Bool.and_eq_true] at h2
  refine PE.mono (pe_bm pa slot hty hr ho ha (base_ok h3) (bm_few h2' h5) h4 (star_cons h2.1) (star_any h2.2)) fun σ H Q z => ?_
  rw [hK]
  exact rd_mt hm hb z
/-! list.index -/
theorem idx_spec {x : D} : ∀ {xs : List D} {k n : Nat}, idxD x k xs = some n → k ≤ n ∧ (∃ z, xs[n - k]? = some z ∧ eqD z x = true) ∧ ∀ m z, m < n - k → xs[m]? = some z → eqD z x = false
  | [], k, n, h => by simp [idxD] at h
  | y :: r, k, n, h => by
    simp only [idxD] at h
    split at h
    · rename_i e
      cases h
      exact ⟨Nat.le_refl _, ⟨y, by simp, e⟩, fun m z hm => by omega⟩
    · rename_i e
      obtain ⟨h1, ⟨z, h2, h3⟩, h4⟩ := idx_spec h
      have e1 : n - k = (n - (k + 1)) + 1 := by omega
      refine ⟨by omega, ⟨z, by rw [e1]; simpa using h2, h3⟩, fun m z' hm hz => ?_⟩
      cases m with
      | zero =>
        simp at hz
        subst hz
        simpa using e
      | succ m => exact h4 m z' (by omega) (by simpa using hz)
theorem rfl_at {H : Hp} : ∀ {xs : List D} {vs : List V} {j : Nat} {v : V}, RFL K H xs vs → vs[j]? = some v → ∃ x, xs[j]? = some x ∧ RF K H x v
  | [], vs, j, v, h, e => by simp only [RFL] at h; subst h; simp at e
  | x :: xs, vs, j, v, h, e => by
    simp only [RFL] at h
    obtain ⟨w, ws, rfl, q, r⟩ := h
    cases j with
    | zero => simp at e; subst e; exact ⟨x, by simp, q⟩
    | succ j =>
      obtain ⟨y, h1, h2⟩ := rfl_at r (by simpa using e)
      exact ⟨y, by simpa using h1, h2⟩
theorem all_at {xs : List D} (f : xs.all flat = true) {j : Nat} {z : D} (h : xs[j]? = some z) : flat z = true := List.all_eq_true.mp f z (List.mem_of_getElem? h)
theorem mf_index : MtF K .index (rIndex K) := by
  intro H x v xs vs d Q r rs hg
  cases x <;> (match xs, hg with
    | [], hg => simp [m1] at hg
    | _ :: _ :: _, hg => simp [m1] at hg
    | [y], hg => ?_) <;> simp only [m1, reduceCtorEq] at hg
  · rename_i ys
    split at hg <;> simp only [reduceCtorEq, Option.map_eq_some_iff] at hg
    rename_i hf
    simp only [Bool.and_eq_true] at hf
    obtain ⟨n, hn, rfl⟩ := hg
    obtain ⟨h0, ⟨z, h1, h2⟩, h3⟩ := idx_spec hn
    refine ⟨rfl, fun k => ?_⟩
    obtain ⟨u, rfl, ru⟩ := rfl1 rs
    simp only [RF] at r
    obtain ⟨a, ws, rfl, q, rw_⟩ := r
    obtain ⟨zv, z1, z2⟩ := rfl_get rw_ h1
    exact ⟨a, ws, u, n - 0, zv, rfl, rfl, .inl q, flatV_of ru hf.1, flatL_of rw_ hf.2, z1, by rw [eqV_of z2 (all_at hf.2 h1) ru hf.1]; exact h2, fun m z' hm hz => by
      obtain ⟨x', y1, y2⟩ := rfl_at rw_ hz
      rw [eqV_of y2 (all_at hf.2 y1) ru hf.1]
      exact h3 m x' hm y1, k _ mk_int⟩
/-! ### lists repeated -/
theorem se_rep {q1 q2 : Bool} {ra rb : Env → R D} {a b : Expr} {pos : Pos} {Γ Γ1 Γ2 : Gm} {m n : Nat} (ha : SE X T W kp q1 ra a Γ m Γ1) (hb : SE X T W kp q2 rb b Γ1 n Γ2) (hm : 2 ≤ m) :
    SE X T W kp (q1 && q2) (fun e => (ra e).bind fun x e1 => (rb e1).bind fun y e2 => R.lift (opRep x y) e2) (.BinOp a .Mult b pos) Γ 2 Γ2 := by
  refine PE.mono (pe_op op_rep (se_weak ha (leG.refl _) (.inr ⟨by decide, hm⟩)) hb) fun σ H Q z => rd_two (.inl (by decide)) z fun F H' x y v u f d s val hg k => ?_
  obtain ⟨w1, ws, g1, g2, e1, v1, v2, _, rfl⟩ := val
  cases e1
  obtain ⟨w2, ws2, g3, g4, e2, v3, _⟩ := v2
  cases e2
  cases x <;> cases y <;> simp only [opRep, reduceCtorEq] at hg
  rename_i xs i
  split at hg <;> simp only [reduceCtorEq, Option.some.injEq] at hg
  rename_i hl
  subst hg
  have r3 := rf_int (v3.rf s)
  subst r3
  have v1' := v1.ro (by decide)
  unfold RO at v1'
  rw [if_neg (by decide)] at v1'
  obtain ⟨a', vs, g, rfl, eH, _, _, r, _⟩ := v1'
  obtain ⟨r1, _⟩ := rol_to1 r
  refine ⟨a', i, vs, rfl, rfl, eH, ?_, ?_, ?_, fun p np => new_shared (tup := false) s (rfl_rep r1 _) np k⟩
  · exact Int.le_trans (by decide) hl.2.1
  · exact Int.lt_of_le_of_lt hl.1 (by decide)
  · rw [rfl_len r1]; exact lim_line hl.2.2
end
end Z

/-! Z18b: own exceptions whose __init__ begins with super().__init__(..). -/
namespace Z
open PySem PySem.Spec L2 PyProof.Rows PySem.W
/-! ### the __init__ of such a class, walked -/
/-- the context of such an __init__ -/
def cxI (P : Program) (w : World) (K : Frag) (mg : Str → Option Value) (base : Heap) (N : List Str) (env : PySem.Env) (A : Around) (outer : List PySem.Env) (s : Shared) (H : Hp) : Cx where
  prog := P
  w := w
  K := K
  mg := mg
  base := base
  A := A.deeper env
  N := N
  s_0 := s
  H_0 := H
  env := env
  outer := outer
  stack := env :: outer
  ex := []
  calm := true
  fn := fun _ => false
  pn := []
  xe := fun _ _ => False
/-- what the head says of such a class and its __init__ -/
structure IniC (P : Program) (K : Frag) (mg : Str → Option Value) (C fI cc cda : Addr) (qual : Str) (params : Arguments) (scope : Scope) (ps : List Str) : Prop where
  oex : OexC K C
  cell : ∃ cl cld csl, K.lookup cc = some ⟨cl, cld, .cell (some (.ref C)), csl⟩
  code : ∃ ccl cdd vs ccs file tf, K.lookup cda = some ⟨ccl, cdd, .fields vs, ccs⟩ ∧ vs[2]? = some (.str file tf) ∧ ((P.main.file : Str) == file) = true
  rec_ : codeIn K (.ref cda) qual = true
  top : (P.main.scope.names.lookup ("super" : Str)).isSome = false
  along : ∃ cd, clsIn K C = some cd ∧ alongIn K "__init__" ((cd.mro.dropWhile (· != .ref C)).drop 1) = some (some (.builtin "ValueError.__init__"))
  self : mroIn K C (.ref C) = some true
  ve : subIn K (.ref C) (.type "ValueError") = some true
  noop : nsIn K cStatics "thirdparty.any" = some none
  sup : mg "super" = none
  kind : scope.kind = .function
  co : scope.isCoroutine = false
  gen : scope.isGenerator = false
  ks : scope.names.lookup ("super" : Str) = some .globalImplicit
  kc : scope.names.lookup ("__class__" : Str) = some .free
  nocell : ∀ x ∈ scope.names, x.2 ≠ .cell
  fr1 : ∀ x ∈ scope.names, x.2 = .free → x.1 = ("__class__" : Str)
  par : ∀ x ∈ ps, scope.names.lookup x = some .local
  nd : ps.Nodup
  hd : ∃ ar, (params.posonlyargs ++ params.args).head? = some ar ∧ ps.head? = some ar.arg
theorem lookup_one {a : Str} {c c' : Addr} {x : Str} (h : ([(a, c)] : List (Str × Addr)).lookup x = some c') : x = a ∧ c' = c := by
  simp only [List.lookup] at h
  split at h
  · rename_i e
    cases h
    exact ⟨by simpa using e, rfl⟩
  · cases h
theorem bind_rev {ps : List Str} {us : List Value} (nd : ps.Nodup) {i : Nat} {x : Str} {u : Value} (h1 : ps[i]? = some x) (h2 : us[i]? = some u) : (ps.zip us).reverse.lookup x = some u := by
  have hm : (x, u) ∈ (ps.zip us).reverse := by
    rw [List.mem_reverse]
    refine List.mem_iff_getElem?.mpr ⟨i, ?_⟩
    rw [List.getElem?_zip_eq_some]
    exact ⟨h1, h2⟩
  have hnd : ((ps.zip us).reverse.map (·.1)).Nodup := by
    rw [List.map_reverse]
    refine List.pairwise_reverse.mpr (List.Pairwise.imp Ne.symm (?_ : ((ps.zip us).map (·.1)).Nodup))
    have : (ps.zip us).map (·.1) = ps.take us.length := by
      clear h1 h2 hm nd
      induction ps generalizing us with
      | nil => simp
      | cons p ps ih => cases us with
        | nil => simp
        | cons v us => simp [ih]
    rw [this]
    exact nd.sublist (List.take_sublist _ _)
  generalize (ps.zip us).reverse = l at hm hnd
  induction l with
  | nil => simp at hm
  | cons p l ih =>
    obtain ⟨y, v⟩ := p
    rw [List.map_cons, List.nodup_cons] at hnd
    rcases List.mem_cons.mp hm with e | hm
    · cases e; simp [List.lookup]
    · have hne : x ≠ y := fun e => hnd.1 (by rw [← e]; exact List.mem_map_of_mem (f := (·.1)) hm)
      have e : (x == y) = false := by simpa using hne
      simp only [List.lookup, e]
      exact ih hm hnd.2
section
variable {P : Program} {w : World} {K : Frag} {mg : Str → Option Value} {base : Heap} {A : Around} {outer : List PySem.Env} {s : Shared} {H : Hp} {C fI cc cda : Addr} {name qual : Str} {params : Arguments} {scope : Scope} {ps : List Str} {us : List Value} {vs : List V}
/-- the state at the entry -/
theorem inv_startI {k : Nat} {h₀ : Heap} {t : Nat} (T : IniC P K mg C fI cc cda qual params scope ps) (hr : Room k A) (e0 : Env0 P w K mg base A outer s H) (hl : vs.length = ps.length) (r : Vals vs us)
    (hns : h₀.Ns s.heap.objs.size (fun x => (ps.zip us).reverse.lookup x)) (hk : ∀ b o, s.heap.get? b = some o → h₀.get? b = some o) :
    Inv (cxI P w K mg base ps (ksEnv qual scope s.heap.objs.size fI (.ref cda) cc) A outer s H) [] (vs.map some) H { s with heap := h₀, toks := t } := by
  obtain ⟨cl, cld, csl, hcell⟩ := T.cell
  have KB : base.get? cc = some ⟨cl, cld, .cell (some (.ref C)), csl⟩ := e0.mod.kin _ _ hcell
  have KS := e0.bs _ _ KB
  have hcs : cc < s.heap.objs.size := Heap.lt_size KS.1
  have noA : ∀ b : Addr, b ∉ (cxI P w K mg base ps (ksEnv qual scope s.heap.objs.size fI (.ref cda) cc) A outer s H).ex := fun b z => absurd (show b ∈ ([] : List Addr) from z) (by simp)
  refine ⟨⟨e0.mod, T.kind, rfl, rfl, Nat.le_refl _, fun y z c h1 h2 => ?_, fun y hy => ?_, (fun y c h _ => by cases h), fun _ => hr.hd, Around.frames_deeper e0.frames, .inr ⟨rfl, rfl⟩, fun b z => absurd z (noA b), e0.bs, e0.bsz, fun b _ _ => noA b, fun b z => absurd z (noA b), e0.funs, e0.frf⟩,
    rfl, e0.bare, Un.kept hk, ⟨_, hns, fun i y v h1 h2 h3 => ?_⟩, fun y c h => ?_, e0.hok.fresh (Nat.le_refl _), fun y c h => ?_, fun p hp => absurd (show p ∈ ([] : List (Addr × Obj)) from hp) (by simp), e0.hok.kept hk, by show (vs.map some).length = ps.length; simpa using hl⟩
  · exact (lookup_one h1).1.trans (lookup_one h2).1.symm
  · have hy : scope.names.lookup y = some .cell ∨ scope.names.lookup y = some .free := hy
    rcases hy with hy | hy
    · exact absurd rfl (T.nocell _ (PySem.mem_of_lookup hy))
    · have := T.fr1 _ (PySem.mem_of_lookup hy) rfl
      exact ⟨cc, by show ([(("__class__" : Str), cc)] : List (Str × Addr)).lookup y = _; rw [show y = ("__class__" : Str) from this]; rfl⟩
  · have hv : vs[i]? = some v := by
      rw [List.getElem?_map, Option.map_eq_some_iff] at h2
      obtain ⟨a, h4, h5⟩ := h2
      cases h5; exact h4
    obtain ⟨u, hu, rv⟩ := r.get hv
    exact ⟨u, rv, .inl ⟨T.par y (List.mem_of_getElem? h1), bind_rev T.nd h1 hu⟩⟩
  · have := (lookup_one h).2
    subst this
    exact ⟨_, ⟨_, hk _ _ KS.1, rfl⟩⟩
  · have := (lookup_one h).2
    subst this
    exact KS.2
end
section
variable {X : Cx} {pins : List (Addr × Obj)} {σ : L2.St} {H : Hp} {s : Shared}
/-- a further pin -/
theorem inv_pin (I : Inv X pins σ H s) {u : Addr} {o : Obj} (h : s.heap.get? u = some o) (hu : H u = none) (h1 : u ≠ X.env.locals) (h2 : u ∉ X.fs) (h3 : ∀ v, o.data ≠ .cell v) : Inv X ((u, o) :: pins) σ H s :=
  ⟨I.ok, I.os, I.bare, I.base, I.loc, I.cell, I.free, I.freeC, fun p hp => by
    rcases List.mem_append.mp hp with hp | hp
    · exact I.pin p (List.mem_append_left _ hp)
    · rcases List.mem_cons.mp hp with rfl | hp
      · exact ⟨h, hu, h1, h2, h3⟩
      · exact I.pin p (List.mem_append_right _ hp), I.hok, I.len⟩
theorem inv_unpin {q : Addr × Obj} (I : Inv X (q :: pins) σ H s) : Inv X pins σ H s :=
  ⟨I.ok, I.os, I.bare, I.base, I.loc, I.cell, I.free, I.freeC, fun p hp => by
    rcases List.mem_append.mp hp with hp | hp
    · exact I.pin p (List.mem_append_left _ hp)
    · exact I.pin p (List.mem_append_right _ (List.mem_cons_of_mem _ hp)), I.hok, I.len⟩
/-- super().__init__(..), the bound wrapper called -/
theorem sup_call {A : Around} {E : Value → Shared → Prop} {u a C : Addr} {us : List Value} {Q : Value → Shared → Prop} (T : OexC X.K C) (I : Inv X pins σ H s) (hu : s.heap.get? u = some (kxs_mw "ValueError.__init__" a)) (e : H a = some (exo a C none)) (hl : us.length ≤ sizeLine) (h : ∀ s', Inv X pins σ H s' → Q .none s') :
    wpAny (model X.prog X.w) A (call (.ref u) us) Q E s := by
  obtain ⟨nm, q, N, bs, bm, sn, sub, ab, col, dd, k0, k1, k2, k3, k5, hC, hbm⟩ := T.cls
  obtain ⟨t1, ho⟩ := exo_at I.hok e
  have hCh := I.kIn _ _ hC
  obtain ⟨hp, g, d, t, os⟩ := s
  refine wpAny_call (codeAny_of_tree ?_)
  show wpAny _ A.in1 (callAny (.ref u) ⟨us, []⟩) _ _ _
  simp only [callAny]
  refine wpAny_bind (wpAny_load hu ?_)
  simp only [kxs_mw, show (Value.type "method-wrapper" == Value.type "method" || Value.type "method-wrapper" == Value.type "builtin_function_or_method" || Value.type "method-wrapper" == Value.type "method-wrapper") = true by decide, if_true]
  refine KFB.if_so (by decide) ?_
  refine wpAny_bind (check_bound_init F.excBase_ValueError.toExcCallFacts hCh ho rfl ?_)
  refine wpAny_bind (wpAny_pure (wpAny_pure ?_))
  refine ⟨plainId_quiet F.excBase_ValueError.init.plain _, codeAny_builtin F.excBase_ValueError.initEntry ?_⟩
  refine exc_init_tree (cls := .ref C) (t0 := t1) (dv := none) (c2 := .none) (c3 := .none) (b4 := .bool false) ho hl fun h' k hx _ => ?_
  have J := I.write (t' := t) (x := a) (e := a) (o := exo a C none) (by rw [e]; exact True.intro) (.inl rfl) k ⟨_, hx⟩ (exo_ok hx)
  have eu : upd H a (exo a C none) = H := by
    funext b
    by_cases hb : b = a
    · rw [hb, upd_same, e]
    · rw [upd_ne hb]
  rw [eu] at J
  exact h _ J
end
section
variable {P : Program} {w : World} {K : Frag} {mg : Str → Option Value} {base : Heap} {C fI cc cda : Addr} {name qual : Str} {params : Arguments} {scope : Scope} {ps : List Str}
theorem meth_eq {o e : Expr} {nm : Str} {p2 pos : Pos} {env : PySem.Env} (h2 : ns e = true) (h4 : (p2.endLine == pos.line) = true) : eval (.Call (.Attribute o nm p2) [e] [] pos) env = (do
      let ov ← attributeBase o nm env (eval o env)
      standAt p2.atName
      let (f, first) ← holding [ov] (getMethod ov nm (do return (← importBound o env).getD true))
      callWith pos f first (backTo pos (starEach [e] env)) []) := by
  have hform : methodCallForm ([e].length + ([] : List Keyword).length) (backTo pos (starEach [e] env)) (backToKw pos (keywordEach [] env)) = true := by
    rw [star_cons h2]; rfl
  have hpos : methodCallPos true o env p2 pos = pure pos := by unfold methodCallPos; simp [h4]
  rw [arm_eval_Call]
  congr 1
  funext ov
  congr 1
  funext _
  unfold methodCall
  rw [hform]
  unfold calleeOf
  rw [if_pos rfl]
  congr 1
  funext x
  rw [hpos]
  rfl
/-- THE RULE: such an __init__, by its message and the rest of its body -/
theorem init_fn {k : Nat} {sp : Sp} {dV kV doc pm ct oc : Value} {an od : Option Addr} {osl : Array (Option Value)} {p0 p1 p2 pos pos2 : Pos} {e : Expr} {rest : List Stmt} (h4 : (p2.endLine == pos.line) = true) (T : IniC P K mg C fI cc cda qual params scope ps)
    (lk : K.lookup fI = some ⟨oc, od, .func (ksFn name qual params (.Expr (.Call (.Attribute (.Call (.Name "super" p0) [] [] p1) "__init__" p2) [e] [] pos) pos2 :: rest) scope dV kV doc pm an (.ref cda) ct cc), osl⟩)
    (len : ∀ vs H Q E, sp vs H Q E → vs.length = ps.length) (h2 : ns e = true)
    (hbody : ∀ (X : Cx), X.K = K → X.N = ps → X.env.scope = scope → X.calm = true → X.prog = P → X.w = w → ∀ vs H Q E, sp vs H Q E → ∃ a ws, vs = .ref a :: ws ∧ H a = some (exo a C none) ∧ (∃ ta, PA X [e] ta ∧ ta (vs.map some) H fun us H1 => us.length ≤ 1000 ∧ H1 = H) ∧
      ∃ t, PSs X rest t ∧ t { nx := fun _ H' => Q .non H', rt := Q } (vs.map some) H) :
    FnOk P w K mg base (L2.CX P w) (k + 1) fI (ksFn name qual params (.Expr (.Call (.Attribute (.Call (.Name "super" p0) [] [] p1) "__init__" p2) [e] [] pos) pos2 :: rest) scope dV kV doc pm an (.ref cda) ct cc) ps sp := by
  refine ⟨len, fun A outer s H args us vs Q E hr e0 hb r hsp => ?_⟩
  have hl := len _ _ _ _ hsp
  have KX : K.In s.heap := e0.mod.kin.keeps fun b o e => (e0.bs b o e).1
  have lim : s.heap.NoLimit := e0.mod.nolimit.keeps fun b o e => (e0.bs b o e).1
  have hloc : ∀ x ∈ ps.zip us, scope.names.lookup x.1 = some .local := fun ⟨n, v⟩ hy => T.par n (List.of_mem_zip hy).1
  refine ks_codeAny_call_defAt hr.depth (KX _ _ lk) rfl lim (PySem.W.codeRec_of KX T.rec_) rfl hb T.nocell hloc (fun h₀ hns hk => ?_) T.co T.gen T.kind
  let env := ksEnv qual scope s.heap.objs.size fI (.ref cda) cc
  let X := cxI P w K mg base ps env A outer s H
  show PySem.wpAt (model P w) X.A (.func (.Expr (.Call (.Attribute (.Call (.Name "super" p0) [] [] p1) "__init__" p2) [e] [] pos) pos2 :: rest) env) (execs (.Expr (.Call (.Attribute (.Call (.Name "super" p0) [] [] p1) "__init__" p2) [e] [] pos) pos2 :: rest) env) _ _ _
  have I : Inv X [] (vs.map some) H { s with heap := h₀, toks := s.toks + (ps.zip us).length } := inv_startI T hr e0 hl r hns hk
  obtain ⟨a, ws, ev, ea, ⟨ta, hta, qa⟩, t, ht, qt⟩ := hbody X rfl rfl rfl rfl rfl rfl vs H Q E hsp
  obtain ⟨cl, cld, csl, hcell⟩ := T.cell
  obtain ⟨ccl, cdd, cvs, ccs, file, tf, hcode, hvs, hfile⟩ := T.code
  obtain ⟨ar, har, hps⟩ := T.hd
  obtain ⟨nm, q, N, bs, bm, sn, sub, ab, col, dd, k0, k1, k2, k3, k5, hC, hbm⟩ := T.oex.cls
  obtain ⟨cd, hcd, hal⟩ := T.along
  obtain ⟨t1, ho⟩ := exo_at I.hok ea
  have KI : K.In h₀ := I.kIn
  have h0 : ps[0]? = some ar.arg := by rw [← List.head?_eq_getElem?]; exact hps
  obtain ⟨u0, hu0, rv0⟩ := r.get (show vs[0]? = some (.ref a) by rw [ev]; rfl)
  obtain rfl : u0 = Value.ref a := rv0
  have hv : (fun x => (ps.zip us).reverse.lookup x) ar.arg = some (.ref a) := bind_rev T.nd h0 hu0
  have hka : scope.names.lookup ar.arg = some .local := T.par _ (List.mem_of_getElem? h0)
  have hCh : h₀.get? C = _ := KI _ _ hC
  have hint : interactive env = false := by
    unfold interactive
    have : (env.scope.kind == ScopeKind.module) = false := by rw [show env.scope.kind = ScopeKind.function from T.kind]; rfl
    rw [this]; rfl
  refine ks_wpAt_execs_cons (ks_wpAt_Expr_any (ks_wpAt_MethodCall ?_ (meth_eq h2 h4)) hint)
  refine ks_wpAt_super_base (env := env) T.ks T.kc rfl rfl (KI _ _ lk) rfl har rfl (KI _ _ hcode) rfl hvs hfile T.top ?_
  obtain ⟨mb, hmb, hbt⟩ := I.ok.mod.blt
  refine ks_loadName_global T.kind T.ks (PySem.Calls.loadGlobal_builtin (env := env) (I.ok.mod.glob.keeps I.bk) T.sup (hmb.keeps I.bk) ((hbt _ (by decide)).trans (by decide +kernel : bootBuiltins "super" = some (.type "super"))) ⟨rfl, ?_⟩)
  refine wpAny_loadName_free T.kind T.kc rfl ⟨_, KI _ _ hcell, rfl⟩ ?_
  refine wpAny_loadName_local T.kind hka hns hv ?_
  refine ks_wpAny_isType_cls hCh rfl ⟨rfl, ?_⟩
  refine ks_wpAny_call_super hCh rfl ho rfl (fun c e => by cases e) (looks_mroIn KI T.self) (fun h1 e1 kk1 => ?_)
  have KI1 : K.In h1 := KI.keeps kk1
  have hne : a ≠ C := fun z => by rw [z, hCh] at ho; cases ho
  refine kxs_getMethod kxs_ValueError e1 (looks_opaque KI1 T.noop) (l₀ := cd.mro) (fun A Q E s k q => wpAny_bind ((looks_clsIn KI1 hcd) A _ E s k (wpAny_pure q))) rfl KI1 hal ?_ hne rfl ?_
  · have IA : PySem.W.InstAt h1 a _ C none := ⟨kk1 _ _ ho, rfl, rfl, trivial⟩
    exact IA.type.andThen (looks_subIn KI1 T.ve)
  have I1 : Inv X [] (vs.map some) H ⟨h1, s.gens, s.drawn, s.toks + (ps.zip us).length, s.os⟩ := I.kept kk1
  have I2 : Inv X [] (vs.map some) H ⟨h1.push (kxs_mw "ValueError.__init__" a), s.gens, s.drawn, s.toks + (ps.zip us).length + 1, s.os⟩ := I1.kept fun b o q => Heap.get?_push_of_some _ q
  have I3 := inv_pin (u := h1.objs.size) (o := kxs_mw "ValueError.__init__" a) I2 (Heap.get?_push_at rfl rfl) (I1.hok.fresh (Nat.le_refl _)) (Nat.ne_of_gt I1.lt) (I1.nofs (Nat.le_refl _)) (fun v z => by cases z)
  have hs := star_cons (es := []) (env := env) h2
  have hrun := hta.run pos _ _ _ H _ I3 qa
  rw [show starEach [e] X.env = (false, eval e env) :: starEach [] env from hs] at hrun
  show wpAny _ _ (callWith pos (.ref h1.objs.size) [] (backTo pos (starEach [e] env)) []) _ _ _
  rw [hs]
  refine kxs_callWith (i := "ValueError.__init__") (x := a) rfl (PySem.Calls.evalArgs_plain (wpAny_mono hrun (fun us2 s4 hh => ?_) fun _ _ z => z.elim))
  obtain ⟨ws2, H1, I4, r1, hlen, eH⟩ := hh
  rw [eH] at I4
  refine ⟨(I4.pin (h1.objs.size, kxs_mw "ValueError.__init__" a) (by simp)).1, ?_⟩
  have hlen2 : us2.length ≤ sizeLine := by
    rw [← Paired.length r1, sizeLine_eq]
    omega
  refine sup_call T.oex I4 (I4.pin (h1.objs.size, kxs_mw "ValueError.__init__" a) (by simp)).1 ea hlen2 fun s' J => ?_
  have fin : ∀ {σ' : L2.St} {H' : Hp} {v : V} {u : Value} {s'' : Shared}, Inv X [] σ' H' s'' → RelV v u → Q v H' → CE outer P w H s Q u s'' :=
    fun {σ' H' v u s''} J rv q => ⟨v, H', J.os, J.bare, J.base, J.hok, rv, q⟩
  refine wpAt_of_wpAny (wpAny_mono (ht.run [] s' (vs.map some) H _ (inv_unpin J) qt) (fun fl s'' hs2 => ?_) fun _ _ z => z.elim)
  cases fl with
  | ret u =>
    obtain ⟨v, σ', H', J2, rv, q⟩ := hs2
    exact fin J2 rv q
  | next =>
    obtain ⟨σ', H', J2, q⟩ := hs2
    exact fin (v := V.non) (u := Value.none) J2 rfl q
  | brk =>
    obtain ⟨_, _, _, q⟩ := hs2
    exact False.elim q
  | cont =>
    obtain ⟨_, _, _, q⟩ := hs2
    exact False.elim q
end
end Z

/-! Z18c: raise, the classes of a law. -/
namespace Z
open PySem PySem.Spec L2 PyProof.Rows PySem.W
/-- what such an __init__ keeps: one field -/
def spI (K : Frag) (C : Addr) (f : Str) (m : Bool) : Sp := fun vs H Q E => ∃ a y, vs = [.ref a, y] ∧ H a = some (exo a C none) ∧ (m = true → ∃ i : Int, y = .int i ∧ i.natAbs.log2 < 1900) ∧ ∀ dx, H dx = none → dx ≠ a → Q .non (upd (upd H dx (exd dx [(f, y)])) a (exo a C (some dx)))
/-- the message's form: a text; a text around the field -/
def msgE (m : Bool) (p : Str) : Expr → Bool
  | .Constant (.str _) _ _ => !m
  | .JoinedStr [.Constant (.str s1) _ _, .FormattedValue (.Name x _) c none _] _ => m && (x == p) && decide (c = -1) && decide (s1.length ≤ 1000)
  | .JoinedStr [.Constant (.str s1) _ _, .FormattedValue (.Name x _) c none _, .Constant (.str s2) _ _] _ => m && (x == p) && decide (c = -1) && decide (s1.length ≤ 1000) && decide (s2.length ≤ 1000)
  | _ => false
theorem msgE_ns {m : Bool} {p : Str} {e : Expr} (h : msgE m p e = true) : ns e = true := by
  unfold msgE at h
  split at h <;> first
    | rfl
    | cases h
theorem len_text {i : Int} (h : i.natAbs.log2 < 1900) : (Str.ofString (toString i)).length ≤ 1000000 := by
  have e := int_text_length_le (k := 1920) (by decide) (show i.natAbs.log2 < 1920 by omega)
  rw [PySem.ofString_length]; omega
theorem msg_ok {X : Cx} {m : Bool} {p : Str} {e : Expr} (h : msgE m p e = true) (hN : X.N[1]? = some p) (hv : Vis X.env.scope p) (hd : (p == ("__debug__" : Str)) = false) (hcd : (p == ("__classdict__" : Str)) = false) {a : Addr} {y : V} (hy : m = true → ∃ i : Int, y = .int i ∧ i.natAbs.log2 < 1900) (H : Hp) :
    ∃ ta, PA X [e] ta ∧ ta ([.ref a, y].map some) H fun us H1 => us.length ≤ 1000 ∧ H1 = H := by
  have fin : ∀ {te : TE}, PE X e te → te ([V.ref a, y].map some) H (fun x H1 => [x].length ≤ 1000 ∧ H1 = H) → ∃ ta, PA X [e] ta ∧ ta ([.ref a, y].map some) H fun us H1 => us.length ≤ 1000 ∧ H1 = H := fun {te} he ht =>
    ⟨_, pa_cons he pa_nil (star_cons (msgE_ns h)), ht⟩
  have ve : Str.empty.length = 0 := rfl
  have la : ∀ a b : Str, (a ++ b).length = a.length + b.length := fun a b => PySem.Str.length_append a b
  unfold msgE at h
  split at h
  · exact fin pe_str ⟨by simp, rfl⟩
  · simp only [Bool.and_eq_true, beq_iff_eq, decide_eq_true_eq] at h
    obtain ⟨⟨⟨hm, rfl⟩, rfl⟩, h1⟩ := h
    obtain ⟨i, rfl, hi⟩ := hy hm
    have ht := len_text hi
    refine fin (pe_joined (.cons pe_str (.cons (pe_fmt (pe_var hN hv hd hcd)) .nil))) ?_
    refine ⟨_, rfl, by rw [la, ve, sizeLine_eq]; omega, .int i, rfl, .inr ⟨i, rfl, by omega, _, rfl, ?_, by simp, rfl⟩⟩
    show (Str.empty ++ _ ++ Str.ofString (toString i)).length ≤ sizeLine
    rw [la, la, ve, sizeLine_eq]; omega
  · simp only [Bool.and_eq_true, beq_iff_eq, decide_eq_true_eq] at h
    obtain ⟨⟨⟨⟨hm, rfl⟩, rfl⟩, h1⟩, h2⟩ := h
    obtain ⟨i, rfl, hi⟩ := hy hm
    have ht := len_text hi
    refine fin (pe_joined (.cons pe_str (.cons (pe_fmt (pe_var hN hv hd hcd)) (.cons pe_str .nil)))) ?_
    refine ⟨_, rfl, by rw [la, ve, sizeLine_eq]; omega, .int i, rfl, .inr ⟨i, rfl, by omega, _, rfl, ?_, _, rfl, ?_, by simp, rfl⟩⟩
    · show (Str.empty ++ _ ++ Str.ofString (toString i)).length ≤ sizeLine
      rw [la, la, ve, sizeLine_eq]; omega
    · show (Str.empty ++ _ ++ Str.ofString (toString i) ++ _).length ≤ sizeLine
      rw [la, la, la, ve, sizeLine_eq]; omega
  · cases h
/-- the body's form -/
def iniB (m : Bool) (f se p : Str) : List Stmt → Bool
  | [.Expr (.Call (.Attribute (.Call (.Name x0 _) [] [] _) x1 p2) [e] [] pos) _, .Assign [.Attribute (.Name x2 _) x3 _] (.Name x4 _) _] =>
    (x0 == ("super" : Str)) && (x1 == ("__init__" : Str)) && (p2.endLine == pos.line) && msgE m p e && (x2 == se) && (x3 == f) && (x4 == p)
  | _ => false
section
variable {P : Program} {w : World} {K : Frag} {mg : Str → Option Value} {base : Heap} {C fI cc cda : Addr} {name qual : Str} {params : Arguments} {scope : Scope}
theorem init_sp {k : Nat} {m : Bool} {f se p : Str} {body : List Stmt} {dV kV doc pm ct oc : Value} {an od : Option Addr} {osl : Array (Option Value)} (T : IniC P K mg C fI cc cda qual params scope [se, p])
    (lk : K.lookup fI = some ⟨oc, od, .func (ksFn name qual params body scope dV kV doc pm an (.ref cda) ct cc), osl⟩) (hb : iniB m f se p body = true) (hno : PySem.W.findIn K (.ref C) f = some none)
    (h1 : (p == ("__debug__" : Str)) = false ∧ (p == ("__classdict__" : Str)) = false ∧ (se == ("__debug__" : Str)) = false ∧ (se == ("__classdict__" : Str)) = false) :
    FnOk P w K mg base (L2.CX P w) (k + 1) fI (ksFn name qual params body scope dV kV doc pm an (.ref cda) ct cc) [se, p] (spI K C f m) := by
  unfold iniB at hb
  split at hb
  · rename_i x0 q0 q1 x1 p2 e pos q2 x2 q3 x3 q4 x4 q5 q6
    simp only [Bool.and_eq_true, beq_iff_eq] at hb
    obtain ⟨⟨⟨⟨⟨⟨rfl, rfl⟩, h4⟩, hm⟩, rfl⟩, rfl⟩, rfl⟩ := hb
    refine init_fn (C := C) (cc := cc) (by simpa using h4) T lk (fun vs H Q E ⟨a, y, e, _⟩ => by rw [e]; rfl) (msgE_ns hm) fun X eK eN eS ec eP ew vs H Q E hsp => ?_
    obtain ⟨a, y, rfl, ea, hy, q⟩ := hsp
    have hN0 : X.N[0]? = some x2 := by rw [eN]; rfl
    have hN1 : X.N[1]? = some x4 := by rw [eN]; rfl
    have hv0 : Vis X.env.scope x2 := .inl (by rw [eS]; exact T.par _ (by simp))
    have hv1 : Vis X.env.scope x4 := .inl (by rw [eS]; exact T.par _ (by simp))
    refine ⟨a, [y], rfl, ea, msg_ok hm hN1 hv1 h1.1 h1.2.1 hy H, ?_⟩
    refine ⟨_, pss_cons (ps_ost (pe_var hN0 hv0 h1.2.2.1 h1.2.2.2) (pe_var hN1 hv1 h1.1 h1.2.1) rfl) pss_nil, ?_⟩
    subst eK
    exact ⟨y, rfl, .ref a, rfl, a, C, rfl, T.oex, hno, .inl ⟨ea, fun dx n ne => q dx n ne⟩⟩
  · cases hb
end

/-! ### raise -/
/-- what is known of a class that is raised -/
structure Xk (T : Tb) (X : Cx) (c : Nat) (x : Str) (m : Bool) : Prop where
  ex : ∃ fI fd f se p, OexC X.K (T.ca c) ∧ PySem.W.findIn X.K (.ref (T.ca c)) "__init__" = some (some (.ref fI)) ∧ PySem.W.typeIn X.K (.ref fI) = some (.type "function") ∧
    FnOk X.prog X.w X.K X.mg X.base (L2.CX X.prog X.w) 1 fI fd [se, p] (spI X.K (T.ca c) f m) ∧ Binds X.K fd [se, p] [] ∧ X.mg x = some (.ref (T.ca c)) ∧ T.cf c = [f]
section
variable {X : Cx} {T : Tb} {W : WX} {kp : List Nat} {Rt : RT}
theorem msg_one {m : Bool} {xs : List D} (h : msgOk m xs = true) : ∃ x, xs = [x] ∧ (m = true → ∃ i : Int, x = .int i ∧ i.natAbs.log2 < 1900) := by
  unfold msgOk at h
  split at h
  · rename_i x
    exact ⟨x, rfl, fun z => by cases z⟩
  · rename_i i
    exact ⟨_, rfl, fun _ => ⟨i, rfl, by simpa using h⟩⟩
  · cases h
theorem rd_rs {q : Bool} {rs : Env → R (List D)} {Γ Γ1 : Gm} {ms : List Nat} {O : Out} {DD : Ends} {σ : L2.St} {H : Hp} {c : Nat} {m : Bool} {f : Str} {C : Addr} (hC : T.ca c = C) (hf : T.cf c = [f]) (hm : ms.all own = true) (hkp : ∀ i ∈ kp, 1 ≤ lvOf Γ1 i)
    (z : rdS T W kp Rt (fun e => (rs e).st fun xs e1 => if msgOk m xs = true then .exc (.exc c xs) e1 else .bad) Γ O DD σ H) :
    tMkO C (spI T.K C f m) [] (rdL T W kp q rs Γ ms Γ1) σ H (fun cls d H' => W cls d σ H') := by
  obtain ⟨e, F, fp, s, z⟩ := z
  refine ⟨e, F, fp, s, ?_⟩
  dsimp only at z
  cases e1 : rs e with
  | bad => rw [e1] at z; exact z
  | exc y e' => rw [e1] at z; exact XWs.at_ z
  | ok xs e' =>
    rw [e1] at z
    simp only [R.st_ok] at z
    intro F1 H1 fp1 vs f1 g1 val
    by_cases hmsg : msgOk m xs = true
    case neg => rw [if_neg hmsg] at z; exact z.elim
    rw [if_pos hmsg] at z
    have z : XWs T W kp Rt.ro σ F H fp (.exc c xs) e'.s := z
    have r1 := vall_share g1.st.sub val hm
    have hc := val.cells
    obtain ⟨x, rfl, hx⟩ := msg_one hmsg
    obtain ⟨y, rfl, ry⟩ := rfl1 r1
    refine ⟨by simp, fun a na => ⟨a, y, rfl, upd_same, fun z => ?_, fun dx n ne => ⟨rfl, dx, [(f, y)], upd_same, ?_, ?_, ?_⟩⟩⟩
    · obtain ⟨i, rfl, hi⟩ := hx z
      exact ⟨i, rf_int ry, hi⟩
    · rw [upd_ne ne, upd_same]
    · rw [upd_ne ne] at n; exact n
    · have n1 : H1 dx = none := by rw [upd_ne ne] at n; exact n
      have eH : upd (del (upd (upd (upd H1 a (exo a C none)) dx (exd dx [(f, y)])) a (exo a C (some dx))) a) dx (.xd [(f, y)]) = upd H1 dx (.xd [(f, y)]) := by
        funext b
        by_cases hb : b = dx
        · subst hb; rw [upd_same, upd_same]
        · rw [upd_ne hb, upd_ne hb]
          by_cases ha : b = a
          · subst ha; rw [del_same, na]
          · rw [del_ne ha, upd_ne ha, upd_ne hb, upd_ne ha]
      rw [eH]
      let G : AS := fun b => f1 b ∨ Own fp1 b
      have hG : ∀ b, G b → F1 b = none ∧ H1 b ≠ none := fun b z => z.elim (hc b) fun z => g1.st.cells z
      have big : ∀ (g : AS), (∀ b, g b → G b) → Sub (frz F1 H1 g) (frz F1 H1 G) := fun g hg b o ea => by
        by_cases h1 : g b
        · rw [frz_in h1] at ea; rw [frz_in (hg b h1)]; exact ea
        · rw [frz_out h1] at ea
          by_cases h2 : G b
          · rw [frz_in h2]; exact g1.st.sub b o ea
          · rw [frz_out h2]; exact ea
      refine z σ (frz F1 H1 G) _ (.ref C) (some dx) rfl (fun _ _ => rfl) ((frz_le g1.st.sub).trans (upd_sub n1)) g1.st.le ?_ (fun i hi => ?_) ⟨by rw [hC], by rw [hf]; simp, dx, [y], rfl, by rw [upd_same, hf]; rfl, by rw [hf]; rfl, RFL.sub (big f1 fun _ z => .inl z) _ _ r1⟩
      · refine ⟨g1.ch.sub.trans (frz_sub fun b z => (hG b z).1), fun b o hb hn => ?_, fun b hb hb2 => ?_⟩
        · have k1 : H1 b = some o := g1.ch.keep b o hb fun z => hn z.2
          rw [upd_ne (fun e => by rw [e, n1] at k1; cases k1)]
          exact k1
        · by_cases h1 : G b
          · exact g1.grow b h1.symm
          · rw [frz_out h1] at hb2
            exact g1.ch.new b hb hb2
      · obtain ⟨d2, v2, e3, e4, r2⟩ := st_share g1.st (hkp i hi)
        exact ⟨d2, v2, e3, e4, RF.sub (big _ fun _ z => .inr z) _ _ r2⟩
theorem passL {X : Cx} : Passes (L2.CX X.prog X.w) X (fun _ _ _ => False) := fun _ _ _ _ _ _ _ h => by
  obtain ⟨_, _, _, _, _, _, _, _, _, _, _, _, z⟩ := h
  exact z.elim
theorem ss_rs {q : Bool} {rs : Env → R (List D)} {x : Str} {p pos pos2 : Pos} {a : Expr} {as : List Expr} {Γ Γ1 : Gm} {ms : List Nat} {c : Nat} {m : Bool} (hK : X.K = T.K) (hc : X.calm = true) (tk : Takes X W) (hr : Room 2 X.A) (hg : Gl X x) (k : Xk T X c x m) (hm : ms.all own = true) (hkp : ∀ i ∈ kp, 1 ≤ lvOf Γ1 i)
    (ha : SL X T W kp q rs (a :: as) Γ ms Γ1) (h2 : (a :: as).all ns = true) (hdb : (x == ("__debug__" : Str)) = false) :
    SS X T W kp Rt (fun e => (rs e).st fun xs e1 => if msgOk m xs = true then .exc (.exc c xs) e1 else .bad) (.Raise (some (.Call (.Name x p) (a :: as) [] pos)) none pos2) Γ ⟨none, none, none⟩ := by
  obtain ⟨fI, fd, f, se, pp, oex, iC, tI, F1, hb, hmg, hcf⟩ := k.ex
  simp only [List.all_cons, Bool.and_eq_true] at h2
  refine PS.mono (ps_raise hc tk (pmk_oex (dvs := []) (ds := []) oex iC tI F1 hr hb .nil passL hg hmg ha hdb (star_cons h2.1) (star_any h2.2))) fun DD σ H z => ?_
  have := rd_rs (q := q) rfl hcf hm hkp z
  rw [hK]
  exact this
end
end Z

/-! Z18d: try, except suites that look at the exception and return. -/
namespace Z
open PySem PySem.Spec L2 PyProof.Rows
/-! ### several clauses 'except x as n' -/
abbrev Cl := Value × Nat × (Addr → Value → Option Addr → TS)
/-- behind a suite its name is gone -/
def goneE (D : Ends) (i : Nat) : Ends := { nx := fun τ G => D.nx (τ.set i none) G, rt := D.rt, bk := fun τ G => D.bk (τ.set i none) G, ct := fun τ G => D.ct (τ.set i none) G }
/-- what the clauses wish of an exception of the body -/
def wMA (K : PySem.W.Frag) (Wout : WX) (D : Ends) : List Cl → WX
  | [] => Wout
  | q :: r => fun cls d τ G => ∃ b, PySem.W.exmOne K cls q.1 = some b ∧ (b = true → ∀ a, G a = none → q.2.2 a cls d (goneE D q.2.1) (τ.set q.2.1 (some (.ref a))) G) ∧ (b = false → wMA K Wout D r cls d τ G)
/-- one clause and its reading -/
structure ClOk (X : Cx) (x n : Str) (suite : List Stmt) (q : Cl) : Prop where
  nm : Names X x q.1
  sl : X.N[q.2.1]? = some n
  lo : X.env.kindOf n = some .local
  su : ∀ (a : Addr) (oe : Obj) (cls : Value) (d : Option Addr) (pn : List (Addr × Obj)), Zc cls d oe → (∃ ws, oe.data = .fields ws) → PSs (X.suite a ((a, oe) :: pn)) suite (q.2.2 a cls d)
inductive HdA (X : Cx) : List ExceptHandler → List Cl → Prop
  | nil : HdA X [] []
  | cons {x n : Str} {q : Cl} {b₀ : Stmt} {bs : List Stmt} {p1 p2 : Pos} {hd : List ExceptHandler} {l : List Cl} (k : ClOk X x n (b₀ :: bs) q) (r : HdA X hd l) : HdA X (.ExceptHandler (some (.Name x p1)) (some n) (b₀ :: bs) p2 :: hd) (q :: l)
section
variable {X : Cx} {pins : List (Addr × Obj)} {D : Ends} {Wout : WX}
/-- a caught exception and the state that waits for its clause -/
structure Caught (X : Cx) (pins : List (Addr × Obj)) (B : Heap) (sI : Shared) (a : Addr) (cls : Value) (d : Option Addr) (τ : L2.St) (G : Hp) (s3 : Shared) : Prop where
  J : L2.Inv X pins τ G sI
  fl : HandSPX.FlyingZ B (X.env :: X.outer) a (Zc cls d) s3.heap
  back : ∀ h4, B.StaysIn h4 → s3.heap.UpToSlots h4 → L2.Inv X pins τ G { s3 with heap := h4 }
  air : ∀ h4, HandSPX.HeldZ B (X.env :: X.outer) a (Zc cls d) X.env.locals h4 → s3.heap.UpToSlots h4 → ∀ W : WX, W cls d τ G → XE X W (.ref a) { s3 with heap := h4 }
  nL : a ≠ X.env.locals
  nF : a ∉ X.fs
  nG : G a = none
theorem end_sp {τ6 : L2.St} {G6 : Hp} {i : Nat} {n : Str} {s6 : Shared} {p2 : Pos} {P : Shared → Prop} (hN : X.N.Nodup) (hi : X.N[i]? = some n) (hl : X.env.kindOf n = some .local) (U : L2.Inv X pins τ6 G6 s6) (k : ∀ s7, L2.Inv X pins (τ6.set i none) G6 s7 → P s7) :
    wpAny (model X.prog X.w) X.A (do bindName X.env n .none; unbindBehindTheSuite X.env n p2) (fun _ s7 => P s7) X.xe s6 := gone_ok U hN hi hl k
/-- the clauses, one after the other -/
theorem clauses (hf : X.env.frame = some X.env.locals) (hN : X.N.Nodup) (tk : Takes X Wout) {B : Heap} {sI : Shared} {a : Addr} {cls : Value} {d : Option Addr} {τ : L2.St} {G : Hp} {s3 : Shared} (c : Caught X pins B sI a cls d τ G s3) :
    ∀ {hd : List ExceptHandler} {l : List Cl}, HdA X hd l → wMA X.K Wout D l cls d τ G → wpAny (model X.prog X.w) X.A (handleBy (.ref a) X.env hd) (L2.SP X pins D) X.xe s3 := by
  intro hd l hk
  have J3 : L2.Inv X pins τ G s3 := c.back s3.heap c.fl.1 (Heap.UpToSlots.refl _)
  obtain ⟨oe3, ws3, g3, z3, d3⟩ := c.fl.there
  have S3 := J3.suite g3 d3 c.nG c.nL c.nF
  induction hk with
  | nil =>
    intro ww
    refine wpAny_handleBy_nil ?_
    obtain ⟨_, _, _, oe, ws, T, oT, tt, ge, ze, de, e1, _⟩ := id c.fl
    unfold PySem.passOn
    refine wpAny_bind (wpAny_field ge de e1 ?_)
    rw [if_neg (show ¬ ((Value.ref T == Value.none) = true) from by simp)]
    have out : wpAny (model X.prog X.w) X.A (setFlight (.ref a) X.env.frame) (fun _ s4 => wpAny (model X.prog X.w) X.A (throw (.ref a) : Sem Flow) (L2.SP X pins D) X.xe s4) X.xe s3 := by
      rw [hf]
      exact HandSPX.setFlight_upZ c.fl fun h4 held u4 => wpAny_throw (tk _ _ (c.air h4 held u4 Wout ww))
    first
      | exact wpAny_bind (wpAny_pure (wpAny_bind out))
      | exact wpAny_bind out
  | @cons x n q b₀ bs p1 p2 hd2 l2 k r ih =>
    intro ww
    obtain ⟨b, hb, yes, no⟩ := ww
    refine wpAny_handleBy_cons (codeAny_handlers_test ?_) (by intro z; cases z)
    have ty : PySem.W.Looks (model X.prog X.w) s3.heap (typeOf (.ref a)) cls := fun _ _ _ _ kk z => wpAny_typeOf_ref (kk _ _ g3) (by rw [z3.1]; exact z)
    have ask := PySem.W.exm_one (M := model X.prog X.w) J3.kIn ty hb
    have nameV : ∀ {Q : Value → Shared → Prop} {E : Value → Shared → Prop}, Q q.1 s3 → wpAny (model X.prog X.w) (X.A.mark (some (.ref a))) (eval (.Name x p1) X.env) Q E s3 := fun {Q E} z => by
      obtain ⟨hg, hdb, hm | ⟨hm, hv, hn⟩⟩ := k.nm
      · exact ld_glob (X := X.suite a ((a, oe3) :: (X.pn ++ pins))) S3 hg hm z hdb
      · exact ld_blt (X := X.suite a ((a, oe3) :: (X.pn ++ pins))) S3 hg hm hv z hn hdb
    refine nameV (ask.here ?_)
    cases b with
    | false =>
      show wpAny _ X.A (handleBy (.ref a) X.env hd2) _ _ _
      exact ih (no rfl)
    | true =>
      refine codeAny_handlers_suite_as ?_
      refine HandSPX.lands_againZ c.fl fun h4 f4 u4 => ?_
      have J4 := c.back h4 f4.1 u4
      obtain ⟨oe4, ws4, g4, z4, d4⟩ := f4.there
      have S4 := J4.suite g4 d4 c.nG c.nL c.nF
      refine store_ok (X := X.suite a ((a, oe4) :: (X.pn ++ pins))) (v := .ref a) S4 hN k.sl (.inl k.lo) rfl (fun s5 S5 => ?_) (.inr k.lo)
      refine wpAny_mono ((k.su a oe4 cls d (X.pn ++ pins) z4 ⟨_, d4⟩).run [] s5 _ G _ S5 (yes rfl a c.nG)) (fun fl6 s6 res => ?_) (fun _ _ z => z.elim)
      cases fl6 with
      | ret u =>
        obtain ⟨v6, τ6, G6, S6, rv6, w6⟩ := res
        exact end_sp hN k.sl k.lo (S6.unsuite J3.ok) fun s7 U7 => ⟨_, _, _, U7, rv6, w6⟩
      | next =>
        obtain ⟨τ6, G6, S6, w6⟩ := res
        exact end_sp hN k.sl k.lo (S6.unsuite J3.ok) fun s7 U7 => ⟨_, _, U7, w6⟩
      | brk =>
        obtain ⟨τ6, G6, S6, w6⟩ := res
        exact end_sp hN k.sl k.lo (S6.unsuite J3.ok) fun s7 U7 => ⟨_, _, U7, w6⟩
      | cont =>
        obtain ⟨τ6, G6, S6, w6⟩ := res
        exact end_sp hN k.sl k.lo (S6.unsuite J3.ok) fun s7 U7 => ⟨_, _, U7, w6⟩
theorem ps_try_MA {body : List Stmt} {h₀ : ExceptHandler} {hds : List ExceptHandler} {l : List Cl} {pos : Pos} {tb : WX → TS} (hst : X.stack = X.env :: X.outer) (hf : X.env.frame = some X.env.locals) (hN : X.N.Nodup) (tk : Takes X Wout)
    (hb : ∀ (W : WX) (pn : List (Addr × Obj)) (xe : Value → Shared → Prop), Takes (X.tr pn xe) W → PassesOwn (model X.prog X.w) X.A X.env xe → PSs (X.tr pn xe) body (tb W))
    (hh : HdA X (h₀ :: hds) l) : PS X (.Try body (h₀ :: hds) [] [] pos) (fun D τ G => tb (wMA X.K Wout D l) D τ G) := by
  refine ⟨fun pins s τ0 G0 D I h => wpAny_Try_except ?_⟩
  have ok := I.ok
  have frs2 : X.A.frames = some (X.env :: X.outer) := by rw [ok.frames, hst]
  let hand : Value → Shared → Prop := fun e s1 => wpAny (model X.prog X.w) X.A (noteFrame e X.env) (fun _ s2 => wpAny (model X.prog X.w) X.A (setFlight e none) (fun _ s3 => wpAny (model X.prog X.w) X.A (handleBy e X.env (h₀ :: hds)) (L2.SP X pins D) X.xe s3) X.xe s2) X.xe s1
  have run := (hb (wMA X.K Wout D l) (X.pn ++ pins) hand (fun u s1 xx => ?_) PassesOwn.looking).run [] s τ0 G0 D (I.toTry _) h
  rotate_left
  · obtain ⟨a, B, sI, pins', τ, G, cls, d, rfl, J', nb, up, sky, na, os, ag, ww⟩ := xx
    have J : L2.Inv X pins τ G sI := J'.ofTry ok
    have sky2 : Sky B (X.env :: X.outer) a (Zc cls d) X.env.locals s1.heap := by rw [← hst]; exact sky
    show wpAny (model X.prog X.w) X.A (noteFrame (.ref a) X.env) _ _ _
    refine Sky.land Zc.steady frs2 hf sky2 fun h3 fl3 up3 => ?_
    obtain ⟨oe3, ws3, g3, _, d3⟩ := fl3.there
    have far : a ∉ frs (X.env :: X.outer) := fun hm => by
      obtain ⟨_, ob, eo, hnf⟩ := fl3.2.2.1.mem hm
      rw [g3] at eo; cases eo
      exact hnf _ d3
    refine clauses hf hN tk (s3 := { s1 with heap := h3 }) ⟨J, fl3, fun h4 st4 u4 => J.landed nb st4 ((up.trans up3).trans u4) os ag, fun h4 held u4 W w4 => ?_, fun z => ?_, fun hm => ?_, na⟩ hh ww
    · exact ⟨a, B, sI, pins, τ, G, cls, d, rfl, J, nb, (up.trans up3).trans u4, .inr (.inr (by rw [hst]; exact held)), na, os, ag, w4⟩
    · exact far (List.mem_filterMap.mpr ⟨X.env, List.mem_cons_self, by rw [hf, z]⟩)
    · obtain ⟨e, he, z⟩ := List.mem_filterMap.mp hm
      exact far (List.mem_filterMap.mpr ⟨e, List.mem_cons_of_mem _ he, z⟩)
  · refine wpAny_mono run (fun fl s1 res => ?_) fun _ _ z => z
    cases fl with
    | ret u =>
      obtain ⟨v, τ, G, U, rv, w1⟩ := res
      exact ⟨v, τ, G, U.ofTry ok, rv, w1⟩
    | next =>
      obtain ⟨τ, G, U, w1⟩ := res
      exact wpAny_execs_nil ⟨τ, G, U.ofTry ok, w1⟩
    | brk =>
      obtain ⟨τ, G, U, w1⟩ := res
      exact ⟨τ, G, U.ofTry ok, w1⟩
    | cont =>
      obtain ⟨τ, G, U, w1⟩ := res
      exact ⟨τ, G, U.ofTry ok, w1⟩
end

/-! ### suites that look at the exception and return a tuple -/
/-- the caught exception in its slot, its field in its dict -/
def hI (i : Nat) (a dd : Addr) (f : Str) (y : V) (σ : L2.St) (H : Hp) : Prop := σ[i]? = some (some (.ref a)) ∧ H dd = some (.xd [(f, y)])
/-- isinstance(e, c) by the class alone -/
def stat (tb : Str → Option Bool) (en : Str) : Nat → Expr → Option Bool
  | 0, _ => none
  | n + 1, x => match x with
    | .Call (.Name g _) [.Name z _, .Name c _] [] _ => if (g == ("isinstance" : Str)) = true ∧ (z == en) = true then tb c else none
    | .UnaryOp .Not y _ => (stat tb en n y).map (!·)
    | .BoolOp .Or [y] _ => stat tb en n y
    | .BoolOp .Or (y :: z :: r) p => (stat tb en n y).bind fun b => if b = true then some true else stat tb en n (.BoolOp .Or (z :: r) p)
    | .BoolOp .And [y] _ => stat tb en n y
    | .BoolOp .And (y :: z :: r) p => (stat tb en n y).bind fun b => if b = true then stat tb en n (.BoolOp .And (z :: r) p) else some false
    | _ => none
inductive At | non | bl (b : Bool) | int (i : Int) | str (s : Txt) | fx
deriving DecidableEq
def At.v (y : V) : At → V
  | .non => .non
  | .bl b => .bl b
  | .int i => .int i
  | .str s => .str (txt s)
  | .fx => y
def At.d (x : D) : At → D
  | .non => .non
  | .bl b => .bl b
  | .int i => .int i
  | .str s => .str s
  | .fx => x
def At.c (i : Nat) : At → C
  | .non => .non
  | .bl b => .bl b
  | .int j => .int j
  | .str s => .str s
  | .fx => .fx i 0
def atE (f en : Str) : Expr → Option At
  | .Constant .none _ _ => some .non
  | .Constant (.bool b) _ _ => some (.bl b)
  | .Constant (.int i) _ _ => some (.int i)
  | .Constant (.str y) _ _ => some (.str y.cps.toList)
  | .Attribute (.Name z _) g _ => if (z == en) = true ∧ (g == f) = true then some .fx else none
  | _ => none
def atL (f en : Str) : List Expr → Option (List At)
  | [] => some []
  | x :: xs => (atE f en x).bind fun a => (atL f en xs).map fun r => a :: r
/-- a suite: ifs that don't take, a tuple handed back -/
def suiteB (tb : Str → Option Bool) (f en : Str) : List Stmt → Option (List At)
  | [.Return (some (.Tuple es _ _)) _] => if es.length ≤ 100 then atL f en es else none
  | .If c _ [] _ :: r => if stat tb en 50 c = some false then suiteB tb f en r else none
  | _ => none
section
variable {X : Cx} {a C dd : Addr} {oe : Obj} {pn : List (Addr × Obj)} {i : Nat} {f en : Str} {y : V}
theorem call_isE2 (E : L2.ExcC X.K C) (hz : Zc (.ref C) (some dd) oe) (hf : ∃ vs, oe.data = .fields vs) : CallR (X.suite a ((a, oe) :: pn)) (.builtin "isinstance") (fun xs H Q => (∃ fs, H dd = some (.xd fs)) ∧ rIsE X.K C a xs H Q) := by
  intro pins s σ H xs us Q I r h
  obtain ⟨⟨fs, ed⟩, c, cv, b, rfl, hcv, e, q⟩ := h
  cases r with
  | cons rx rr =>
    cases rr with
    | cons rt rr =>
      cases rr
      cases rx
      have ec := hcv _ rt
      subst ec
      have hget := (I.pin (a, oe) (List.mem_append.mpr (.inl List.mem_cons_self))).1
      obtain ⟨vs, hv⟩ := hf
      have hx : ObjOk X.prog X.w H s.heap dd (.xd fs) := I.hok dd _ ed
      obtain ⟨mA, hns, _⟩ := hx
      obtain ⟨od, ho, _⟩ := lookIn_ns hns
      have J : PySem.W.InstAt s.heap a oe C (some od) := ⟨hget, hz.1, by unfold PySem.W.notCls; rw [hv] <;> rfl, by rw [hz.2]; exact ho⟩
      have hcl : (PySem.W.clsIn X.K C).isSome = true := by
        obtain ⟨cd, hc, _⟩ := PySem.W.any_some E.hd
        rw [hc]; rfl
      exact PySem.W.kia_one (PySem.W.kitx_exc hcl E.hg E.hk E.hs E.ha E.hn E.ht E.hm) I.kIn J e (fun z => nomatch z) fun tk => ⟨.bl b, H, I.kept (t' := tk) fun _ _ z => z, rfl, q⟩
/-- what the names of classes stand for -/
def TbOk (X : Cx) (C : Addr) (tb : Str → Option Bool) : Prop := ∀ c b, tb c = some b → ∃ (v : V) (cv : Value), (∀ (X' : Cx), X'.K = X.K → X'.mg = X.mg → X'.env = X.env → ∀ p, PE X' (.Name c p) (tC v)) ∧ (∀ u, RelV v u → u = cv) ∧ PySem.W.kitOne X.K (.ref C) cv = some b
structure SuOk (X : Cx) (C : Addr) (i : Nat) (f en : Str) : Prop where
  e : L2.ExcC X.K C
  xf : XfC X.K C
  no : PySem.W.findIn X.K (.ref C) f = some none
  sl : X.N[i]? = some en
  vi : Vis X.env.scope en
  db : (en == ("__debug__" : Str)) = false ∧ (en == ("__classdict__" : Str)) = false
  isg : Gl X "isinstance"
  ism : X.mg "isinstance" = none
theorem pt_stat {tb : Str → Option Bool} (S : SuOk X C i f en) (ht : TbOk X C tb) (hz : Zc (.ref C) (some dd) oe) (hf : ∃ vs, oe.data = .fields vs) : ∀ (n : Nat) (x : Expr) (b : Bool), stat tb en n x = some b →
    PT (X.suite a ((a, oe) :: pn)) x (fun σ H Q => hI i a dd f y σ H ∧ Q b H) ∧ (∀ op es p, x = .BoolOp op es p → PW (X.suite a ((a, oe) :: pn)) x (fun σ H Q => hI i a dd f y σ H ∧ Q b H))
  | 0, _, _, h => by simp [stat] at h
  | n + 1, x, b, h => by
    simp only [stat] at h
    have fromW : ∀ {op es p}, x = .BoolOp op es p → PW (X.suite a ((a, oe) :: pn)) x (fun σ H Q => hI i a dd f y σ H ∧ Q b H) → PT (X.suite a ((a, oe) :: pn)) x (fun σ H Q => hI i a dd f y σ H ∧ Q b H) ∧ (∀ op es p, x = .BoolOp op es p → PW (X.suite a ((a, oe) :: pn)) x (fun σ H Q => hI i a dd f y σ H ∧ Q b H)) := fun _ hw => ⟨hw.pt, fun _ _ _ _ => hw⟩
    split at h
    · rename_i g p0 z p1 c p2 p3
      split at h
      · rename_i hh
        obtain ⟨h1, h2⟩ := hh
        have h1 : g = "isinstance" := by simpa using h1
        have h2 : z = en := by simpa using h2
        subst h1 h2
        obtain ⟨v, cv, hv, hcv, hk⟩ := ht c b h
        refine ⟨PT.mono (pt_val (t := fun σ H Q => hI i a dd f y σ H ∧ Q (.bl b) H) (PE.mono (pe_callB (X := X.suite a ((a, oe) :: pn)) (call_isE2 S.e hz hf) S.isg S.ism (by decide +kernel) (pa_cons (pe_var (i := i) S.sl S.vi S.db.1 S.db.2) (pa_cons (hv (X.suite a ((a, oe) :: pn)) rfl rfl rfl p2) pa_nil)) (by decide) (by decide)) fun σ H Q q => ?_)) fun σ H Q q => ⟨q.1, b, rfl, q.2⟩, fun _ _ _ e => by cases e⟩
        obtain ⟨⟨q1, q2⟩, q3⟩ := q
        exact ⟨.ref a, q1, ⟨_, q2⟩, v, cv, b, rfl, hcv, hk, q3⟩
      · cases h
    · rename_i z p
      rw [Option.map_eq_some_iff] at h
      obtain ⟨b', hb', rfl⟩ := h
      have ih := (pt_stat S ht hz hf n z b' hb').1
      exact ⟨PT.mono (pt_not ih) fun σ H Q q => q, fun _ _ _ e => by cases e⟩
    · rename_i z p
      have ih := (pt_stat S ht hz hf n z b h).1
      exact fromW rfl (pw_or1 ih)
    · rename_i z1 z2 r p
      rw [Option.bind_eq_some_iff] at h
      obtain ⟨b1, hb1, h⟩ := h
      have i1 := (pt_stat S ht hz hf n z1 b1 hb1).1
      cases b1 with
      | true =>
        simp at h
        subst h
        exact fromW rfl (PW.mono (pw_or (tB' := fun _ _ _ => False) i1 ⟨fun _ _ _ _ _ _ _ q => q.elim⟩) fun σ H Q q => ⟨q.1, by simpa using q.2⟩)
      | false =>
        simp at h
        have i2 := (pt_stat S ht hz hf n _ b h).2 _ _ _ rfl
        exact fromW rfl (PW.mono (pw_or i1 i2) fun σ H Q q => ⟨q.1, by simpa using q⟩)
    · rename_i z p
      have ih := (pt_stat S ht hz hf n z b h).1
      exact fromW rfl (pw_and1 ih)
    · rename_i z1 z2 r p
      rw [Option.bind_eq_some_iff] at h
      obtain ⟨b1, hb1, h⟩ := h
      have i1 := (pt_stat S ht hz hf n z1 b1 hb1).1
      cases b1 with
      | false =>
        simp at h
        subst h
        exact fromW rfl (PW.mono (pw_and (tB' := fun _ _ _ => False) i1 ⟨fun _ _ _ _ _ _ _ q => q.elim⟩) fun σ H Q q => ⟨q.1, by simpa using q.2⟩)
      | true =>
        simp at h
        have i2 := (pt_stat S ht hz hf n _ b h).2 _ _ _ rfl
        exact fromW rfl (PW.mono (pw_and i1 i2) fun σ H Q q => ⟨q.1, by simpa using q⟩)
    · cases h
theorem pe_at (S : SuOk X C i f en) (hz : Zc (.ref C) (some dd) oe) (hf : ∃ vs, oe.data = .fields vs) {x : Expr} {t : At} (h : atE f en x = some t) : PE (X.suite a ((a, oe) :: pn)) x (fun σ H Q => hI i a dd f y σ H ∧ Q (t.v y) H) ∧ ns x = true := by
  unfold atE at h
  split at h <;> first
    | (cases h; done)
    | skip
  · cases h; exact ⟨PE.mono pe_non fun _ _ _ q => q.2, rfl⟩
  · cases h; exact ⟨PE.mono pe_bl fun _ _ _ q => q.2, rfl⟩
  · cases h; exact ⟨PE.mono pe_int fun _ _ _ q => q.2, rfl⟩
  · cases h
    refine ⟨PE.mono pe_str fun σ H Q q => ?_, rfl⟩
    have := q.2
    simp only [At.v, txt, Array.toArray_toList] at this
    exact this
  · split at h
    · rename_i z p g p2 hh
      cases h
      obtain ⟨h1, h2⟩ := hh
      have h1 : z = en := by simpa using h1
      have h2 : g = f := by simpa using h2
      subst h1 h2
      refine ⟨PE.mono (pe_xf S.xf S.no hz hf (pe_var (i := i) S.sl S.vi S.db.1 S.db.2)) fun σ H Q q => ?_, rfl⟩
      exact ⟨.ref a, q.1.1, rfl, rfl, dd, [(g, y)], y, rfl, q.1.2, by simp [List.lookup], q.2⟩
    · cases h
theorem pa_at (S : SuOk X C i f en) (hz : Zc (.ref C) (some dd) oe) (hf : ∃ vs, oe.data = .fields vs) : ∀ {xs : List Expr} {ts : List At}, atL f en xs = some ts → PA (X.suite a ((a, oe) :: pn)) xs (fun σ H Q => hI i a dd f y σ H ∧ Q (ts.map (At.v y)) H) ∧ ts.length = xs.length
  | [], ts, h => by
    simp only [atL, Option.some.injEq] at h
    subst h
    exact ⟨PA.mono pa_nil fun _ _ _ q => q.2, rfl⟩
  | x :: xs, ts, h => by
    simp only [atL, Option.bind_eq_some_iff, Option.map_eq_some_iff] at h
    obtain ⟨t, h1, r, h2, rfl⟩ := h
    obtain ⟨k1, k2⟩ := pe_at (a := a) (pn := pn) (y := y) S hz hf h1
    obtain ⟨k3, k4⟩ := pa_at S hz hf h2
    exact ⟨PA.mono (pa_cons k1 k3 (star_cons k2)) fun σ H Q q => ⟨q.1, q.1, q.2⟩, by simp [k4]⟩
theorem pss_suite {tb : Str → Option Bool} (S : SuOk X C i f en) (ht : TbOk X C tb) (hz : Zc (.ref C) (some dd) oe) (hf : ∃ vs, oe.data = .fields vs) : ∀ {xs : List Stmt} {ts : List At}, suiteB tb f en xs = some ts →
    PSs (X.suite a ((a, oe) :: pn)) xs (fun D σ H => hI i a dd f y σ H ∧ ∀ p, H p = none → D.rt (.ref p) (upd H p (.tup (ts.map (At.v y))))) := by
  intro xs
  induction xs with
  | nil => intro ts h; simp [suiteB] at h
  | cons x xs ih =>
    intro ts h
    unfold suiteB at h
    split at h
    · rename_i es x1 p1 p2 heq
      obtain ⟨rfl, rfl⟩ := List.cons.inj heq
      split at h
      · rename_i hl
        obtain ⟨k1, k2⟩ := pa_at (a := a) (pn := pn) (y := y) S hz hf h
        refine PSs.mono (pss_cons (ps_ret (pe_tup k1)) pss_nil) fun D σ H q => ⟨q.1, ?_, fun p np => q.2 p np⟩
        rw [List.length_map, k2, sizeLine_eq]; omega
      · cases h
    · rename_i c br p r heq
      obtain ⟨rfl, rfl⟩ := List.cons.inj heq
      split at h
      · rename_i hs
        have k1 := (pt_stat (a := a) (pn := pn) (y := y) S ht hz hf 50 c false hs).1
        refine PSs.mono (pss_cons (ps_if (t := fun _ _ _ => False) k1 ⟨fun _ _ _ _ _ _ q => q.elim⟩ pss_nil) (ih h)) fun D σ H q => ⟨q.1, ?_⟩
        exact q
      · cases h
    · cases h
end
end Z

/-! Z18e: try, the rule. -/
namespace Z
open PySem PySem.Spec L2 PyProof.Rows
/-- the clauses of a try, as the core has them -/
inductive HdO (T : Tb) (X : Cx) : S → List ExceptHandler → Prop
  | nil : HdO T X .pass []
  | cons {c i : Nat} {x n f : Str} {ts : List At} {tb : Str → Option Bool} {b₀ : Stmt} {bs : List Stmt} {p1 p2 : Pos} {nx : S} {r : List ExceptHandler} (nm : Names X x (.ref (T.ca c))) (sl : X.N[i]? = some n) (lo : X.env.kindOf n = some .local)
      (su : SuOk X (T.ca c) i f n) (tk : TbOk X (T.ca c) tb) (sb : suiteB tb f n (b₀ :: bs) = some ts) (cf : T.cf c = [f]) (em : ∀ c', T.cf c' ≠ [] → PySem.W.exmOne T.K (.ref (T.ca c')) (.ref (T.ca c)) = some (T.P.sub c' c)) (leaf : ∀ c', T.P.sub c' c = true → c' = c) (rest : HdO T X nx r) :
      HdO T X (.hc c i [.ret (.tup (ts.map (At.c i)))] nx) (.ExceptHandler (some (.Name x p1)) (some n) (b₀ :: bs) p2 :: r)
section
variable {X : Cx} {T : Tb} {W : WX} {kp : List Nat} {Rt : RT}
/-- a clause's reading -/
def suT (T : Tb) (c i : Nat) (f : Str) (ts : List At) : Addr → Value → Option Addr → TS := fun a cls d D σ H => cls = .ref (T.ca c) ∧ ∃ dd y, d = some dd ∧ hI i a dd f y σ H ∧ ∀ p, H p = none → D.rt (.ref p) (upd H p (.tup (ts.map (At.v y))))
theorem evL_at {G : List D} {ko : Oracle} {i c : Nat} {x0 : Z.D} : ∀ {ts : List At} {e : Env}, e.get i = some (.exc c [x0]) → (evL G ko (ts.map (At.c i)) e = .ok (ts.map (At.d x0)) e ∧ (ts.map (At.d x0)).all flat = true) ∨ evL G ko (ts.map (At.c i)) e = .bad
  | [], e, _ => .inl ⟨by simp only [List.map_nil, evL], rfl⟩
  | t :: ts, e, h => by
    have h1 : (ev G ko (At.c i t) e = .ok (At.d x0 t) e ∧ flat (At.d x0 t) = true) ∨ ev G ko (At.c i t) e = .bad := by
      cases t
      case fx =>
        simp only [At.c, At.d, ev, h, List.getElem?_cons_zero]
        cases hf : flat x0 with
        | true => exact .inl ⟨by rw [if_pos rfl], rfl⟩
        | false => exact .inr (by rw [if_neg (by simp)])
      all_goals exact .inl ⟨by simp only [At.c, At.d, ev], rfl⟩
    rcases h1 with ⟨h1, f1⟩ | h1
    · rcases evL_at (G := G) (ko := ko) (ts := ts) h with ⟨h2, f2⟩ | h2
      · exact .inl ⟨by simp only [List.map_cons, evL, h1, R.bind_ok, h2], by simp only [List.map_cons, List.all_cons, f1, f2, Bool.and_self]⟩
      · exact .inr (by simp only [List.map_cons, evL, h1, R.bind_ok, h2, R.bind_bad])
    · exact .inr (by simp only [List.map_cons, evL, h1, R.bind_bad])
/-- flat values, at any level -/
theorem rol_flat {K : PySem.W.Frag} {F H : Hp} : ∀ {xs : List Z.D} {vs : List V} (m : Nat), RFL K F xs vs → xs.all flat = true → ROL K F H xs m vs emp
  | [], vs, m, h, _ => by simp only [RFL] at h; simp only [ROL]; exact ⟨h, trivial⟩
  | x :: xs, vs, m, h, hf => by
    simp only [RFL] at h
    obtain ⟨w, ws, rfl, q, r⟩ := h
    simp only [List.all_cons, Bool.and_eq_true] at hf
    simp only [ROL]
    exact ⟨w, ws, emp, emp, rfl, RF.flat hf.1 q, rol_flat m r hf.2, fun _ _ z => z, by funext a; simp [emp]⟩
/-- a new tuple of flat values is of any level -/
theorem new_flat {K : PySem.W.Frag} {F H : Hp} {xs : List Z.D} {vs : List V} {m : Nat} {p : Addr} (s : Sub F H) (r : RFL K F xs vs) (hf : xs.all flat = true) (np : H p = none) (hm : 2 ≤ m) {Q : VK}
    (k : ∀ F2 H2 w f2, Sub F2 H2 → Sub F F2 → Sub H H2 → (∀ a, F a = none → F2 a ≠ none → emp a ∨ H a = none) → (∀ a, f2 a → emp a ∨ H a = none) → RO K F2 H2 (.tup xs) m w f2 → Q w H2) : Q (.ref p) (upd H p (.tup vs)) := by
  have sH : Sub H (upd H p (.tup vs)) := upd_sub np
  have Fp : F p = none := by
    cases e : F p with
    | none => rfl
    | some o => have := s _ _ e; rw [np] at this; cases this
  refine k F _ (.ref p) (fun b => b = p ∨ emp b) (s.trans sH) (Sub.refl F) sH (fun a z z' => absurd z z') (fun a z => ?_) ?_
  · rcases z with rfl | z
    · exact .inr np
    · exact z.elim
  · unfold RO
    rw [if_neg (by omega)]
    exact ⟨p, vs, emp, rfl, upd_same, Fp, fun z => z, rol_flat _ r hf, rfl⟩
theorem rfl_at_ts {K : PySem.W.Frag} {F : Hp} {x0 : Z.D} {y : V} (r : RF K F x0 y) : ∀ ts : List At, RFL K F (ts.map (At.d x0)) (ts.map (At.v y))
  | [] => by simp [RFL]
  | t :: ts => by
    simp only [List.map_cons, RFL]
    refine ⟨_, _, rfl, ?_, rfl_at_ts r ts⟩
    cases t <;> simp only [At.d, At.v, RF]
    exact r
theorem hdO_hd {h : S} {hd : List ExceptHandler} (k : HdO T X h hd) : ∃ l : List Cl, HdA X hd l ∧ ∀ {G : List D} {ko : Oracle} {O : Out} {D : Ends} {x : Z.D} {e1 : Env} {σ : L2.St} {F H : Hp} {fp : Nat → AS}, (∀ i, lvOf Rt.Γr i = 0) → Rt.Γr.length = σ.length → X.N.length = σ.length → 1 ≤ Rt.rl →
    OutS T W kp Rt O σ F H fp D (hnd G ko T.P.sub h x e1) → XWs T (wMA T.K W D l) kp Rt.ro σ F H fp x e1.s := by
  induction k with
  | nil =>
    refine ⟨[], .nil, fun {G ko O D x e1 σ F H fp} _ _ _ _ z => ?_⟩
    simp only [hnd] at z
    exact z
  | @cons c i x n f ts tb b₀ bs p1 p2 nx r nm sl lo su tk sb cf em leaf rest ih =>
    obtain ⟨l, hl, hz⟩ := ih
    refine ⟨(.ref (T.ca c), i, suT T c i f ts) :: l, .cons ⟨nm, sl, lo, fun a oe cls d pn hzc hf => ⟨fun pins s σ H D I q => ?_⟩⟩ hl, fun {G ko O D x e1 σ F H fp} hΓ hΓl hN hrl z => ?_⟩
    · obtain ⟨rfl, dd, y, rfl, q1, q2⟩ := q
      exact (pss_suite su tk hzc hf sb).run pins s σ H D I ⟨q1, q2⟩
    · intro σ' F' H' cls dx hlen hro sub le ch kpf ex
      cases x <;> try exact ex.elim
      rename_i c' xs
      obtain ⟨rfl, h0, dd, vs, rfl, hd, hvl, rx⟩ := ex
      refine ⟨T.P.sub c' c, em c' h0, fun hb a na => ?_, fun hb => ?_⟩
      · have hcc := leaf c' hb
        subst hcc
        rw [cf] at hvl hd
        obtain ⟨y, rfl⟩ : ∃ y, vs = [y] := List.length_eq_one_iff.mp hvl
        obtain ⟨x0, rfl⟩ : ∃ x0, xs = [x0] := by
          have := rfl_len rx
          exact List.length_eq_one_iff.mp (by simpa using this.symm)
        have ry : RF T.K F' x0 y := by
          simp only [RFL] at rx
          obtain ⟨w, ws, e, q, _⟩ := rx
          cases e; exact q
        have hi : i < σ'.length := by
          rw [hlen, ← hN]
          exact (List.getElem?_eq_some_iff.mp sl).1
        have hi2 : i < e1.s.length := by rw [le]; exact hi
        have hg : (e1.set i (.exc c' [x0])).get i = some (.exc c' [x0]) := by
          show (e1.s.set i _)[i]? = _
          rw [List.getElem?_set_self hi2]
        have ev0 := evL_at (G := G) (ko := ko) (ts := ts) hg
        rcases ev0 with ⟨ev0, fl⟩ | ev0
        rotate_left
        · have ev1 : exs G ko T.P.sub [.ret (.tup (ts.map (At.c i)))] (e1.set i (.exc c' [x0])) = .bad := by
            simp only [exs, ex, ev, ev0, R.bind_bad, R.st_bad, RS.seq_bad]
          simp only [hnd, hb, if_true, ev1] at z
          exact z.elim
        have ev1 : exs G ko T.P.sub [.ret (.tup (ts.map (At.c i)))] (e1.set i (.exc c' [x0])) = .rt (.tup (ts.map (At.d x0))) (e1.set i (.exc c' [x0])) := by
          simp only [exs, ex, ev, ev0, R.bind_ok, R.st_ok, RS.seq_rt]
        simp only [hnd, hb, if_true, ev1] at z
        refine ⟨rfl, dd, y, rfl, ⟨List.getElem?_set_self hi, hd⟩, fun p np => ?_⟩
        show D.rt (.ref p) (upd H' p (.tup (ts.map (At.v y))))
        have rts := rfl_at_ts (F := F') ry ts
        have fin : ∀ F2 H2 w f2, Sub F2 H2 → Sub F' F2 → Sub H' H2 → (∀ a, F' a = none → F2 a ≠ none → emp a ∨ H' a = none) → (∀ a, f2 a → emp a ∨ H' a = none) → RO T.K F2 H2 (.tup (ts.map (At.d x0))) Rt.rl w f2 → D.rt w H2 := fun F2 H2 w f2 s2 sF sH nw gr ro => by
          refine z σ' F2 H2 (fun _ => emp) w f2 ⟨⟨s2, by rw [hΓl, hlen], ?_, fun j hj => by rw [hΓ j] at hj; omega, fun _ _ _ _ q => q.elim, fun _ _ => rfl⟩, fun b _ q => ?_, ⟨ch.sub.trans sF, fun b o hb hn => sH b o (ch.keep b o hb hn), fun b h1 h2 => ?_⟩, fun b q => ?_, hro, hlen⟩ ro
          · show (e1.s.set i _).length = _
            rw [List.length_set, le]
          · obtain ⟨j, q⟩ := q; exact q.elim
          · cases e : F' b with
            | some o => exact ch.new b h1 (by rw [e]; simp)
            | none => exact Grow.none (f := emp) (g := emp) ch (fun _ q => q) ((nw b e h2).resolve_left fun q => q)
          · rcases q with ⟨j, q⟩ | q
            · exact q.elim
            · exact Grow.none (f := emp) (g := emp) ch (fun _ q => q) ((gr b q).resolve_left fun q => q)
        by_cases h1 : Rt.rl = 1
        · exact new_frozen (tup := true) (f := emp) sub rts np (Q := D.rt) fun F2 H2 w f2 s2 sF sH nw gr vw => fin F2 H2 w f2 s2 sF sH nw gr (by rw [h1]; exact vw.ro (by decide))
        · exact new_flat sub rts fl np (show 2 ≤ Rt.rl by omega) (Q := D.rt) fin
      · simp only [hnd, hb, Bool.false_eq_true, if_false] at z
        exact hz hΓ hΓl hN hrl z σ' F' H' _ _ hlen hro sub le ch kpf ⟨rfl, h0, dd, vs, rfl, hd, hvl, rx⟩
/-- try: body, clauses that look at the exception and hand back a tuple -/
theorem ss_tr {G : List D} {ko : Oracle} {bs : List S} {h : S} {body : List Stmt} {h₀ : ExceptHandler} {hds : List ExceptHandler} {pos : Pos} {Γ : Gm} {O : Out} (hK : X.K = T.K) (hst : X.stack = X.env :: X.outer) (hf : X.env.frame = some X.env.locals) (hN : X.N.Nodup) (tk : Takes X W) (hΓ : ∀ i, lvOf Rt.Γr i = 0) (hΓl : Rt.Γr.length = Γ.length) (hNl : X.N.length = Γ.length) (hrl : 1 ≤ Rt.rl)
    (hb : ∀ (W' : WX) (pn : List (Addr × Obj)) (xe : Value → Shared → Prop), Takes (X.tr pn xe) W' → PassesOwn (model X.prog X.w) X.A X.env xe → SSs (X.tr pn xe) T W' kp Rt (exs G ko T.P.sub bs) body Γ O) (hh : HdO T X h (h₀ :: hds)) :
    SS X T W kp Rt (ex G ko T.P.sub (.tr bs h)) (.Try body (h₀ :: hds) [] [] pos) Γ O := by
  obtain ⟨l, hl, hz⟩ := hdO_hd (W := W) (kp := kp) (Rt := Rt) hh
  refine PS.mono (ps_try_MA (tb := fun W' => rdS T W' kp Rt (exs G ko T.P.sub bs) Γ O) hst hf hN tk hb hl) fun DD σ H z => ?_
  obtain ⟨e, F, fp, s, z⟩ := z
  refine ⟨e, F, fp, s, ?_⟩
  simp only [ex] at z
  rw [hK]
  cases e1 : exs G ko T.P.sub bs e with
  | nx e' => rw [e1] at z; exact z
  | bk e' => rw [e1] at z; exact z
  | ct e' => rw [e1] at z; exact z
  | rt d e' => rw [e1] at z; exact z
  | bad => rw [e1] at z; exact z
  | exc x e' =>
    rw [e1] at z
    exact hz hΓ (hΓl.trans s.lG) (hNl.trans s.lG) hrl z
end
end Z

/-! Z18f: the methods of texts. -/
namespace Z
open PySem PySem.Spec L2 PyProof.Rows
/-! ### plain: places of a sign -/
theorem at_one {s : Txt} {c i : Nat} : StrLaws.At (txt s) ⟨#[c]⟩ (txt s).length i ↔ s[i]? = some c := by
  have := StrLaws.subAt_one (txt s) c i
  rw [txt_list] at this
  exact this
theorem drop_free {s : Txt} {c a : Nat} (h : ∀ k, a ≤ k → ¬ StrLaws.At (txt s) ⟨#[c]⟩ (txt s).length k) : c ∉ s.drop a := fun hm => by
  obtain ⟨j, hj⟩ := List.getElem?_of_mem hm
  rw [List.getElem?_drop] at hj
  exact h (a + j) (by omega) (at_one.mpr hj)
theorem drop_cut {s : Txt} {c a d : Nat} (h1 : a ≤ d) (h2 : StrLaws.At (txt s) ⟨#[c]⟩ (txt s).length d) (h3 : ∀ k, a ≤ k → k < d → ¬ StrLaws.At (txt s) ⟨#[c]⟩ (txt s).length k) :
    s.drop a = (s.drop a).take (d - a) ++ c :: s.drop (d + 1) ∧ c ∉ (s.drop a).take (d - a) := by
  have hd := at_one.mp h2
  obtain ⟨hlt, he⟩ := List.getElem?_eq_some_iff.mp hd
  constructor
  · have e1 : s.drop a = (s.drop a).take (d - a) ++ (s.drop a).drop (d - a) := (List.take_append_drop _ _).symm
    have e2 : (s.drop a).drop (d - a) = s.drop d := by rw [List.drop_drop]; congr 1; omega
    have e3 : s.drop d = c :: s.drop (d + 1) := by rw [List.drop_eq_getElem_cons hlt, he]
    rw [e2, e3] at e1
    exact e1
  · intro hm
    obtain ⟨j, hj⟩ := List.getElem?_of_mem hm
    rw [List.getElem?_take] at hj
    split at hj
    · rename_i hlt2
      rw [List.getElem?_drop] at hj
      exact h3 (a + j) (by omega) (by omega) (at_one.mpr hj)
    · cases hj
theorem splitT_free {c : Nat} : ∀ {s : Txt}, c ∉ s → splitT c s = [s]
  | [], _ => rfl
  | x :: r, h => by
    simp only [List.mem_cons, not_or] at h
    simp only [splitT]
    rw [if_neg (Ne.symm h.1), splitT_free h.2]
theorem splitT_cut {c : Nat} {v : Txt} : ∀ {u : Txt}, c ∉ u → splitT c (u ++ c :: v) = u :: splitT c v
  | [], _ => by simp [splitT]
  | x :: r, h => by
    simp only [List.mem_cons, not_or] at h
    simp only [List.cons_append, splitT]
    rw [if_neg (Ne.symm h.1), splitT_cut h.2]
theorem sub_txt (s : Txt) (a b : Nat) : Builtin.Str.strSub (txt s) a b = txt ((s.drop a).take (b - a)) := by
  apply Str.ext'
  apply Array.toList_inj.mp
  rw [StrLaws.strSub_toList, txt_list, txt_list]
theorem parts_split {s : Txt} {c : Nat} : ∀ (cuts : List Nat) (a f : Nat), StrLaws.ChainG (txt s) ⟨#[c]⟩ (txt s).length a cuts f → (∀ k, f ≤ k → ¬ StrLaws.At (txt s) ⟨#[c]⟩ (txt s).length k) →
    StrLaws.partsFrom (txt s) 1 a cuts = (splitT c (s.drop a)).map txt ∧ cuts.length = (s.drop a).count c
  | [], a, f, h, hn => by
    have e : f = a := h
    subst e
    have hf := drop_free hn
    rw [splitT_free hf]
    refine ⟨?_, (List.count_eq_zero.mpr hf).symm⟩
    simp only [StrLaws.partsFrom, List.map_cons, List.map_nil, sub_txt, txt_len]
    rw [List.take_of_length_le (by simp)]
  | d :: r, a, f, h, hn => by
    obtain ⟨h1, h2, h3, h4⟩ := h
    obtain ⟨e1, e2⟩ := drop_cut h1 h2 h3
    obtain ⟨i1, i2⟩ := parts_split r (d + 1) f h4 hn
    rw [e1, splitT_cut e2]
    refine ⟨?_, ?_⟩
    · simp only [StrLaws.partsFrom, List.map_cons, sub_txt]
      rw [i1]
    · rw [List.count_append, List.count_cons_self, List.count_eq_zero.mpr e2, List.length_cons, i2]; omega
theorem split_txt (s : Txt) (c : Nat) : Txt.split (txt s) (txt [c]) = (splitT c s).map txt := by
  obtain ⟨f, h1, h2⟩ := StrLaws.occ_tight (txt s) ⟨#[c]⟩ (by simp [Str.length])
  obtain ⟨i1, i2⟩ := parts_split _ 0 f h1 h2
  rw [List.drop_zero] at i1 i2
  have one : ∀ (h : c ∉ s), [txt s] = (splitT c s).map txt := fun h => by rw [splitT_free h]; rfl
  unfold PySem.Txt.split
  rw [txt_one]
  split
  · rename_i hc
    simp only [Bool.or_eq_true, decide_eq_true_eq] at hc
    rcases hc with hc | hc
    · rw [txt_len] at hc
      have : s = [] := List.length_eq_zero_iff.mp (by have : (⟨#[c]⟩ : Str).length = 1 := rfl; omega)
      subst this
      rfl
    · have := StrLaws.kind_free (txt s) c hc
      rw [txt_list] at this
      exact one this
  · split
    · rename_i hc
      rw [List.isEmpty_iff] at hc
      rw [hc] at i2
      exact one (List.count_eq_zero.mp i2.symm)
    · rw [StrLaws.partsBetween_eq]
      exact i1
theorem count_txt (s : Txt) (c : Nat) : Txt.count (txt s) (txt [c]) = (s.count c : Int) := by
  obtain ⟨f, h1, h2⟩ := StrLaws.occ_tight (txt s) ⟨#[c]⟩ (by simp [Str.length])
  obtain ⟨i1, i2⟩ := parts_split _ 0 f h1 h2
  rw [List.drop_zero] at i2
  unfold PySem.Txt.count
  rw [txt_one, i2]
theorem join_txt (s : Txt) : ∀ (l : List Txt), Txt.join (txt s) (l.map txt) = txt (joinT s l)
  | [] => rfl
  | [x] => by
    unfold PySem.Txt.join
    rw [StrLaws.glued_eq_join]
    rfl
  | x :: y :: r => by
    have ih := join_txt s (y :: r)
    unfold PySem.Txt.join at ih ⊢
    rw [StrLaws.glued_eq_join] at ih ⊢
    have e : Str.join (txt s) (List.map txt (x :: y :: r)) = txt x ++ txt s ++ Str.join (txt s) (List.map txt (y :: r)) := rfl
    rw [e, ih, txt_app, txt_app]
    rfl
theorem join_len (s : Txt) : ∀ (l : List Txt), (l.map (·.length)).sum + l.length * s.length ≤ (joinT s l).length + s.length
  | [] => by simp [joinT]
  | [x] => by simp [joinT]
  | x :: y :: r => by
    have ih := join_len s (y :: r)
    have e : joinT s (x :: y :: r) = x ++ s ++ joinT s (y :: r) := rfl
    rw [e]
    simp only [List.map_cons, List.sum_cons, List.length_cons, List.length_append, Nat.add_mul, Nat.one_mul] at ih ⊢
    omega
theorem splitT_len (c : Nat) : ∀ s : Txt, (splitT c s).length = s.count c + 1
  | [] => rfl
  | x :: r => by
    have ih := splitT_len c r
    simp only [splitT]
    split
    · rename_i h; subst h; simp [ih]
    · rename_i h
      rw [List.count_cons_of_ne h]
      cases e : splitT c r with
      | nil => rw [e] at ih; simp at ih
      | cons w ws => rw [e] at ih; simpa using ih
section
variable {X : Cx} {T : Tb} {W : WX} {kp : List Nat} {K : PySem.W.Frag}
theorem strs_vs {H : Hp} : ∀ {xs : List D} {vs : List V} {l : List Txt}, RFL K H xs vs → strs? xs = some l → vs = (l.map txt).map V.str
  | [], vs, l, h, e => by
    simp only [RFL] at h
    simp only [strs?, Option.some.injEq] at e
    subst e h; rfl
  | x :: xs, vs, l, h, e => by
    simp only [RFL] at h
    obtain ⟨w, ws, rfl, q, r⟩ := h
    cases x <;> simp only [strs?, reduceCtorEq, Option.map_eq_some_iff] at e
    obtain ⟨l', e1, rfl⟩ := e
    obtain rfl := rf_str q
    rw [strs_vs r e1]; rfl
theorem mf_count : MtF K .count (fun x xs H Q => ∃ a b, x = .str a ∧ xs = [.str b] ∧ Q (.int (Txt.count a b)) H) := by
  intro H x v xs vs d Q r rs hg
  cases x <;> (match xs, hg with
    | [], hg => simp [m1] at hg
    | _ :: _ :: _, hg => simp [m1] at hg
    | [y], hg => ?_) <;> (cases y <;> simp only [m1, reduceCtorEq] at hg)
  rename_i s t
  match t, hg with
  | [], hg => simp [m1] at hg
  | _ :: _ :: _, hg => simp [m1] at hg
  | [c], hg =>
    simp only [m1] at hg
    split at hg <;> simp only [reduceCtorEq, Option.some.injEq] at hg
    subst hg
    obtain ⟨u, rfl, ru⟩ := rfl1 rs
    obtain rfl := rf_str r
    obtain rfl := rf_str ru
    exact ⟨rfl, fun k => ⟨_, _, rfl, rfl, by rw [count_txt]; exact k _ mk_int⟩⟩
theorem mf_join : MtF K .join (fun x xs H Q => ∃ a p, ∃ ys : List Str, x = .str a ∧ xs = [.ref p] ∧ (SqL K H p (ys.map V.str) ∨ SqT K H p (ys.map V.str)) ∧
    (ys.map (·.length)).sum + ys.length * a.length ≤ 16777216 ∧ Q (.str (Txt.join a ys)) H) := by
  intro H x v xs vs d Q r rs hg
  cases x <;> (match xs, hg with
    | [], hg => simp [m1] at hg
    | _ :: _ :: _, hg => simp [m1] at hg
    | [y], hg => ?_) <;> (cases y <;> simp only [m1, reduceCtorEq] at hg)
  rename_i s _ l
  split at hg <;> simp only [reduceCtorEq, Option.bind_eq_some_iff] at hg
  rename_i hs
  obtain ⟨ts, h1, h2⟩ := hg
  unfold guardL at h2
  split at h2 <;> simp only [reduceCtorEq, Option.some.injEq] at h2
  rename_i hl
  subst h2
  obtain ⟨u, rfl, ru⟩ := rfl1 rs
  obtain rfl := rf_str r
  simp only [RF] at ru
  obtain ⟨a, ws, rfl, q, rw_⟩ := ru
  obtain rfl := strs_vs rw_ h1
  refine ⟨rfl, fun k => ⟨_, a, ts.map txt, rfl, rfl, .inl (.inl q), ?_, by rw [join_txt]; exact k _ mk_str⟩⟩
  have := join_len s ts
  have e1 : ((ts.map txt).map (·.length)).sum = (ts.map (·.length)).sum := by
    rw [List.map_map]; congr 1
  rw [e1, List.length_map, txt_len]
  have h4 : (4000000 : Nat) = LIM := rfl
  omega
/-! ### split: the answer is a new list -/
def rSpl : V → List V → Hp → VK → Prop := fun x xs H Q => ∃ a b, x = .str a ∧ xs = [.str b] ∧ (b.length == 0) = false ∧ a.length + 2 ≤ sizeLine ∧ rNewStrs (Txt.split a b) H Q
theorem rol_strs {F H : Hp} : ∀ (l : List Txt) (m : Nat), ROL K F H (l.map D.str) m ((l.map txt).map V.str) emp
  | [], _ => by simp [ROL]
  | x :: l, m => by
    simp only [List.map_cons, ROL]
    exact ⟨_, _, emp, emp, rfl, by simp only [RO]; exact ⟨trivial, trivial⟩, rol_strs l m, fun _ z => z.elim, by funext a; simp [emp]⟩
theorem rd_split {q1 q2 : Bool} {ra : Env → R D} {rs : Env → R (List D)} {Γ Γ1 Γ2 : Gm} {m : Nat} {ms : List Nat} {σ : L2.St} {H : Hp} {Q : VK} (hm : own m = true ∨ q2 = true)
    (h : rdE T W kp (q1 && q2) (fun e => (ra e).bind fun x e1 => if mtOk .split x = true then (rs e1).bind fun xs e2 => R.lift (m1 .split x xs) e2 else .bad) Γ 100 Γ2 σ H Q) :
    tBM T.K "str" rSpl (rdE T W kp q1 ra Γ m Γ1) (rdL T W kp q2 rs Γ1 ms Γ2) σ H Q := by
  obtain ⟨e, F, fp, s, h⟩ := h
  refine ⟨e, F, fp, s, ?_⟩
  dsimp only at h
  cases e1 : ra e with
  | bad => rw [e1] at h; exact h
  | exc y e' => rw [e1] at h; exact h
  | ok x e' =>
    rw [e1] at h
    simp only [R.bind_ok] at h
    intro F1 H1 fp1 v f1 g1 val1
    by_cases hx : mtOk .split x = true
    case neg => rw [if_neg hx] at h; exact h.elim
    rw [if_pos hx] at h
    refine ⟨ty_mt (mm := .split) (val1.rf g1.st.sub) hx, e', F1, fp1, g1.st, ?_⟩
    cases e2 : rs e' with
    | bad => rw [e2] at h; exact h
    | exc y e2' => rw [e2] at h; exact XW.back h g1
    | ok ys e2' =>
      rw [e2] at h
      simp only [R.bind_ok] at h
      intro F2 H2 fp2 us f2 g2 val2
      cases hg : m1 .split x ys with
      | none => rw [hg] at h; exact h.elim
      | some d =>
        rw [hg] at h
        simp only [R.lift_some] at h
        have gg := Go.trans g1 g2 val1.cells
        have v1 := (val1.stay g2.ch g1.dis hm (hm.imp own_ne id)).rf g2.st.sub
        have v2 := ValL.rf g2.st.sub val2
        cases x <;> (match ys, hg with
          | [], hg => simp [m1] at hg
          | _ :: _ :: _, hg => simp [m1] at hg
          | [y], hg => ?_) <;> (cases y <;> simp only [m1, reduceCtorEq] at hg)
        rename_i sx _ t
        match t, hg with
        | [], hg => simp [m1] at hg
        | _ :: _ :: _, hg => simp [m1] at hg
        | [c], hg =>
          simp only [m1] at hg
          unfold guardL at hg
          split at hg <;> simp only [reduceCtorEq, Option.some.injEq] at hg
          rename_i hl
          subst hg
          obtain ⟨u, rfl, ru⟩ := rfl1 v2
          obtain rfl := rf_str v1
          obtain rfl := rf_str ru
          refine ⟨_, _, rfl, rfl, rfl, ?_, fun p np => ?_⟩
          · rw [txt_len]; exact Nat.le_trans (Nat.add_le_add_right hl 2) (by decide)
          · rw [split_txt]
            have Fp : F2 p = none := by
              cases e : F2 p with
              | none => rfl
              | some o => have := g2.st.sub _ _ e; rw [np] at this; cases this
            have np1 : ¬ Own fp2 p := fun z => (g2.st.cells z).2 np
            have g3 : Go T.K (q1 && q2) Γ2 σ F H fp e.s e2'.s F2 (upd H2 p (.lst (((splitT c sx).map txt).map V.str))) fp2 (fun a => a = p) := by
              refine ⟨gg.same, gg.st.upd_out Fp np1, fun a z z2 => ?_, ⟨gg.ch.sub, fun a x hx hw => ?_, gg.ch.new⟩, fun a z => ?_⟩
              · subst z; exact np1 z2
              · have k := gg.ch.keep a x hx hw
                have : a ≠ p := by rintro rfl; rw [np] at k; cases k
                rw [upd_ne this]; exact k
              · rcases z with z | rfl
                · exact gg.grow a (.inl z)
                · exact Grow.none (f := emp) (g := emp) gg.ch (fun _ z => z.2) np
            refine h F2 _ fp2 (.ref p) (fun a => a = p) g3 (Val.of (by decide) ?_)
            unfold RO
            rw [if_neg (by decide)]
            exact ⟨p, _, emp, rfl, upd_same, Fp, fun z => z, rol_strs _ _, by funext a; simp [emp]⟩
theorem se_split {q1 q2 : Bool} {ra : Env → R D} {rs : Env → R (List D)} {o a : Expr} {as : List Expr} {apos cpos : Pos} {Γ Γ1 Γ2 : Gm} {m : Nat} {ms : List Nat} (hK : X.K = T.K) (hm : own m = true ∨ q2 = true)
    (ho : SE X T W kp q1 ra o Γ m Γ1) (ha : SL X T W kp q2 rs (a :: as) Γ1 ms Γ2) (h2 : (a :: as).all ns = true) (h3 : nsup o = true) (h4 : (apos.endLine == cpos.line) = true) (h5 : as.length < 20) :
    SE X T W kp (q1 && q2) (fun e => (ra e).bind fun x e1 => if mtOk .split x = true then (rs e1).bind fun xs e2 => R.lift (m1 .split x xs) e2 else .bad) (.Call (.Attribute o "split" apos) (a :: as) [] cpos) Γ 100 Γ2 := by
  have h2' := h2
  simp only [List.all_cons, Bool.and_eq_true] at h2
  refine PE.mono (pe_bm PySem.F.plainAttrs_str PySem.F.slot_str_split PySem.F.type_str_split (r := rSpl) mt_split ho ha (base_ok h3) (bm_few h2' h5) h4 (star_cons h2.1) (star_any h2.2)) fun σ H Q z => ?_
  rw [hK]
  exact rd_split hm z
end
end Z

/-! Z18g: the last item taken off a list; calls without arguments. -/
namespace Z
open PySem PySem.Spec L2 PyProof.Rows
section
variable {X : Cx} {T : Tb} {W : WX} {kp : List Nat} {K : PySem.W.Frag}
theorem rol_init {F H : Hp} : ∀ {xs : List D} {x : D} {n : Nat} {vs : List V} {f : AS}, ROL K F H (xs ++ [x]) n vs f → ∃ us u f1 f2, vs = us ++ [u] ∧ ROL K F H xs n us f1 ∧ RO K F H x n u f2 ∧ ∀ a, f1 a → f a
  | [], x, n, vs, f, h => by
    simp only [List.nil_append, ROL] at h
    obtain ⟨w, ws, g1, g2, rfl, q, ⟨rfl, rfl⟩, _, rfl⟩ := h
    exact ⟨[], w, emp, g1, rfl, by simp only [ROL]; exact ⟨trivial, trivial⟩, q, fun _ z => z.elim⟩
  | y :: xs, x, n, vs, f, h => by
    simp only [List.cons_append, ROL] at h
    obtain ⟨w, ws, g1, g2, rfl, q, r, dd, rfl⟩ := h
    obtain ⟨us, u, f1, f2, rfl, r1, r2, hs⟩ := rol_init r
    refine ⟨w :: us, u, fun b => g1 b ∨ f1 b, f2, rfl, ?_, r2, fun a z => z.imp id (hs a)⟩
    simp only [ROL]
    exact ⟨w, us, g1, f1, rfl, q, r1, fun a z1 z2 => dd a z1 (hs a z2), rfl⟩
theorem ro_flatV {F H : Hp} {d : D} {v : V} {n : Nat} {f : AS} (hf : flat d = true) (h : RO K F H d n v f) : RF K F d v := by
  cases d <;> simp only [flat, Bool.false_eq_true] at hf <;> simp only [RO] at h <;> simp only [RF] <;> exact h.1
theorem rd_pop {i : Nat} {Γ : Gm} {σ : L2.St} {H : Hp} {Q : VK} {G : List D} {ko : Oracle} (hl : 2 ≤ lvOf Γ i)
    (z : rdE T W kp false (fun e => ev G ko (.pop i) e) Γ 100 Γ σ H Q) : tBM0 T.K "list" rPop (tVar i) σ H Q := by
  obtain ⟨e, F, fp, s, z⟩ := z
  obtain ⟨d, v, e1, e2, r⟩ := s.at_ i (by omega)
  have hg : e.get i = some d := e1
  simp only [ev, hg] at z
  cases d <;> try exact z.elim
  rename_i xs
  dsimp only at z
  cases hx : xs.getLast? with
  | none => rw [hx] at z; exact z.elim
  | some x =>
    rw [hx] at z
    dsimp only at z
    by_cases hf : flat x = true
    case neg => rw [if_neg hf] at z; exact z.elim
    rw [if_pos hf] at z
    dsimp only at z
    unfold RO at r
    rw [if_neg (by omega)] at r
    obtain ⟨a, vs, g, rfl, eH, eF, na, rl, hfp⟩ := r
    obtain ⟨ys, rfl⟩ := List.getLast?_eq_some_iff.mp hx
    rw [List.dropLast_concat] at z
    obtain ⟨us, u, f1, f2, rfl, r1, r2, hs⟩ := rol_init rl
    have ru := ro_flatV hf r2
    have hai : fp i a := by rw [hfp]; exact .inl rfl
    refine ⟨.ref a, e2, .inl ⟨rfl, _, .inl (.inl eH)⟩, a, us ++ [u], u, rfl, rfl, eH, by simp, ?_⟩
    rw [List.dropLast_concat]
    have hle : i < e.s.length := (List.getElem?_eq_some_iff.mp e1).1
    have nj : ∀ j, j ≠ i → ¬ fp j a := fun j hj y => s.dis i j (Ne.symm hj) a hai y
    have fa : ∀ b, f1 b → b ≠ a := fun b z e => na (e ▸ hs b z)
    let fp' : Nat → AS := fun j => if j = i then fun b => b = a ∨ f1 b else fp j
    have own' : ∀ b, Own fp' b → Own fp b := fun b ⟨j, y⟩ => by
      by_cases hj : j = i
      · subst hj
        simp only [fp', if_pos rfl] at y
        exact ⟨j, by rw [hfp]; exact y.imp id (hs b)⟩
      · simp only [fp', if_neg hj] at y
        exact ⟨j, y⟩
    have hfp' : fp' i = fun b => b = a ∨ f1 b := by simp only [fp', if_pos rfl]
    refine z F (upd H a (.lst us)) fp' u emp ⟨fun h => (by cases h), ⟨fun b o eb => ?_, s.lG, ?_, fun j hj => ?_, fun j k hjk b y1 y2 => ?_, fun j hj => ?_⟩, fun _ y => y.elim, ⟨Sub.refl F, fun b o eb hw => ?_, fun b y1 y2 => absurd y1 y2⟩, fun b y => ?_⟩ (Val.flat hf (RF.sub (fun b o eb => ?_) _ _ ru))
    · have : b ≠ a := by rintro rfl; rw [eF] at eb; cases eb
      rw [upd_ne this]; exact s.sub b o eb
    · show (e.s.set i _).length = _
      rw [List.length_set]; exact s.le
    · by_cases hji : j = i
      · subst hji
        refine ⟨.lst ys, .ref a, List.getElem?_set_self hle, e2, ?_⟩
        unfold RO
        rw [if_neg (by omega)]
        exact ⟨a, us, f1, rfl, upd_same, eF, fun y => na (hs a y), ROL.kept _ _ _ _ ⟨Sub.refl F, fun b y => upd_ne (fa b y), fun _ _ y => y⟩ r1, hfp'⟩
      · obtain ⟨d2, v2, g1, g2, g3⟩ := s.at_ j hj
        refine ⟨d2, v2, (List.getElem?_set_ne (Ne.symm hji)).trans g1, g2, ?_⟩
        have : fp' j = fp j := by simp only [fp', if_neg hji]
        rw [this]
        exact RO.kept d2 _ v2 _ ⟨Sub.refl F, fun b y => upd_ne (by rintro rfl; exact nj j hji y), fun _ _ y => y⟩ g3
    · have sub1 : ∀ j, ∀ b, fp' j b → fp j b := fun j b y => by
        by_cases hj : j = i
        · subst hj; rw [hfp'] at y; rw [hfp]; exact y.imp id (hs b)
        · simp only [fp', if_neg hj] at y; exact y
      exact s.dis j k hjk b (sub1 j b y1) (sub1 k b y2)
    · have : j ≠ i := by rintro rfl; omega
      simp only [fp', if_neg this]; exact s.dead j hj
    · have : b ≠ a := by rintro rfl; exact hw ⟨rfl, i, hai⟩
      rw [upd_ne this]; exact eb
    · rcases y with y | y
      · exact .inl (own' b y)
      · exact y.elim
    · have : b ≠ a := by rintro rfl; rw [eF] at eb; cases eb
      rw [upd_ne this]; exact s.sub b o eb
theorem se_pop {i : Nat} {y : Str} {p apos cpos : Pos} {Γ : Gm} {G : List D} {ko : Oracle} (hK : X.K = T.K) (hv : PE X (.Name y p) (tVar i)) (hl : 2 ≤ lvOf Γ i) (h4 : (apos.endLine == cpos.line) = true) (h3 : nsup (.Name y p) = true) :
    SE X T W kp false (ev G ko (.pop i)) (.Call (.Attribute (.Name y p) "pop" apos) [] [] cpos) Γ 100 Γ := by
  refine PE.mono (pe_bm0 PySem.F.plainAttrs_list PySem.F.slot_list_pop PySem.F.type_list_pop mt_pop hv (base_ok h3) h4) fun σ H Q z => ?_
  rw [hK]
  exact rd_pop hl z
/-! ### calls without arguments -/
theorem pe_none {CX : CXT} {k : Nat} {f : Addr} {fd : FuncData} {ps : List Str} {sp : Sp} {E : L2.St → XK} {x : Str} {p pos : Pos} (F : FnOk X.prog X.w X.K X.mg X.base CX k f fd ps sp) (hr : Room k X.A) (hg : Gl X x) (hm : X.mg x = some (.ref f)) (hk : PySem.W.keepIn X.K (.ref f) = true) (hb : Binds X.K fd ps []) (hx : ∀ σ, PassesAt CX X σ (E σ)) (hdb : (x == ("__debug__" : Str)) = false) :
    PE X (.Call (.Name x p) [] [] pos) (tCallS sp E tNil) :=
  ⟨fun pins s σ H Q I h => wpAny_Call_Name_kw (ld_glob I hg hm (PySem.W.callWith_K0 I.kIn hk (run_fnS (us := []) F hr hb (hx σ) I .nil h)) hdb)⟩
theorem se_none {x : Str} {p pos : Pos} {Γ : Gm} {n f : Nat} {fn : Fn} (hf : T.P.fns[f]? = some fn) (hio : fn.io = []) (hl : fn.np = 0) (hrl : 1 ≤ fn.rl) (hkp : ∀ i ∈ kp, 1 ≤ lvOf Γ i)
    (tk : Takes X W) (hr : Room (n + 2) X.A) (hg : Gl X x) (c : Callee T n f fn x X) (hdb : (x == ("__debug__" : Str)) = false) :
    SE X T W kp true (fun e => (R.ok [] e : R (List D)).bind fun xs e1 => callR (run T.P n) f [] xs e1) (.Call (.Name x p) [] [] pos) Γ fn.rl Γ := by
  obtain ⟨ad, fd, ps, hps, F, hmg, hk, hb⟩ := c.ex
  refine PE.mono (pe_none F hr hg hmg hk hb (fun σ => passAt tk σ) hdb) fun σ H Q z => ?_
  have h := rd_call (rs := fun e => .ok [] e) (ms := []) hf hio rfl (by simp [hl]) hrl hkp z
  obtain ⟨e, F0, fp, s, h⟩ := h
  exact h F0 H fp [] emp (Go.refl s) ⟨rfl, rfl⟩
end
end Z

/-! Z18h: chains of comparisons; how many numbers a list holds. -/
namespace Z
open PySem PySem.Spec L2 PyProof.Rows
section
variable {X : Cx} {T : Tb} {W : WX} {kp : List Nat} {K : PySem.W.Frag}
/-- the end of a flat value, its levels brought down -/
theorem fin_flat {q q' : Bool} {Γ2 Γ' : Gm} {m : Nat} {σ : L2.St} {F H F2 H2 : Hp} {fp fp2 : Nat → AS} {e0 e' : List D} {d : D} {f : AS} {Q : VK} {w : V} (g : Go T.K q Γ2 σ F H fp e0 e' F2 H2 fp2 f) (hq : q' = true → q = true) (hl : leG Γ' Γ2) (fl : flat d = true) (r : RF T.K H2 d w)
    (k : ∀ F' H' fp' v f, Go T.K q' Γ' σ F H fp e0 e' F' H' fp' f → Val T.K m F' H' d v f → Q v H') : Q w H2 := by
  have g1 : Go T.K q Γ2 σ F H fp e0 e' F2 H2 fp2 emp := go_app g fun _ z => z.elim
  obtain ⟨F3, fp3, g3, _⟩ := g1.weak hl fun _ z => z.elim
  refine k F3 H2 fp3 w emp ⟨fun z => g3.same (hq z), g3.st, g3.dis, g3.ch.mono (fun _ z => z) fun a z => ⟨?_, z.2⟩, g3.grow⟩ (Val.flat fl r)
  have := z.1
  cases q' with
  | false => rfl
  | true => rw [hq rfl] at this; exact this
theorem rd_chain {q1 q2 q3 : Bool} {ra rb rc : Env → R D} {Γ Γ1 Γ2 Γ3 Γ4 : Gm} {m n p mo : Nat} {o o' : Cp} {σ : L2.St} {H : Hp} {Q : VK} (hm : own m = true ∨ q2 = true) (hn : own n = true ∨ q3 = true) (h2 : leG Γ4 Γ2) (h3 : leG Γ4 Γ3)
    (h : rdE T W kp (q1 && (q2 && q3)) (cmp2D o o' ra rb rc) Γ mo Γ4 σ H Q) :
    tChain (rG T.K (blR (cp o))) (rG T.K (blR (cp o'))) (rdE T W kp q1 ra Γ m Γ1) (rdE T W kp q2 rb Γ1 n Γ2) (rdE T W kp q3 rc Γ2 p Γ3) σ H Q := by
  obtain ⟨e, F, fp, s, h⟩ := h
  refine ⟨e, F, fp, s, ?_⟩
  unfold cmp2D at h
  cases e1 : ra e with
  | bad => rw [e1] at h; exact h
  | exc y e' => rw [e1] at h; exact h
  | ok x e' =>
    rw [e1] at h
    simp only [R.bind_ok] at h
    intro F1 H1 fp1 v f1 g1 val1
    refine ⟨e', F1, fp1, g1.st, ?_⟩
    cases e2 : rb e' with
    | bad => rw [e2] at h; exact h
    | exc y e2' => rw [e2] at h; exact XW.back h g1
    | ok y e2' =>
      rw [e2] at h
      simp only [R.bind_ok] at h
      intro F2 H2 fp2 u f2 g2 val2
      have gg := Go.trans g1 g2 val1.cells
      have v1 := (val1.stay g2.ch g1.dis hm (hm.imp own_ne id)).rf g2.st.sub
      have v2 := val2.rf g2.st.sub
      cases hg : cp o x y with
      | none => rw [hg] at h; exact h.elim
      | some b =>
        rw [hg] at h
        refine ⟨x, y, .bl b, v1, v2, by simp only [blR, hg, Option.map_some], fun w rw_ => ⟨b, rf_bl rw_, ?_⟩⟩
        cases b with
        | false =>
          rw [if_neg (by decide)]
          exact fin_flat gg (fun z => by cases q1 <;> cases q2 <;> simp_all) h2 rfl mk_bl h
        | true =>
          rw [if_pos rfl]
          dsimp only at h
          refine ⟨e2', F2, fp2, g2.st, ?_⟩
          cases e3 : rc e2' with
          | bad => rw [e3] at h; exact h
          | exc y e3' => rw [e3] at h; exact XW.back h gg
          | ok z e3' =>
            rw [e3] at h
            simp only [R.bind_ok] at h
            intro F3 H3 fp3 w3 f3 g3 val3
            cases hg2 : cp o' y z with
            | none => rw [hg2] at h; exact h.elim
            | some b' =>
              rw [hg2] at h
              simp only [Option.map_some, R.lift_some] at h
              have u2 := (val2.stay g3.ch g2.dis hn (hn.imp own_ne id)).rf g3.st.sub
              have g4 := Go.then_ (go_app gg fun _ z => z.elim) g3
              refine ⟨y, z, .bl b', u2, val3.rf g3.st.sub, by simp only [blR, hg2, Option.map_some], fun w rw_ => ?_⟩
              exact fin_flat g4 (fun z => by cases q1 <;> cases q2 <;> cases q3 <;> simp_all) h3 rfl rw_ h
theorem se_cmp2 {q1 q2 q3 : Bool} {ra rb rc : Env → R D} {a b c : Expr} {pos : Pos} {Γ Γ1 Γ2 Γ3 Γ4 : Gm} {m n p mo : Nat} {o o' : Cp} (hu : X.A.units + 64 < cLine) (hK : X.K = T.K) (ha : SE X T W kp q1 ra a Γ m Γ1) (hb : SE X T W kp q2 rb b Γ1 n Γ2) (hc : SE X T W kp q3 rc c Γ2 p Γ3) (hm : own m = true ∨ q2 = true) (hn : own n = true ∨ q3 = true) (h2 : leG Γ4 Γ2) (h3 : leG Γ4 Γ3)
    (hk : behindInMarks (cpOf o') c = false) : SE X T W kp (q1 && (q2 && q3)) (cmp2D o o' ra rb rc) (.Compare a [cpOf o, cpOf o'] [b, c] pos) Γ mo Γ4 :=
  PE.mono (pe_chain (hK ▸ g_cp hu o) (hK ▸ g_cp hu o') ha hb hc hk) fun _ _ _ h => rd_chain hm hn h2 h3 h
theorem bl_cmp2 {ra rb rc : Env → R D} {o o' : Cp} : ∀ (e : Env) (d : D) (e' : Env), cmp2D o o' ra rb rc e = .ok d e' → ∃ b, d = .bl b := fun e d e' h => by
  unfold cmp2D at h
  cases e1 : ra e with
  | bad => rw [e1] at h; cases h
  | exc y e' => rw [e1] at h; cases h
  | ok x e1' =>
    rw [e1] at h
    simp only [R.bind_ok] at h
    cases e2 : rb e1' with
    | bad => rw [e2] at h; cases h
    | exc y e' => rw [e2] at h; cases h
    | ok y e2' =>
      rw [e2] at h
      simp only [R.bind_ok] at h
      cases e3 : cp o x y with
      | none => rw [e3] at h; cases h
      | some b =>
        rw [e3] at h
        cases b with
        | false => cases h; exact ⟨_, rfl⟩
        | true =>
          dsimp only at h
          cases e4 : rc e2' with
          | bad => rw [e4] at h; cases h
          | exc y e' => rw [e4] at h; cases h
          | ok z e3' =>
            rw [e4] at h
            simp only [R.bind_ok] at h
            cases e5 : cp o' y z with
            | none => rw [e5] at h; cases h
            | some b => rw [e5] at h; cases h; exact ⟨_, rfl⟩
theorem st_cmp2 {q1 q2 q3 : Bool} {ra rb rc : Env → R D} {a b c : Expr} {pos : Pos} {Γ Γ1 Γ2 Γ3 Γ4 : Gm} {m n p : Nat} {o o' : Cp} (hu : X.A.units + 64 < cLine) (hK : X.K = T.K) (ha : SE X T W kp q1 ra a Γ m Γ1) (hb : SE X T W kp q2 rb b Γ1 n Γ2) (hc : SE X T W kp q3 rc c Γ2 p Γ3) (hm : own m = true ∨ q2 = true) (hn : own n = true ∨ q3 = true) (h2 : leG Γ4 Γ2) (h3 : leG Γ4 Γ3)
    (hk : behindInMarks (cpOf o') c = false) : ST X T W kp (q1 && (q2 && q3)) (cmp2D o o' ra rb rc) (.Compare a [cpOf o, cpOf o'] [b, c] pos) Γ Γ4 :=
  PT.mono (pt_chain (hK ▸ g_cp hu o) (hK ▸ g_cp hu o') ha hb hc hk) fun σ H Q h => rd_chain (mo := 100) hm hn h2 h3 (rdT_bl bl_cmp2 σ H Q h)
/-! ### len(set(numbers)) -/
theorem met_dist (ns : List Int) : firstMet (fun i => ns.getD i 0) ns.length = distI ns := by
  unfold firstMet distI
  have e : (List.range ns.length).map (fun i => ns.getD i 0) = ns := by
    refine List.ext_getElem (by simp) fun i h1 h2 => ?_
    simp [h2]
  rw [e]
  rfl
theorem ints_vs {H : Hp} : ∀ {xs : List D} {vs : List V} {l : List Int}, RFL K H xs vs → ints? xs = some l → vs = l.map V.int
  | [], vs, l, h, e => by
    simp only [RFL] at h
    simp only [ints?, Option.some.injEq] at e
    subst e h; rfl
  | x :: xs, vs, l, h, e => by
    simp only [RFL] at h
    obtain ⟨w, ws, rfl, q, r⟩ := h
    cases x <;> simp only [ints?, reduceCtorEq, Option.map_eq_some_iff] at e
    obtain ⟨l', e1, rfl⟩ := e
    obtain rfl := rf_int q
    rw [ints_vs r e1]; rfl
/-- how many numbers a list holds, each counted once -/
def tMany (K : PySem.W.Frag) (ta : TE) : TE := fun σ H Q => ta σ H fun x H1 => ∃ (l : Addr) (ns : List Int), x = V.ref l ∧ SqL K H1 l (ns.map V.int) ∧ ns.length ≤ 4000 ∧ Q (.int (distI ns).length) H1
theorem pe_many {a : Expr} {ta : TE} {p p2 q pos : Pos} (hc : X.calm = true) (hg : Gl X "len") (hm : X.mg "len" = none) (hg2 : Gl X "set") (hm2 : X.mg "set" = none) (ha : PE X a ta) (na : starEach [a] X.env = (false, eval a X.env) :: starEach [] X.env) :
    PE X (.Call (.Name "len" p) [.Call (.Name "set" p2) [a] [] q] [] pos) (tMany X.K ta) := by
  refine ⟨fun pins s σ H Q I h => Call_ (ld_blt I hg hm PySem.boot_len (callWith_builtin1 (args_cons ?_ rfl) rfl rfl))⟩
  have within := ha.run pins s σ H _ I h
  refine Call_ (ld_blt I hg2 hm2 boot_set (callWith_type1 (args_cons (thn within fun v s1 seen => args_nil ?_) na) na rfl))
  obtain ⟨x, H1, I1, rx, l, ns, ex, hq, hl, fin⟩ := seen
  subst ex
  cases rx
  obtain ⟨its, ri, pl, _⟩ := I1.list hq
  have many : its.toArray.size = ns.length := by
    rw [List.size_toArray]
    have := ri.length
    rw [List.length_map] at this
    exact this.symm
  have room : its.toArray.size + 1 < scanBound := by rw [many]; unfold scanBound; omega
  refine call_set_list (I1.ok.hd hc) pl.isList (ns := ns) (by rw [List.toList_toArray]; exact ri.ints) room fun h' tk hS kept => args_nil ?_
  rw [many, met_dist] at hS
  obtain ⟨ob, es, ep, tb, at_, hex, hd, _, _, _, hf, hn⟩ := hS
  have still : Inv X pins σ H1 { s1 with heap := h', toks := tk } := I1.kept fun b ob2 here => kept b ob2 (Heap.lt_size here) here
  have few : (distI ns).length ≤ ns.length := by rw [← met_dist]; exact firstMet_length_le _ _
  refine call_len_set at_ hex hd hf (by rw [hn]; omega) ⟨.int (distI ns).length, H1, still.tok _, ⟨_, by rw [hn]⟩, fin⟩
theorem se_many {q : Bool} {ra : Env → R D} {p p2 p3 pos : Pos} {a : Expr} {Γ Γ1 : Gm} {m mo : Nat} (hK : X.K = T.K) (hc : X.calm = true) (hg : Gl X "len") (hm : X.mg "len" = none) (hg2 : Gl X "set") (hm2 : X.mg "set" = none) (ha : SE X T W kp q ra a Γ m Γ1) (h2 : ns a = true) :
    SE X T W kp q (fun e => ((ra e).bind fun x e1 => .ok [x] e1).bind fun xs e1 => R.lift (b1 .set xs) e1) (.Call (.Name "len" p) [.Call (.Name "set" p2) [a] [] p3] [] pos) Γ mo Γ1 := by
  refine PE.mono (pe_many hc hg hm hg2 hm2 ha (star_cons h2)) fun σ H Q z => ?_
  show rdE T W kp q ra Γ m Γ1 σ H fun x H1 => ∃ (l : Addr) (ns : List Int), x = V.ref l ∧ SqL X.K H1 l (ns.map V.int) ∧ ns.length ≤ 4000 ∧ Q (.int (distI ns).length) H1
  have z' : rdE T W kp q (fun e => (ra e).bind fun x e1 => R.lift (b1 .set [x]) e1) Γ mo Γ1 σ H Q := by
    obtain ⟨e, F, fp, s, z⟩ := z
    refine ⟨e, F, fp, s, ?_⟩
    dsimp only at z ⊢
    cases e1 : ra e <;> (rw [e1] at z; exact z)
  refine rd_one (rr := fun x H1 Q => ∃ (l : Addr) (ns : List Int), x = V.ref l ∧ SqL X.K H1 l (ns.map V.int) ∧ ns.length ≤ 4000 ∧ Q (.int (distI ns).length) H1) z' fun F H' x v f d s val hgd k => ?_
  cases x <;> simp only [b1, reduceCtorEq, Option.bind_eq_some_iff] at hgd
  obtain ⟨l, h1, h3⟩ := hgd
  split at h3 <;> simp only [reduceCtorEq, Option.some.injEq] at h3
  rename_i hl
  subst h3
  have rv := val.rf s
  simp only [RF] at rv
  obtain ⟨ad, vs, rfl, qa, rr⟩ := rv
  obtain rfl := ints_vs rr h1
  exact ⟨ad, l, rfl, .inl qa, hl, keep_flat s rfl k _ mk_int⟩
end
end Z

/-! Z18i: calls of defs that change their arguments: all arguments are names. -/
namespace Z
open PySem PySem.Spec L2 PyProof.Rows
/-- the slot of such an argument -/
def ioSl : C → Option Nat
  | .io i => some i
  | .v i => some i
  | _ => none
/-- the slots that are changed, that are shared -/
def ioS : List C → List Nat
  | [] => []
  | .io i :: as => i :: ioS as
  | _ :: as => ioS as
def vS : List C → List Nat
  | [] => []
  | .v i :: as => i :: vS as
  | _ :: as => vS as
/-- their places -/
def ioP : Nat → List C → List Nat
  | _, [] => []
  | k, .io _ :: as => k :: ioP (k + 1) as
  | k, _ :: as => ioP (k + 1) as
def ioL (Γ : Gm) : List C → List Nat
  | [] => []
  | .io i :: as => lvOf Γ i :: ioL Γ as
  | _ :: as => ioL Γ as
def lvS (Γ : Gm) : List C → List Nat
  | [] => []
  | .io i :: as => lvOf Γ i :: lvS Γ as
  | _ :: as => 1 :: lvS Γ as
/-- arguments by names -/
inductive NmA (X : Cx) : List C → List Expr → Prop
  | nil : NmA X [] []
  | cons {c : C} {i : Nat} {x : Expr} {as : List C} {xs : List Expr} (h : ioSl c = some i) (p : PE X x (tVar i)) (n : ns x = true) (r : NmA X as xs) : NmA X (c :: as) (x :: xs)
def slS : List C → List Nat
  | [] => []
  | c :: as => (ioSl c).getD 0 :: slS as
def tVars (is : List Nat) : TA := fun σ H Q => ∃ vs : List V, vs.length = is.length ∧ (∀ j : Nat, ∀ i, is[j]? = some i → ∃ v, vs[j]? = some v ∧ σ[i]? = some (some v)) ∧ Q vs H
section
variable {X : Cx} {T : Tb} {W : WX} {kp : List Nat} {K : PySem.W.Frag}
theorem pa_names : ∀ {as : List C} {xs : List Expr}, NmA X as xs → PA X xs (tVars (slS as))
  | _, _, .nil => PA.mono pa_nil fun σ H Q z => by
    obtain ⟨vs, h1, _, q⟩ := z
    have : vs = [] := List.length_eq_zero_iff.mp (by simpa [slS] using h1)
    subst this
    exact q
  | _, _, .cons (c := c) (i := i) (as := as) h p n r => PA.mono (pa_cons p (pa_names r) (star_cons n)) fun σ H Q z => by
    obtain ⟨vs, h1, h2, q⟩ := z
    cases vs with
    | nil => simp [slS] at h1
    | cons v vs =>
      obtain ⟨v', e1, e2⟩ := h2 0 i (by simp [slS, h])
      simp at e1
      subst e1
      refine ⟨v, e2, vs, by simpa [slS] using h1, fun j k hj => ?_, q⟩
      obtain ⟨w, e3, e4⟩ := h2 (j + 1) k (by simpa [slS] using hj)
      exact ⟨w, by simpa using e3, e4⟩
theorem mem_ioS {as : List C} {i : Nat} : i ∈ ioS as ↔ C.io i ∈ as := by
  induction as with
  | nil => simp [ioS]
  | cons c as ih => cases c <;> simp [ioS, ih]
/-- the arguments' values, as the locals have them -/
theorem io_vals {Γ : Gm} {e : Env} {σ : L2.St} {F H : Hp} {fp : Nat → AS} {G : List D} {ko : Oracle} (s : St K Γ e.s σ F H fp) : ∀ {as : List C} {xs : List Expr}, NmA X as xs → (∀ i ∈ slS as, 1 ≤ lvOf Γ i) →
    ∃ (ds : List D) (vs : List V), evL G ko as e = .ok ds e ∧ ds.length = as.length ∧ vs.length = (slS as).length ∧ ∀ j : Nat, ∀ i, (slS as)[j]? = some i → ∃ d v, ds[j]? = some d ∧ vs[j]? = some v ∧ e.s[i]? = some d ∧ σ[i]? = some (some v) ∧ RO K F H d (lvOf Γ i) v (fp i)
  | _, _, .nil, _ => ⟨[], [], by simp only [evL], rfl, rfl, fun j i h => by simp [slS] at h⟩
  | _, _, .cons (c := c) (i := i) (as := as) h p n r, hl => by
    obtain ⟨ds, vs, h1, h2, h3, h4⟩ := io_vals (G := G) (ko := ko) s r fun k hk => hl k (by simp only [slS]; exact List.mem_cons_of_mem _ hk)
    obtain ⟨d, v, e1, e2, ro⟩ := s.at_ i (hl i (by simp [slS, h]))
    have hc : ev G ko c e = .ok d e := by
      have e1' : e.get i = some d := e1
      cases c <;> simp only [ioSl, reduceCtorEq, Option.some.injEq] at h <;> subst h <;> simp only [ev, e1', R.lift_some]
    refine ⟨d :: ds, v :: vs, by simp only [evL, hc, R.bind_ok, h1], by simp [h2], by simp [slS, h3], fun j k hj => ?_⟩
    cases j with
    | zero =>
      simp [slS, h] at hj
      subst hj
      exact ⟨d, v, rfl, rfl, e1, e2, ro⟩
    | succ j =>
      obtain ⟨d', v', q⟩ := h4 j k (by simpa [slS] using hj)
      exact ⟨d', v', by simpa using q⟩
/-- the cells of the changed arguments -/
def gS (fp : Nat → AS) (as : List C) : AS := fun a => ∃ i, C.io i ∈ as ∧ fp i a
theorem io_alv {Γ : Gm} {H F1 : Hp} {fp : Nat → AS} (hd : ∀ i j, i ≠ j → Dis (fp i) (fp j)) :
    ∀ {as : List C} {ds : List D} {vs : List V}, ds.length = as.length → vs.length = as.length → (ioS as).Nodup →
      (∀ j : Nat, ∀ c, as[j]? = some c → ∃ d v, ds[j]? = some d ∧ vs[j]? = some v ∧ ((∃ i, c = .io i ∧ 1 ≤ lvOf Γ i ∧ RO K F1 H d (lvOf Γ i) v (fp i)) ∨ ((∀ i, c ≠ .io i) ∧ RF K F1 d v))) → ValL K F1 H (lvS Γ as) ds vs (gS fp as)
  | [], ds, vs, h1, h2, _, _ => by
    have e1 : ds = [] := List.length_eq_zero_iff.mp (by simpa using h1)
    have e2 : vs = [] := List.length_eq_zero_iff.mp (by simpa using h2)
    subst e1 e2
    simp only [lvS, ValL]
    exact ⟨trivial, by funext a; simp [gS, emp]⟩
  | c :: as, [], _, h1, _, _, _ => by simp at h1
  | c :: as, _ :: _, [], _, h2, _, _ => by simp at h2
  | c :: as, d :: ds, v :: vs, h1, h2, hn, h => by
    have rest := io_alv (as := as) (ds := ds) (vs := vs) hd (by simpa using h1) (by simpa using h2) (by
      cases c <;> simp only [ioS] at hn <;> first
        | exact hn
        | exact (List.nodup_cons.mp hn).2) fun j c' hc => by simpa using h (j + 1) c' (by simpa using hc)
    obtain ⟨d', v', e1, e2, q⟩ := h 0 c (by simp)
    simp at e1 e2
    subst e1 e2
    rcases q with ⟨i, rfl, hl, ro⟩ | ⟨hno, rf⟩
    · simp only [lvS, ValL]
      have hni : C.io i ∉ as := fun z => (List.nodup_cons.mp (by simpa [ioS] using hn)).1 (mem_ioS.mpr z)
      refine ⟨v, vs, fp i, gS fp as, rfl, Val.of (by omega) ro, rest, fun a z1 z2 => ?_, ?_⟩
      · obtain ⟨j, hj, z2⟩ := z2
        exact hd i j (fun e => hni (e ▸ hj)) a z1 z2
      · funext a
        refine propext ⟨fun ⟨j, hj, z⟩ => ?_, fun z => ?_⟩
        · rcases List.mem_cons.mp hj with e | hj
          · cases e; exact .inl z
          · exact .inr ⟨j, hj, z⟩
        · rcases z with z | ⟨j, hj, z⟩
          · exact ⟨i, List.mem_cons_self, z⟩
          · exact ⟨j, List.mem_cons_of_mem _ hj, z⟩
    · have e : gS fp (c :: as) = gS fp as := by
        funext a
        refine propext ⟨fun ⟨j, hj, z⟩ => ?_, fun ⟨j, hj, z⟩ => ⟨j, List.mem_cons_of_mem _ hj, z⟩⟩
        rcases List.mem_cons.mp hj with e | hj
        · exact absurd e.symm (hno j)
        · exact ⟨j, hj, z⟩
      have e2 : lvS Γ (c :: as) = 1 :: lvS Γ as := by
        cases c <;> first
          | rfl
          | exact absurd rfl (hno _)
      rw [e, e2]
      simp only [ValL]
      exact ⟨v, vs, emp, gS fp as, rfl, Val.of (by decide) (RO.of1 (Nat.le_refl 1) rf), rest, fun _ z => z.elim, by funext a; simp [emp]⟩
/-- what comes back: each changed local has its new value -/
theorem io_outs {Γ : Gm} {σ : L2.St} {F H : Hp} {vs0 : List V} : ∀ {as : List C} {k : Nat} {outs : List D} {fo : AS} {e : Env}, OutL K F H (ioP k as) (ioL Γ as) outs vs0 fo → (ioS as).Nodup → (∀ i ∈ ioS as, i < e.s.length) → (∀ j : Nat, ∀ i, as[j]? = some (.io i) → ∃ v, vs0[k + j]? = some v ∧ σ[i]? = some (some v)) →
    ∃ fq : Nat → AS, (∀ i, C.io i ∈ as → ∃ d v, (putBack as outs e).s[i]? = some d ∧ σ[i]? = some (some v) ∧ RO K F H d (lvOf Γ i) v (fq i)) ∧ (∀ i j, i ≠ j → Dis (fq i) (fq j)) ∧ (∀ a, fo a ↔ ∃ i, fq i a) ∧ (∀ i, C.io i ∉ as → fq i = emp) ∧ (∀ j, C.io j ∉ as → (putBack as outs e).s[j]? = e.s[j]?) ∧ (putBack as outs e).s.length = e.s.length
  | [], k, outs, fo, e, h, _, _, _ => by
    cases outs with
    | cons d ds => exact h.elim
    | nil =>
      have : fo = emp := h
      subst this
      exact ⟨fun _ => emp, fun i z => by simp at z, fun _ _ _ _ z => z.elim, fun a => ⟨fun z => z.elim, fun ⟨_, z⟩ => z.elim⟩, fun _ _ => rfl, fun j _ => by simp only [putBack], by simp only [putBack]⟩
  | c :: as, k, outs, fo, e, h, hn, hl, hv => by
    have hv' : ∀ j : Nat, ∀ i, as[j]? = some (.io i) → ∃ v, vs0[k + 1 + j]? = some v ∧ σ[i]? = some (some v) := fun j i hj => by
      obtain ⟨v, e1, e2⟩ := hv (j + 1) i (by simpa using hj)
      exact ⟨v, by rw [show k + 1 + j = k + (j + 1) by omega]; exact e1, e2⟩
    by_cases hc : ∃ i, c = .io i
    · obtain ⟨i, rfl⟩ := hc
      have hn2 : i ∉ ioS as ∧ (ioS as).Nodup := List.nodup_cons.mp (by simpa [ioS] using hn)
      have hni : C.io i ∉ as := fun z => hn2.1 (mem_ioS.mpr z)
      cases outs with
      | nil => exact h.elim
      | cons d ds =>
        obtain ⟨v, f1, f2, e1, ro, rest, dd, rfl⟩ := h
        have hil : i < e.s.length := hl i (by simp [ioS])
        obtain ⟨v', e1', e2'⟩ := hv 0 i (by simp)
        rw [Nat.add_zero, e1] at e1'
        cases e1'
        obtain ⟨fq, k1, k2, k3, k4, k5, k6⟩ := io_outs (e := e.set i d) rest hn2.2 (fun j hj => by show j < (e.s.set i d).length; rw [List.length_set]; exact hl j (by simp only [ioS]; exact List.mem_cons_of_mem _ hj)) hv'
        have hpb : putBack (.io i :: as) (d :: ds) e = putBack as ds (e.set i d) := by simp only [putBack]
        rw [hpb]
        have f2q : ∀ j a, fq j a → f2 a := fun j a z => (k3 a).mpr ⟨j, z⟩
        refine ⟨fun j => if j = i then f1 else fq j, fun j hj => ?_, fun j l hjl a z1 z2 => ?_, fun a => ⟨fun z => ?_, fun ⟨j, z⟩ => ?_⟩, fun j hj => ?_, fun j hj => ?_, ?_⟩
        · by_cases hji : j = i
          · subst hji
            refine ⟨d, v, (k5 j hni).trans (List.getElem?_set_self hil), e2', ?_⟩
            show RO K F H d (lvOf Γ j) v (if j = j then f1 else fq j)
            rw [if_pos rfl]; exact ro
          · have hj' : C.io j ∈ as := (List.mem_cons.mp hj).resolve_left fun z => hji (by cases z; rfl)
            simp only [if_neg hji]
            exact k1 j hj'
        · dsimp only at z1 z2
          by_cases hj : j = i
          · rw [if_pos hj] at z1
            rw [if_neg (fun e => hjl (hj.trans e.symm))] at z2
            exact dd a z1 (f2q l a z2)
          · rw [if_neg hj] at z1
            by_cases hl2 : l = i
            · rw [if_pos hl2] at z2; exact dd a z2 (f2q j a z1)
            · rw [if_neg hl2] at z2; exact k2 j l hjl a z1 z2
        · rcases z with z | z
          · exact ⟨i, by simp only [if_pos rfl]; exact z⟩
          · obtain ⟨j, z⟩ := (k3 a).mp z
            have hj : j ≠ i := by
              rintro rfl
              rw [k4 j hni] at z
              exact z
            exact ⟨j, by simp only [if_neg hj]; exact z⟩
        · by_cases hj : j = i
          · simp only [if_pos hj] at z; exact .inl z
          · simp only [if_neg hj] at z; exact .inr (f2q j a z)
        · have hji : j ≠ i := by rintro rfl; exact hj List.mem_cons_self
          simp only [if_neg hji]
          exact k4 j fun z => hj (List.mem_cons_of_mem _ z)
        · have hji : i ≠ j := by rintro rfl; exact hj List.mem_cons_self
          exact (k5 j fun z => hj (List.mem_cons_of_mem _ z)).trans (List.getElem?_set_ne hji)
        · rw [k6]; show (e.s.set i d).length = _; rw [List.length_set]
    · have hno : ∀ i, c ≠ .io i := fun i e => hc ⟨i, e⟩
      have e1 : ioP k (c :: as) = ioP (k + 1) as ∧ ioL Γ (c :: as) = ioL Γ as ∧ ioS (c :: as) = ioS as ∧ putBack (c :: as) outs e = putBack as outs e := by
        cases c <;> first
          | exact absurd rfl (hno _)
          | exact ⟨rfl, rfl, rfl, by simp only [putBack]⟩
      rw [e1.1, e1.2.1] at h
      rw [e1.2.2.1] at hn hl
      obtain ⟨fq, k1, k2, k3, k4, k5, k6⟩ := io_outs h hn hl hv'
      rw [e1.2.2.2]
      exact ⟨fq, fun i hi => k1 i ((List.mem_cons.mp hi).resolve_left fun z => hno i z.symm), k2, k3, fun i hi => k4 i fun z => hi (List.mem_cons_of_mem _ z), fun j hj => k5 j fun z => hj (List.mem_cons_of_mem _ z), k6⟩

theorem slot_of {as : List C} {j : Nat} {c : C} {i : Nat} (h : as[j]? = some c) (hs : ioSl c = some i) : (slS as)[j]? = some i := by
  induction as generalizing j with
  | nil => simp at h
  | cons x as ih =>
    cases j with
    | zero => simp at h; subst h; simp [slS, hs]
    | succ j => simpa [slS] using ih (by simpa using h)
theorem slS_len : ∀ as : List C, (slS as).length = as.length
  | [] => rfl
  | _ :: as => by simp [slS, slS_len as]
theorem lvOf_setG_le {is : List Nat} {Γ : Gm} {j : Nat} (h : ∀ i ∈ is, i < Γ.length) (hj : j ∉ is) : lvOf (setG is 1 Γ) j = lvOf Γ j := by rw [lvOf_setG is 1 Γ j h, if_neg hj]
/-- the levels behind the call -/
def ioG (as : List C) (Γ : Gm) : Gm := setG (vS as) 1 Γ
theorem mem_vS {as : List C} {i : Nat} : i ∈ vS as ↔ C.v i ∈ as := by
  induction as with
  | nil => simp [vS]
  | cons c as ih => cases c <;> simp [vS, ih]
/-- the cells given up -/
def vC (fp : Nat → AS) (as : List C) : AS := fun a => ∃ i, C.v i ∈ as ∧ fp i a
theorem rd_callIo {as : List C} {xs0 : List Expr} {Γ : Gm} {n f : Nat} {fn : Fn} {σ : L2.St} {H : Hp} {Q : VK} (hf : T.P.fns[f]? = some fn) (nm : NmA X as xs0) (hl : as.length = fn.np) (hrl : 1 ≤ fn.rl) (h1 : ∀ i ∈ slS as, 1 ≤ lvOf Γ i) (hnd : (ioS as).Nodup) (hdis : ∀ i ∈ vS as, i ∉ ioS as)
    (halv : fn.alv = lvS Γ as) (hio : fn.io = ioP 0 as) (hil : fn.il = ioL Γ as) (hall : ∀ c ∈ as, (ioSl c).isSome = true)
    (z : rdE T W [] false (fun e => (evL T.P.gl (run T.P n) as e).bind fun xs e1 => callR (run T.P n) f as xs e1) Γ fn.rl (ioG as Γ) σ H Q) :
    tCallS (spF T n f) (WE W) (tVars (slS as)) σ H Q := by
  obtain ⟨e, F, fp, s, z⟩ := z
  obtain ⟨ds, vs, e1, e2, e3, e4⟩ := io_vals (G := T.P.gl) (ko := run T.P n) s nm h1
  simp only [e1, R.bind_ok] at z
  refine ⟨vs, e3, fun j i hj => ?_, ?_⟩
  · obtain ⟨d, v, _, q2, _, q4, _⟩ := e4 j i hj
    exact ⟨v, q2, q4⟩
  have hvC : ∀ a, vC fp as a → F a = none ∧ H a ≠ none := fun a ⟨i, _, y⟩ => s.cells ⟨i, y⟩
  have hsub : Sub F (frz F H (vC fp as)) := frz_sub fun a y => (hvC a y).1
  have hle : Sub (frz F H (vC fp as)) H := frz_le s.sub
  have disC : ∀ i, C.io i ∈ as → ∀ a, fp i a → ¬ vC fp as a := fun i hi a y1 ⟨j, hj, y2⟩ => s.dis i j (fun e => hdis j (mem_vS.mpr hj) (e ▸ mem_ioS.mpr hi)) a y1 y2
  have hlen : ds.length = as.length := e2
  have hvl : vs.length = as.length := by rw [e3, slS_len]
  have alv : ValL T.K (frz F H (vC fp as)) H (lvS Γ as) ds vs (gS fp as) := by
    refine io_alv (K := T.K) s.dis hlen hvl hnd fun j c hj => ?_
    have hc := hall c (List.mem_of_getElem? hj)
    cases c <;> simp only [ioSl, Option.isSome_none, Bool.false_eq_true] at hc
    · rename_i i
      obtain ⟨d, v, q1, q2, q3, q4, ro⟩ := e4 j i (slot_of hj rfl)
      refine ⟨d, v, q1, q2, .inr ⟨fun k e => (by cases e), ?_⟩⟩
      have hli := h1 i (List.mem_of_getElem? (slot_of hj rfl))
      obtain ⟨g, f', hs, _, r'⟩ := RO.weak s.sub d _ 1 v _ (Nat.le_refl 1) hli ro
      obtain ⟨r1, _⟩ := RO.to1 (Nat.le_refl 1) r'
      refine RF.sub (fun a o ea => ?_) _ _ r1
      by_cases hg : g a
      · rw [frz_in hg] at ea
        rw [frz_in (show vC fp as a from ⟨i, List.mem_of_getElem? hj, (hs a).mpr (.inl hg)⟩)]; exact ea
      · rw [frz_out hg] at ea
        exact hsub a o ea
    · rename_i i
      obtain ⟨d, v, q1, q2, q3, q4, ro⟩ := e4 j i (slot_of hj rfl)
      have hi := List.mem_of_getElem? hj
      exact ⟨d, v, q1, q2, .inl ⟨i, rfl, h1 i (List.mem_of_getElem? (slot_of hj rfl)), RO.kept d _ v _ (frz_kept (fun a y => (hvC a y).1) fun a y => disC i hi a y) ro⟩⟩
  refine ⟨fn, ds, frz F H (vC fp as), gS fp as, e.o, hf, by rw [hvl, hl], hle, by rw [halv]; exact alv, ?_⟩
  have gOwn : ∀ a, gS fp as a → Own fp a := fun a ⟨i, _, y⟩ => ⟨i, y⟩
  unfold callR at z
  cases er : run T.P n f ds e.o with
  | bad => rw [er] at z; exact z
  | exc x o =>
    rw [er] at z
    dsimp only at z ⊢
    intro F' H' cls dx sub' ch ex
    refine z F' H' cls dx sub' s.le ⟨hsub.trans ch.sub, fun a o ea hw => ch.keep a o ea fun y => hw (gOwn a y), fun a y1 y2 => ?_⟩ (fun i hi => by simp at hi) ex
    by_cases hv : vC fp as a
    · obtain ⟨i, _, y⟩ := hv
      exact .inl ⟨i, y⟩
    · exact (ch.new a (by rw [frz_out hv]; exact y1) y2).imp (gOwn a) id
  | ok r outs o =>
    rw [er] at z
    dsimp only at z ⊢
    intro F' H' v f' fo sub' ch ro ol dd gr
    rw [hio, hil] at ol
    have hslt : ∀ i ∈ ioS as, i < ({ e with o := o } : Env).s.length := fun i hi => by
      obtain ⟨j, hj⟩ := List.getElem?_of_mem (mem_ioS.mp hi)
      obtain ⟨d, v, _, _, q3, _⟩ := e4 j i (slot_of hj rfl)
      exact (List.getElem?_eq_some_iff.mp q3).1
    obtain ⟨fq, k1, k2, k3, k4, k5, k6⟩ := io_outs (σ := σ) (k := 0) (e := { e with o := o }) ol hnd hslt fun j i hj => by
      obtain ⟨d, v, _, q2, _, q4, _⟩ := e4 j i (slot_of hj rfl)
      exact ⟨v, by rw [Nat.zero_add]; exact q2, q4⟩
    have hlt : ∀ i ∈ vS as, i < Γ.length := fun i hi => lvOf_lt (h1 i (by
      obtain ⟨j, hj⟩ := List.getElem?_of_mem (mem_vS.mp hi)
      exact List.mem_of_getElem? (slot_of hj rfl)))
    have grow : ∀ a, fo a → Own fp a ∨ H a = none := fun a y => (gr a (.inr y)).imp (gOwn a) id
    have growf : ∀ a, f' a → gS fp as a ∨ H a = none := fun a y => gr a (.inl y)
    -- another local's cells are neither changed nor handed out
    have stay : ∀ i, C.io i ∉ as → C.v i ∉ as → ∀ a, fp i a → ¬ gS fp as a := fun i hi _ a y1 ⟨j, hj, y2⟩ => s.dis i j (fun e => hi (e ▸ hj)) a y1 y2
    have live : ∀ i a, fp i a → H a ≠ none := fun i a y => (s.cells ⟨i, y⟩).2
    let fp' : Nat → AS := fun i => if i ∈ ioS as then fq i else if i ∈ vS as then emp else fp i
    have fpio : ∀ i, i ∈ ioS as → fp' i = fq i := fun i hi => by simp only [fp', if_pos hi]
    have fpv : ∀ i, i ∈ vS as → fp' i = emp := fun i hi => by simp only [fp', if_neg (hdis i hi), if_pos hi]
    have fpo : ∀ i, i ∉ ioS as → i ∉ vS as → fp' i = fp i := fun i h h' => by simp only [fp', if_neg h, if_neg h']
    have cases3 : ∀ i a, fp' i a → (i ∈ ioS as ∧ fq i a) ∨ (i ∉ ioS as ∧ i ∉ vS as ∧ fp i a) := fun i a y => by
      by_cases hi : i ∈ ioS as
      · rw [fpio i hi] at y; exact .inl ⟨hi, y⟩
      · by_cases hv : i ∈ vS as
        · rw [fpv i hv] at y; exact y.elim
        · rw [fpo i hi hv] at y; exact .inr ⟨hi, hv, y⟩
    have fqo : ∀ i a, fq i a → fo a := fun i a y => (k3 a).mpr ⟨i, y⟩
    have outs_no : ∀ i a, i ∉ ioS as → i ∉ vS as → fp i a → ¬ fo a := fun i a h h' y1 y2 => by
      rcases gr a (.inr y2) with y | y
      · exact stay i (fun z => h (mem_ioS.mpr z)) (fun z => h' (mem_vS.mpr z)) a y1 y
      · exact live i a y1 y
    have hX : ∀ a o, F a = some o → F' a = some o := fun a o ea => ch.sub a o (hsub a o ea)
    refine z F' H' fp' v f' ⟨fun h => (by cases h), ⟨sub', ?_, ?_, fun i hi => ?_, fun i j hij a y1 y2 => ?_, fun i hi => ?_⟩, fun a y1 y2 => ?_, ⟨hsub.trans ch.sub, fun a o ea hw => ch.keep a o ea fun y => hw ⟨rfl, gOwn a y⟩, fun a y1 y2 => ?_⟩, fun a y => ?_⟩ (Val.of (by omega) ro)
    · show (ioG as Γ).length = _
      rw [ioG, setG_len]; exact s.lG
    · rw [k6]; exact s.le
    · have hlv : lvOf (ioG as Γ) i = if i ∈ vS as then 1 else lvOf Γ i := lvOf_setG _ _ _ _ hlt
      by_cases hio2 : i ∈ ioS as
      · obtain ⟨d, v2, q1, q2, q3⟩ := k1 i (mem_ioS.mp hio2)
        have hnv : i ∉ vS as := fun z => hdis i z hio2
        rw [hlv, if_neg hnv, fpio i hio2]
        exact ⟨d, v2, q1, q2, q3⟩
      · by_cases hv : i ∈ vS as
        · obtain ⟨j, hj⟩ := List.getElem?_of_mem (mem_vS.mp hv)
          obtain ⟨d, v2, q1, q2, q3, q4, _⟩ := e4 j i (slot_of hj rfl)
          rw [hlv, if_pos hv, fpv i hv]
          refine ⟨d, v2, (k5 i fun z => hio2 (mem_ioS.mpr z)).trans q3, q4, RO.of1 (Nat.le_refl 1) ?_⟩
          obtain ⟨d2, v3, w1, w2, w3⟩ := s.at_ i (h1 i (List.mem_of_getElem? (slot_of hj rfl)))
          rw [q3] at w1; cases w1
          rw [q4] at w2; cases w2
          obtain ⟨g, f2, hs, _, r'⟩ := RO.weak s.sub d _ 1 v2 _ (Nat.le_refl 1) (h1 i (List.mem_of_getElem? (slot_of hj rfl))) w3
          obtain ⟨r1, _⟩ := RO.to1 (Nat.le_refl 1) r'
          refine RF.sub (fun a o ea => ch.sub a o ?_) _ _ r1
          by_cases hg : g a
          · rw [frz_in hg] at ea
            rw [frz_in (show vC fp as a from ⟨i, List.mem_of_getElem? hj, (hs a).mpr (.inl hg)⟩)]; exact ea
          · rw [frz_out hg] at ea
            exact hsub a o ea
        · rw [hlv, if_neg hv] at hi ⊢
          obtain ⟨d, v2, w1, w2, w3⟩ := s.at_ i hi
          rw [fpo i hio2 hv]
          refine ⟨d, v2, (k5 i fun z => hio2 (mem_ioS.mpr z)).trans w1, w2, RO.kept d _ v2 _ ⟨hsub.trans ch.sub, fun a y => ?_, fun a y hn => ?_⟩ w3⟩
          · cases eh : H a with
            | none => exact absurd eh (live i a y)
            | some o => exact ch.keep a o eh (stay i (fun z => hio2 (mem_ioS.mpr z)) (fun z => hv (mem_vS.mpr z)) a y)
          · cases ef : F' a with
            | none => rfl
            | some o =>
              have hnv : ¬ vC fp as a := fun ⟨j, hj, y2⟩ => s.dis i j (fun e => hv (mem_vS.mpr (e ▸ hj))) a y y2
              rcases ch.new a (by rw [frz_out hnv]; exact hn) (by rw [ef]; simp) with y2 | y2
              · exact absurd y2 (stay i (fun z => hio2 (mem_ioS.mpr z)) (fun z => hv (mem_vS.mpr z)) a y)
              · exact absurd y2 (live i a y)
    · rcases cases3 i a y1 with ⟨hi, w1⟩ | ⟨hi, hi2, w1⟩
      · rcases cases3 j a y2 with ⟨hj, w2⟩ | ⟨hj, hj2, w2⟩
        · exact k2 i j hij a w1 w2
        · exact outs_no j a hj hj2 w2 (fqo i a w1)
      · rcases cases3 j a y2 with ⟨hj, w2⟩ | ⟨hj, hj2, w2⟩
        · exact outs_no i a hi hi2 w1 (fqo j a w2)
        · exact s.dis i j hij a w1 w2
    · have hlv : lvOf (ioG as Γ) i = if i ∈ vS as then 1 else lvOf Γ i := lvOf_setG _ _ _ _ hlt
      rw [hlv] at hi
      by_cases hv : i ∈ vS as
      · rw [if_pos hv] at hi; omega
      · rw [if_neg hv] at hi
        have hno : i ∉ ioS as := fun z => by
          obtain ⟨j, hj⟩ := List.getElem?_of_mem (mem_ioS.mp z)
          have := h1 i (List.mem_of_getElem? (slot_of hj rfl))
          omega
        rw [fpo i hno hv]
        exact s.dead i hi
    · obtain ⟨i, y2⟩ := y2
      rcases cases3 i a y2 with ⟨hi, w⟩ | ⟨hi, hi2, w⟩
      · exact dd a y1 (fqo i a w)
      · rcases growf a y1 with y | y
        · exact stay i (fun z => hi (mem_ioS.mpr z)) (fun z => hi2 (mem_vS.mpr z)) a w y
        · exact live i a w y
    · by_cases hv : vC fp as a
      · obtain ⟨i, _, y⟩ := hv
        exact .inl ⟨i, y⟩
      · exact (ch.new a (by rw [frz_out hv]; exact y1) y2).imp (gOwn a) id
    · rcases y with ⟨i, y⟩ | y
      · rcases cases3 i a y with ⟨hi, w⟩ | ⟨hi, hi2, w⟩
        · exact grow a (fqo i a w)
        · exact .inl ⟨i, w⟩
      · exact (growf a y).imp (gOwn a) id
theorem se_callIo {as : List C} {x : Str} {p pos : Pos} {a : Expr} {es : List Expr} {Γ : Gm} {n f : Nat} {fn : Fn} (hf : T.P.fns[f]? = some fn) (nm : NmA X as (a :: es)) (hl : as.length = fn.np) (hrl : 1 ≤ fn.rl) (h1 : ∀ i ∈ slS as, 1 ≤ lvOf Γ i) (hnd : (ioS as).Nodup) (hdis : ∀ i ∈ vS as, i ∉ ioS as)
    (halv : fn.alv = lvS Γ as) (hio : fn.io = ioP 0 as) (hil : fn.il = ioL Γ as) (hall : ∀ c ∈ as, (ioSl c).isSome = true)
    (tk : Takes X W) (hr : Room (n + 2) X.A) (hg : Gl X x) (c : Callee T n f fn x X) (h2 : (a :: es).all ns = true) (hdb : (x == ("__debug__" : Str)) = false) :
    SE X T W [] false (fun e => (evL T.P.gl (run T.P n) as e).bind fun xs e1 => callR (run T.P n) f as xs e1) (.Call (.Name x p) (a :: es) [] pos) Γ fn.rl (ioG as Γ) := by
  obtain ⟨ad, fd, ps, hps, F, hmg, hk, hb⟩ := c.ex
  simp only [List.all_cons, Bool.and_eq_true] at h2
  exact PE.mono (pe_callS F hr hg hmg hk hb (fun σ => passAt tk σ) (pa_names nm) hdb (star_cons h2.1) (star_any h2.2)) fun _ _ _ z => rd_callIo hf nm hl hrl h1 hnd hdis halv hio hil hall z
end
end Z

/-! Z19: the checker of expressions. -/
namespace Z
open PySem PySem.Spec L2 PyProof.Rows
/-- a law's tables: names of the defs, of the constants -/
structure Lw where
  T : Tb
  nm : List Str
  glN : List Str
  /-- the exceptions' classes: their names, whether the message shows the field, what isinstance says of the class -/
  exN : List Str := []
  exM : List Bool := []
  tb : Nat → List (Str × Bool) := fun _ => []
structure Kx where
  N : List Str
  names : List (Str × NameKind)
  fa : Bool
def Kx.ok (x : Str) : Bool := !(x == ("__debug__" : Str)) && !(x == ("__classdict__" : Str)) && decide (x ≠ "__name__")
def Kx.vis (κ : Kx) (i : Nat) (x : Str) : Bool := decide (κ.N[i]? = some x) && (match κ.names.lookup x with | some .local => true | some .cell => true | some .free => true | _ => false) && Kx.ok x
def Kx.loc (κ : Kx) (i : Nat) (x : Str) : Bool := decide (κ.N[i]? = some x) && (match κ.names.lookup x with | some .local => true | some .cell => κ.fa | _ => false)
def Kx.gl (κ : Kx) (x : Str) : Bool := (match κ.names.lookup x with | some .globalImplicit => true | _ => false) && Kx.ok x
def gd {α : Type} (b : Bool) (o : Option α) : Option α := if b = true then o else none
theorem gd_eq {α : Type} {b : Bool} {o : Option α} {x : α} : gd b o = some x ↔ b = true ∧ o = some x := by
  unfold gd
  cases b <;> simp
def leN : List Nat → List Nat → Bool
  | [], [] => true
  | a :: x, b :: y => decide (a ≤ b) && leN x y
  | _, _ => false
theorem leN_ok : ∀ {x y : Gm}, leN x y = true → leG x y
  | [], [], _ => leG.refl _
  | a :: x, b :: y, h => by
    simp only [leN, Bool.and_eq_true, decide_eq_true_eq] at h
    obtain ⟨h1, h2⟩ := h
    obtain ⟨k1, k2⟩ := leN_ok h2
    refine ⟨by simp [k1], fun i => ?_⟩
    cases i with
    | zero => simpa [lvOf] using h1
    | succ i => simpa [lvOf] using k2 i
  | [], _ :: _, h => by simp [leN] at h
  | _ :: _, [], h => by simp [leN] at h
def meetG (a b : Gm) : Gm := List.zipWith min a b
/-- an answer's level below both -/
def meetM (m n : Nat) : Nat := if m = 0 ∨ n = 0 then 0 else min m n
theorem meetM_l (m n : Nat) : meetM m n = 0 ∨ (1 ≤ meetM m n ∧ meetM m n ≤ m) := by unfold meetM; split <;> omega
theorem meetM_r (m n : Nat) : meetM m n = 0 ∨ (1 ≤ meetM m n ∧ meetM m n ≤ n) := by unfold meetM; split <;> omega
/-- the built-in functions by their names: a function, a class -/
def nameB : B1 → Option Str
  | .len => some "len"
  | .abs => some "abs"
  | .int => some "int"
  | .sum => some "sum"
  | .all => some "all"
  | .any => some "any"
  | .max => some "max"
  | .min => some "min"
  | _ => none
/-- the methods by their names -/
def nameM : M1 → Option Str
  | .index => some "index"
  | .count => some "count"
  | .join => some "join"
  | .split => some "split"
  | _ => none
def nameT : B1 → Option Str
  | .isInt => some "int"
  | .isBool => some "bool"
  | .isStr => some "str"
  | .isList => some "list"
  | .isTuple => some "tuple"
  | _ => none
def blt : List Str := ["len", "abs", "int", "sum", "all", "any", "bool", "str", "list", "tuple", "isinstance", "range", "zip", "enumerate", "max", "min", "sorted", "reversed", "set", "super", "ValueError"]
def isTupE : Expr → Bool
  | .Tuple .. => true
  | _ => false
/-- a comprehension's names within -/
def relN (outer : List (Str × NameKind)) (names : List (Str × NameKind)) : List (Str × NameKind) :=
  names.map fun (n, k) => if (k == .free && outer.lookup n == some .cell) then (n, .cell) else (n, k)
/-- the names of a target, by their slots -/
def tgNames : T → Expr → List (Str × Nat)
  | .n i, .Name y _ => [(y, i)]
  | .tp is, .Tuple es _ _ => (es.zip is).filterMap fun (e, i) => match e with
    | .Name y _ => some (y, i)
    | _ => none
  | _, _ => []
def ckNames (κ : Kx) : List Nat → List Expr → Bool
  | [], [] => true
  | i :: is, .Name y _ :: es => κ.loc i y && ckNames κ is es
  | _, _ => false
def ckTg (κ : Kx) (t : T) (x : Expr) : Bool := match t with
  | .n i => (match x with
    | .Name y _ => κ.loc i y
    | _ => false)
  | .tp is => (match x with
    | .Tuple es _ _ => ckNames κ is es
    | _ => false)
def scO (names : List (Str × NameKind)) : Scope := ⟨.function, names, false, false, []⟩
def boI : C → Option Nat
  | .bo i => some i
  | _ => none
def boOk : List C → List Nat → Gm → Bool
  | [], [], _ => true
  | c :: cs, m :: ms, Γ => (match boI c with
    | some i => decide (1 ≤ lvOf Γ i)
    | none => own m) && boOk cs ms Γ
  | _, _, _ => false
/-- arguments by names -/
def ckNm (κ : Kx) : List C → List Expr → Bool
  | [], [] => true
  | c :: cs, .Name y _ :: xs => (match ioSl c with
    | some i => κ.vis i y
    | none => false) && ckNm κ cs xs
  | _, _ => false
section
variable (L : Lw) (kp : List Nat)
mutual
def ckE : Nat → Kx → List Nat → C → Expr → Gm → Option (Bool × Nat × Gm)
  | 0, _, _, _, _, _ => none
  | n + 1, κ, kp, c, x, Γ => match c with
    | .non => (match x with | .Constant .none _ _ => some (true, 100, Γ) | _ => none)
    | .bl b => (match x with | .Constant (.bool b') _ _ => gd (b' == b) (some (true, 100, Γ)) | _ => none)
    | .int i => (match x with | .Constant (.int j) _ _ => gd (j == i) (some (true, 100, Γ)) | _ => none)
    | .str s => (match x with | .Constant (.str y) _ _ => gd (y.cps.toList == s) (some (true, 100, Γ)) | _ => none)
    | .v i => (match x with | .Name y _ => gd (κ.vis i y && decide (1 ≤ lvOf Γ i)) (some (true, 1, Γ.set i 1)) | _ => none)
    | .mv i => (match x with | .Name y _ => gd (κ.vis i y && decide (1 ≤ lvOf Γ i)) (some (true, lvOf Γ i, Γ.set i 0)) | _ => none)
    | .pk i => (match x with | .Name y _ => gd (κ.vis i y && decide (1 ≤ lvOf Γ i)) (some (true, (if lvOf Γ i = 1 then 1 else 0), Γ)) | _ => none)
    | .gl g => (match x with | .Name y _ => (L.T.P.gl[g]?).bind fun d => gd (κ.gl y && decide (L.glN[g]? = some y)) (some (true, (if flat d then 100 else 1), Γ)) | _ => none)
    | .op o a b => (match x with
      | .BinOp xa o' xb _ => gd (decide (o' = opOf o)) ((ckE n κ kp a xa Γ).bind fun r => (ckE n κ kp b xb r.2.2).bind fun s => gd (own r.2.1 || s.1) (some (r.1 && s.1, 100, s.2.2)))
      | _ => none)
    | .cat a b => (match x with
      | .BinOp xa o' xb _ => gd (decide (o' = .Add)) ((ckE n κ kp a xa Γ).bind fun r => (ckE n κ kp b xb r.2.2).bind fun s => gd (own r.2.1 && own s.2.1) (some (r.1 && s.1, 2, s.2.2)))
      | _ => none)
    | .catT a b => (match x with
      | .BinOp xa o' xb _ => gd (decide (o' = .Add)) ((ckE n κ kp a xa Γ).bind fun r => (ckE n κ kp b xb r.2.2).bind fun s => gd (own r.2.1 && own s.2.1) (some (r.1 && s.1, 1, s.2.2)))
      | _ => none)
    | .neg a => (match x with
      | .UnaryOp .USub xa _ => (ckE n κ kp a xa Γ).bind fun r => some (r.1, 100, r.2.2)
      | _ => none)
    | .nt a => (match x with
      | .UnaryOp .Not xa _ => (ckE n κ kp a xa Γ).bind fun r => some (r.1, 100, r.2.2)
      | _ => none)
    | .and a b => (match x with
      | .BoolOp .And xs _ => ckV n κ kp true (.and a b) xs Γ
      | _ => none)
    | .or a b => (match x with
      | .BoolOp .Or xs _ => ckV n κ kp false (.or a b) xs Γ
      | _ => none)
    | .cmp o a b => (match x with
      | .Compare xa [o'] [xb] _ => gd (decide (o' = cpOf o) && !behindInMarks (cpOf o) xb) ((ckE n κ kp a xa Γ).bind fun r => (ckE n κ kp b xb r.2.2).bind fun s => gd (own r.2.1 || s.1) (some (r.1 && s.1, 100, s.2.2)))
      | _ => none)
    | .cmp2 o o' a b c => (match x with
      | .Compare xa [p1, p2] [xb, xc] _ => gd (decide (p1 = cpOf o) && decide (p2 = cpOf o') && !behindInMarks (cpOf o') xc) ((ckE n κ kp a xa Γ).bind fun r => (ckE n κ kp b xb r.2.2).bind fun s => (ckE n κ kp c xc s.2.2).bind fun t =>
        gd ((own r.2.1 || s.1) && (own s.2.1 || t.1) && leN (meetG s.2.2 t.2.2) s.2.2 && leN (meetG s.2.2 t.2.2) t.2.2) (some (r.1 && (s.1 && t.1), 100, meetG s.2.2 t.2.2)))
      | _ => none)
    | .ife c a b => (match x with
      | .IfExp xc xa xb _ => (ckT n κ kp c xc Γ).bind fun r => (ckE n κ kp a xa r.2).bind fun s => (ckE n κ kp b xb r.2).bind fun t =>
        gd (leN (meetG s.2.2 t.2.2) s.2.2 && leN (meetG s.2.2 t.2.2) t.2.2) (some (r.1 && (s.1 && t.1), meetM s.2.1 t.2.1, meetG s.2.2 t.2.2))
      | _ => none)
    | .call f as => (match x with
      | .Call (.Name y _) (e :: es) [] _ => (L.T.P.fns[f]?).bind fun fn => gd (decide (L.nm[f]? = some y) && κ.gl y && decide (1 ≤ fn.rl)) (if fn.io.isEmpty = false then gd (kp.isEmpty && ckNm κ as (e :: es) && decide (as.length = fn.np) && (slS as).all (fun i => decide (1 ≤ lvOf Γ i)) && decide (ioS as).Nodup && (vS as).all (fun i => !(ioS as).contains i) && decide (fn.alv = lvS Γ as) && decide (fn.io = ioP 0 as) && decide (fn.il = ioL Γ as)) (some (false, fn.rl, ioG as Γ))
        else if as.any isBo = true then (ckLb n κ kp as (e :: es) Γ).bind fun r =>
        gd (decide (fn.rl = 100) && decide (as.length = fn.np) && kp.all (fun i => decide (1 ≤ lvOf r.2 i)) && boOk as r.1 r.2) (some (true, 100, r.2))
        else (ckL n κ kp as (e :: es) Γ).bind fun r =>
        gd (r.2.1.all own && decide (r.2.1.length = fn.np) && kp.all (fun i => decide (1 ≤ lvOf r.2.2 i))) (some (r.1, fn.rl, r.2.2)))
      | .Call (.Name y _) [] [] _ => (L.T.P.fns[f]?).bind fun fn => gd (decide (L.nm[f]? = some y) && κ.gl y && fn.io.isEmpty && decide (1 ≤ fn.rl) && as.isEmpty && decide (fn.np = 0) && kp.all (fun i => decide (1 ≤ lvOf Γ i))) (some (true, fn.rl, Γ))
      | _ => none)
    | .pop i => (match x with
      | .Call (.Attribute (.Name y _) nm apos) [] [] cpos => gd (κ.vis i y && (nm == ("pop" : Str)) && decide (2 ≤ lvOf Γ i) && (apos.endLine == cpos.line)) (some (false, 100, Γ))
      | _ => none)
    | .bi f as => (match x with
      | .Call (.Name y _) (e :: es) [] _ => gd (κ.gl y) (match nameT f with
        | some t => (match as, es with
          | [a], [.Name ty _] => gd (y == ("isinstance" : Str) && ns e && (ty == t) && κ.gl ty) ((ckE n κ kp a e Γ).bind fun r => some (r.1, 100, r.2.2))
          | _, _ => none)
        | none => (match nameB f with
          | some t => gd (y == t) ((ckL n κ kp as (e :: es) Γ).bind fun r => some (r.1, 100, r.2.2))
          | none => (match f, as, es with
            | .list, [a], [] => gd (y == ("list" : Str) && ns e) ((ckE n κ kp a e Γ).bind fun r => gd (own r.2.1) (some (r.1, 2, r.2.2)))
            | .tuple, [a], [] => gd (y == ("tuple" : Str) && ns e) ((ckE n κ kp a e Γ).bind fun r => gd (own r.2.1) (some (r.1, 1, r.2.2)))
            | .set, [a], [] => (match e with
              | .Call (.Name y2 _) [e2] [] _ => gd (y == ("len" : Str) && (y2 == ("set" : Str)) && κ.gl y2 && ns e2) ((ckE n κ kp a e2 Γ).bind fun r => some (r.1, 100, r.2.2))
              | _ => none)
            | _, _, _ => none)))
      | _ => none)
    | .rep a b => (match x with
      | .BinOp xa o' xb _ => gd (decide (o' = .Mult)) ((ckE n κ kp a xa Γ).bind fun r => (ckE n κ kp b xb r.2.2).bind fun s => gd (decide (2 ≤ r.2.1)) (some (r.1 && s.1, 2, s.2.2)))
      | _ => none)
    | .mt mm o as => (match x with
      | .Call (.Attribute xo nm apos) (e :: es) [] cpos => gd (decide (nameM mm = some nm) && nsup xo && (apos.endLine == cpos.line) && decide (es.length < 20))
        ((ckE n κ kp o xo Γ).bind fun r => (ckL n κ kp as (e :: es) r.2.2).bind fun s => gd (own r.2.1 || s.1) (some (r.1 && s.1, 100, s.2.2)))
      | _ => none)
    | .ix a i => (match x with
      | .Subscript xa xi _ => gd (nsl xi) ((ckE n κ kp a xa Γ).bind fun r => (ckE n κ kp i xi r.2.2).bind fun s => gd (own r.2.1 || s.1) (some (r.1 && s.1, child r.2.1, s.2.2)))
      | _ => none)
    | .sl a lo hi => (match x with
      | .Subscript xa (.Slice xl xh none _) _ => (ckE n κ kp a xa Γ).bind fun r => (ckO n κ kp lo xl r.2.2).bind fun s => (ckO n κ kp hi xh s.2).bind fun t => gd (own r.2.1) (some (r.1 && (s.1 && t.1), 2, t.2))
      | _ => none)
    | .slT a lo hi => (match x with
      | .Subscript xa (.Slice xl xh none _) _ => (ckE n κ kp a xa Γ).bind fun r => (ckO n κ kp lo xl r.2.2).bind fun s => (ckO n κ kp hi xh s.2).bind fun t => gd (own r.2.1) (some (r.1 && (s.1 && t.1), 1, t.2))
      | _ => none)
    | .lst as => (match x with
      | .List es _ => (ckL n κ kp as es Γ).bind fun r => gd (r.2.1.all (fun m => decide (1 ≤ m)) && decide (as.length ≤ 1000)) (some (r.1, lvD r.2.1, r.2.2))
      | _ => none)
    | .tup as => (match x with
      | .Tuple es _ _ => (ckL n κ kp as es Γ).bind fun r => gd (r.2.1.all (fun m => decide (1 ≤ m)) && decide (as.length ≤ 1000)) (some (r.1, lvD r.2.1, r.2.2))
      | _ => none)
    | .fl a => (ckE n κ kp a x Γ).bind fun r => some (r.1, 100, r.2.2)
    | .lc e t it cs => (match x with
      | .ListComp xe [⟨tg, xi, ifs, 0⟩] scope _ => gd (nset xi && blkC κ.N (scO κ.names) scope (tgNames t tg) && decide ((tgNames t tg).map (·.2) = t.is) && ckTg ⟨κ.N, relN κ.names scope.names, false⟩ t tg)
        ((ckI n κ kp it xi tg Γ).bind fun r => 
          (ckTs n ⟨κ.N, relN κ.names scope.names, false⟩ [] cs ifs (tgtG t 1 (setG t.is 0 r.2))).bind fun s => (ckE n ⟨κ.N, relN κ.names scope.names, false⟩ [] e xe s.2).bind fun u =>
          (ckTs n ⟨κ.N, relN κ.names scope.names, false⟩ [] cs ifs (tgtG t 1 (setG t.is 0 (meetG r.2 u.2.2)))).bind fun s2 => (ckE n ⟨κ.N, relN κ.names scope.names, false⟩ [] e xe s2.2).bind fun u2 =>
          gd (t.is.all (fun i => decide (i < (setG t.is 0 (meetG r.2 u.2.2)).length)) && leN (setG t.is 0 (meetG r.2 u.2.2)) r.2 && leN (setG t.is 0 (meetG r.2 u.2.2)) (setG t.is 0 s2.2) && leN (setG t.is 0 (meetG r.2 u.2.2)) (setG t.is 0 u2.2.2)
            && t.is.all (fun i => decide (lvOf (setG t.is 0 (meetG r.2 u.2.2)) i = 0)) && own u2.2.1 && decide (u2.2.1 ≠ 99))
          (some (r.1 && (s2.1 && u2.1), up u2.2.1, setG t.is 0 (meetG r.2 u.2.2))))
      | _ => none)
    | .lc2 e t it cs t2 it2 cs2 => (match x with
      | .ListComp xe [⟨tg, xi, ifs, 0⟩, ⟨tg2, xi2, ifs2, 0⟩] scope _ => gd (nset xi && nset xi2 && blkC κ.N (scO κ.names) scope (tgNames t tg ++ tgNames t2 tg2) && decide ((tgNames t tg ++ tgNames t2 tg2).map (·.2) = t.is ++ t2.is) && ckTg ⟨κ.N, relN κ.names scope.names, false⟩ t tg && ckTg ⟨κ.N, relN κ.names scope.names, false⟩ t2 tg2)
        ((ckI n κ kp it xi tg Γ).bind fun r =>
          (ckTs n ⟨κ.N, relN κ.names scope.names, false⟩ [] cs ifs (tgtG t 1 (setG t.is 0 r.2))).bind fun s => (ckI n ⟨κ.N, relN κ.names scope.names, false⟩ [] it2 xi2 tg2 s.2).bind fun i =>
          (ckTs n ⟨κ.N, relN κ.names scope.names, false⟩ [] cs2 ifs2 (tgtG t2 1 (setG t2.is 0 i.2))).bind fun s1 => (ckE n ⟨κ.N, relN κ.names scope.names, false⟩ [] e xe s1.2).bind fun u =>
          (some (setG (t.is ++ t2.is) 0 (meetG r.2 u.2.2))).bind fun Γm =>
          (ckTs n ⟨κ.N, relN κ.names scope.names, false⟩ [] cs ifs (tgtG t 1 Γm)).bind fun s' => (ckI n ⟨κ.N, relN κ.names scope.names, false⟩ [] it2 xi2 tg2 s'.2).bind fun i' => (some (setG t2.is 0 (meetG i'.2 u.2.2))).bind fun Γm1 =>
          (ckTs n ⟨κ.N, relN κ.names scope.names, false⟩ [] cs2 ifs2 (tgtG t2 1 Γm1)).bind fun s1' => (ckE n ⟨κ.N, relN κ.names scope.names, false⟩ [] e xe s1'.2).bind fun u' =>
          gd (t.is.all (fun i => decide (i < Γm.length)) && leN Γm r.2 && (t.is ++ t2.is).all (fun i => decide (lvOf Γm i = 0)) && leN Γm (setG t.is 0 s'.2) && leN Γm (setG t.is 0 Γm1) && own u'.2.1 && decide (u'.2.1 ≠ 99)
            && t2.is.all (fun j => decide (j < Γm1.length)) && leN Γm1 i'.2 && t2.is.all (fun j => decide (lvOf Γm1 j = 0)) && leN Γm1 (setG t2.is 0 s1'.2) && leN Γm1 (setG t2.is 0 u'.2.2))
          (some (r.1 && (s'.1 && (i'.1 && (s1'.1 && u'.1))), up u'.2.1, Γm)))
      | _ => none)
    | _ => none
def ckL : Nat → Kx → List Nat → List C → List Expr → Gm → Option (Bool × List Nat × Gm)
  | 0, _, _, _, _, _ => none
  | n + 1, κ, kp, cs, xs, Γ => match cs, xs with
    | [], [] => some (true, [], Γ)
    | c :: cs, x :: xs => (ckE n κ kp c x Γ).bind fun r => (ckL n κ kp cs xs r.2.2).bind fun s => gd (ns x && (own r.2.1 || s.1)) (some (r.1 && s.1, r.2.1 :: s.2.1, s.2.2))
    | _, _ => none
/-- arguments, some of them looked at only -/
def ckLb : Nat → Kx → List Nat → List C → List Expr → Gm → Option (List Nat × Gm)
  | 0, _, _, _, _, _ => none
  | n + 1, κ, kp, cs, xs, Γ => match cs, xs with
    | [], [] => some ([], Γ)
    | c :: cs, x :: xs => (match boI c with
      | some i => (match x with
        | .Name y _ => gd (κ.vis i y && decide (1 ≤ lvOf Γ i)) ((ckLb n κ kp cs xs Γ).bind fun s => some (0 :: s.1, s.2))
        | _ => none)
      | none => (ckE n κ kp c x Γ).bind fun r => (ckLb n κ kp cs xs r.2.2).bind fun s => gd (ns x && r.1 && own r.2.1) (some (r.2.1 :: s.1, s.2)))
    | _, _ => none
def ckO : Nat → Kx → List Nat → Option C → Option Expr → Gm → Option (Bool × Gm)
  | 0, _, _, _, _, _ => none
  | n + 1, κ, kp, c, x, Γ => match c, x with
    | none, none => some (true, Γ)
    | some c, some x => (ckE n κ kp c x Γ).bind fun r => some (r.1, r.2.2)
    | _, _ => none
/-- a chain of and, or: its values -/
def ckV : Nat → Kx → List Nat → Bool → C → List Expr → Gm → Option (Bool × Nat × Gm)
  | 0, _, _, _, _, _, _ => none
  | n + 1, κ, kp, a, c, xs, Γ => match xs with
    | [] => none
    | [x] => ckE n κ kp c x Γ
    | x :: y :: rest => match a, c with
      | true, .and c1 c2 => (ckE n κ kp c1 x Γ).bind fun r => (ckV n κ kp a c2 (y :: rest) r.2.2).bind fun s => gd (leN (meetG r.2.2 s.2.2) r.2.2 && leN (meetG r.2.2 s.2.2) s.2.2) (some (r.1 && s.1, meetM r.2.1 s.2.1, meetG r.2.2 s.2.2))
      | false, .or c1 c2 => (ckE n κ kp c1 x Γ).bind fun r => (ckV n κ kp a c2 (y :: rest) r.2.2).bind fun s => gd (leN (meetG r.2.2 s.2.2) r.2.2 && leN (meetG r.2.2 s.2.2) s.2.2) (some (r.1 && s.1, meetM r.2.1 s.2.1, meetG r.2.2 s.2.2))
      | _, _ => none
/-- .. as a test -/
def ckW : Nat → Kx → List Nat → Bool → C → List Expr → Gm → Option (Bool × Gm)
  | 0, _, _, _, _, _, _ => none
  | n + 1, κ, kp, a, c, xs, Γ => match xs with
    | [] => none
    | [x] => ckT n κ kp c x Γ
    | x :: y :: rest => match a, c with
      | true, .and c1 c2 => (ckT n κ kp c1 x Γ).bind fun r => (ckW n κ kp a c2 (y :: rest) r.2).bind fun s => gd (leN (meetG r.2 s.2) r.2 && leN (meetG r.2 s.2) s.2) (some (r.1 && s.1, meetG r.2 s.2))
      | false, .or c1 c2 => (ckT n κ kp c1 x Γ).bind fun r => (ckW n κ kp a c2 (y :: rest) r.2).bind fun s => gd (leN (meetG r.2 s.2) r.2 && leN (meetG r.2 s.2) s.2) (some (r.1 && s.1, meetG r.2 s.2))
      | _, _ => none
def ckT : Nat → Kx → List Nat → C → Expr → Gm → Option (Bool × Gm)
  | 0, _, _, _, _, _ => none
  | n + 1, κ, kp, c, x, Γ => match x with
    | .BoolOp op xs _ => ckW n κ kp (decide (op = .And)) c xs Γ
    | .UnaryOp .Not y _ => (match c with
      | .nt a => ckT n κ kp a y Γ
      | _ => none)
    | .Compare xa [o'] [xb] _ => (match c with
      | .cmp o a b => gd (decide (o' = cpOf o) && !behindInMarks (cpOf o) xb) ((ckE n κ kp a xa Γ).bind fun r => (ckE n κ kp b xb r.2.2).bind fun s => gd (own r.2.1 || s.1) (some (r.1 && s.1, s.2.2)))
      | _ => none)
    | .Compare xa [p1, p2] [xb, xc] _ => (match c with
      | .cmp2 o o' a b c => gd (decide (p1 = cpOf o) && decide (p2 = cpOf o') && !behindInMarks (cpOf o') xc) ((ckE n κ kp a xa Γ).bind fun r => (ckE n κ kp b xb r.2.2).bind fun s => (ckE n κ kp c xc s.2.2).bind fun t =>
        gd ((own r.2.1 || s.1) && (own s.2.1 || t.1) && leN (meetG s.2.2 t.2.2) s.2.2 && leN (meetG s.2.2 t.2.2) t.2.2) (some (r.1 && (s.1 && t.1), meetG s.2.2 t.2.2)))
      | _ => none)
    | _ => gd (plainT x) ((ckE n κ kp c x Γ).bind fun r => some (r.1, r.2.2))
/-- the tests of a clause -/
def ckTs : Nat → Kx → List Nat → List C → List Expr → Gm → Option (Bool × Gm)
  | 0, _, _, _, _, _ => none
  | n + 1, κ, kp, cs, xs, Γ => match cs, xs with
    | [], [] => some (true, Γ)
    | [c], [x] => ckT n κ kp c x Γ
    | _, _ => none
/-- what is walked -/
def ckI : Nat → Kx → List Nat → C → Expr → Expr → Gm → Option (Bool × Gm)
  | 0, _, _, _, _, _, _ => none
  | n + 1, κ, kp, c, x, tg, Γ => match c with
    | .rg a => (match x with
      | .Call (.Name y _) [xa] [] _ => gd (y == ("range" : Str) && κ.gl y && ns xa) ((ckE n κ kp a xa Γ).bind fun r => some (r.1, r.2.2))
      | _ => none)
    | .rg2 a b => (match x with
      | .Call (.Name y _) [xa, xb] [] _ => gd (y == ("range" : Str) && κ.gl y && ns xa && ns xb) ((ckE n κ kp a xa Γ).bind fun r => (ckE n κ kp b xb r.2.2).bind fun s => gd (own r.2.1 || s.1) (some (r.1 && s.1, s.2.2)))
      | _ => none)
    | .zp a b => (match x with
      | .Call (.Name y _) [xa, xb] [] _ => gd (isTupE tg && y == ("zip" : Str) && κ.gl y && ns xa && ns xb) ((ckE n κ kp a xa Γ).bind fun r => (ckE n κ kp b xb r.2.2).bind fun s => gd (own r.2.1 && own s.2.1) (some (r.1 && s.1, s.2.2)))
      | _ => none)
    | .en a => (match x with
      | .Call (.Name y _) [xa] [] _ => gd (isTupE tg && y == ("enumerate" : Str) && κ.gl y && ns xa) ((ckE n κ kp a xa Γ).bind fun r => gd (own r.2.1) (some (r.1, r.2.2)))
      | _ => none)
    | _ => (ckE n κ kp c x Γ).bind fun r => gd (own r.2.1) (some (r.1, r.2.2))
end
end
end Z

/-! Z20: what the checker of expressions takes is right. -/
namespace Z
open PySem PySem.Spec L2 PyProof.Rows
/-- what is known of an exception's class -/
structure XcOk (L : Lw) (P : Program) (w : World) (K : PySem.W.Frag) (mg : Str → Option Value) (base : Heap) (c : Nat) (x : Str) : Prop where
  k : ∃ m fI fd f se p, L.exM[c]? = some m ∧ OexC K (L.T.ca c) ∧ PySem.W.findIn K (.ref (L.T.ca c)) "__init__" = some (some (.ref fI)) ∧ PySem.W.typeIn K (.ref fI) = some (.type "function") ∧
    FnOk P w K mg base (L2.CX P w) 1 fI fd [se, p] (spI K (L.T.ca c) f m) ∧ Binds K fd [se, p] [] ∧ mg x = some (.ref (L.T.ca c)) ∧ L.T.cf c = [f] ∧ PySem.W.findIn K (.ref (L.T.ca c)) f = some none
  e : L2.ExcC K (L.T.ca c)
  xf : XfC K (L.T.ca c)
  tb : ∀ cn b, (L.tb c).lookup cn = some b → ∃ v cv, (∃ u, RelV v u ∧ (mg cn = some u ∨ (mg cn = none ∧ bootBuiltins cn = some u ∧ cn ≠ "__name__"))) ∧ (∀ u, RelV v u → u = cv) ∧ PySem.W.kitOne K (.ref (L.T.ca c)) cv = some b
  em : ∀ c', L.T.cf c' ≠ [] → PySem.W.exmOne K (.ref (L.T.ca c')) (.ref (L.T.ca c)) = some (L.T.P.sub c' c)
  leaf : ∀ c', L.T.P.sub c' c = true → c' = c
structure XOk (L : Lw) (d : Nat) (κ : Kx) (X : Cx) (W : WX) : Prop where
  K : X.K = L.T.K
  N : X.N = κ.N
  nd : X.N.Nodup
  kind : X.env.scope.kind = .function
  names : X.env.scope.names = κ.names
  calm : X.calm = true
  fn : κ.fa = true → ∀ x, X.fn x = true
  room : Room (d + 2) X.A
  tk : Takes X W
  bl : ∀ x ∈ blt, X.mg x = none
  cal : ∀ (f : Nat) (fn : Fn), L.T.P.fns[f]? = some fn → ∃ x, L.nm[f]? = some x ∧ Callee L.T d f fn x X
  gl : ∀ (g : Nat) (v : D), L.T.P.gl[g]? = some v → ∃ x, L.glN[g]? = some x ∧ GlOk L.T x v X
  exc : ∀ (c : Nat) (x : Str), L.exN[c]? = some x → XcOk L X.prog X.w X.K X.mg X.base c x
section
variable {L : Lw} {d : Nat} {κ : Kx} {X : Cx} {W : WX} {kp : List Nat}
theorem XOk.hu (ok : XOk L d κ X W) : X.A.units + 64 < cLine := by have := ok.room.un; omega
theorem Kx.ok_db {x : Str} (h : Kx.ok x = true) : (x == ("__debug__" : Str)) = false ∧ (x == ("__classdict__" : Str)) = false ∧ x ≠ "__name__" := by
  simp only [Kx.ok, Bool.and_eq_true, Bool.not_eq_true', decide_eq_true_eq] at h
  exact ⟨h.1.1, h.1.2, h.2⟩
theorem XOk.var (ok : XOk L d κ X W) {i : Nat} {x : Str} {pos : Pos} (h : κ.vis i x = true) : PE X (.Name x pos) (tVar i) := by
  simp only [Kx.vis, Bool.and_eq_true, decide_eq_true_eq] at h
  obtain ⟨⟨h1, h2⟩, h3⟩ := h
  obtain ⟨k1, k2, _⟩ := Kx.ok_db h3
  refine pe_var (by rw [ok.N]; exact h1) ?_ k1 k2
  unfold Vis
  rw [ok.names]
  split at h2 <;> first
    | (rename_i e; exact .inl e)
    | (rename_i e; exact .inr (.inl e))
    | (rename_i e; exact .inr (.inr e))
    | cases h2
theorem XOk.glob (ok : XOk L d κ X W) {x : Str} (h : κ.gl x = true) : Gl X x ∧ (x == ("__debug__" : Str)) = false ∧ x ≠ "__name__" := by
  simp only [Kx.gl, Bool.and_eq_true] at h
  obtain ⟨h1, h2⟩ := h
  obtain ⟨k1, _, k2⟩ := Kx.ok_db h2
  refine ⟨?_, k1, k2⟩
  show X.env.scope.names.lookup x = _
  rw [ok.names]
  split at h1 <;> first
    | assumption
    | cases h1
theorem XOk.name (ok : XOk L d κ X W) {i : Nat} {x : Str} {pos : Pos} (h : κ.loc i x = true) : PG X (.Name x pos) (gName i) := by
  simp only [Kx.loc, Bool.and_eq_true, decide_eq_true_eq] at h
  obtain ⟨h1, h2⟩ := h
  have hN : X.N[i]? = some x := by rw [ok.N]; exact h1
  have hl : X.env.scope.names.lookup x = κ.names.lookup x := by rw [ok.names]
  split at h2
  · rename_i e
    exact pg_name ok.nd hN (.inl (hl.trans e)) (.inr (hl.trans e))
  · rename_i e
    exact pg_name ok.nd hN (.inr (hl.trans e)) (.inl (ok.fn h2 x))
  · cases h2
theorem eq_str {x y : Str} (h : (x == y) = true) : x = y := by simpa using h
theorem pgs_ok (ok : XOk L d κ X W) : ∀ {is : List Nat} {es : List Expr}, ckNames κ is es = true → PGs X es (gAll is) ∧ es.length = is.length ∧ ∀ env, (assignEach es env).map (·.2) = es.map (fun e => assign e env)
  | [], [], _ => ⟨pgs_nil, rfl, fun _ => rfl⟩
  | i :: is, e :: es, h => by
    cases e <;> simp only [ckNames, Bool.and_eq_true, Bool.false_eq_true] at h
    obtain ⟨p1, p2, p3⟩ := pgs_ok ok h.2
    exact ⟨pgs_cons (ok.name h.1) p1 rfl, by simp [p2], fun env => by simp only [assignEach, List.map_cons, p3 env]⟩
  | [], _ :: _, h => by simp [ckNames] at h
  | _ :: _, [], h => by simp [ckNames] at h
theorem asg_len {κ : Kx} : ∀ {is : List Nat} {es : List Expr}, ckNames κ is es = true → ∀ env, (assignEach es env).length = is.length ∧ (assignEach es env).findIdx? (·.1) = none
  | [], [], _, _ => ⟨rfl, rfl⟩
  | i :: is, e :: es, h, env => by
    cases e <;> simp only [ckNames, Bool.and_eq_true, Bool.false_eq_true] at h
    obtain ⟨p1, p2⟩ := asg_len h.2 env
    refine ⟨by simp only [assignEach, List.length_cons, p1], ?_⟩
    simp only [assignEach, List.findIdx?_cons, p2, Bool.false_eq_true, if_false, Option.map_none]
  | [], _ :: _, h, _ => by simp [ckNames] at h
  | _ :: _, [], h, _ => by simp [ckNames] at h
theorem XOk.tg (ok : XOk L d κ X W) {t : Z.T} {x : Expr} (h : ckTg κ t x = true) : PG X x (gT L.T.K t) := by
  cases t with
  | n i =>
    cases x <;> simp only [ckTg, Bool.false_eq_true] at h
    exact ok.name h
  | tp is =>
    cases x <;> simp only [ckTg, Bool.false_eq_true] at h
    rename_i es k pos
    obtain ⟨p1, _, _⟩ := pgs_ok ok h
    obtain ⟨p2, p3⟩ := asg_len h X.env
    have := pg_tup (X := X) (pos := pos) (k := k) (n := is.length) ok.calm p1 p2 p3
    rw [ok.K] at this
    exact this
theorem blk_names {scope : Scope} {env : PySem.Env} {names : List (Str × NameKind)} (hk : env.scope.kind = .function) (hn : env.scope.names = names) (cl : List (Str × Addr)) (C : Addr) : (compEnvC scope cl C env).scope.names = relN names scope.names := by
  show (relabel scope env).names = _
  unfold relabel relN
  dsimp only
  refine List.map_congr_left fun p _ => ?_
  obtain ⟨x, k⟩ := p
  have : env.kindOf x = names.lookup x := by show env.scope.names.lookup x = _; rw [hn]
  rw [this, hk]
  simp
theorem XOk.blk (ok : XOk L d κ X W) {scope : Scope} (hs : scope.kind = .function) (s : Shared) (H : Hp) (C : Addr) (cl : List (Str × Addr)) (fp : List Addr) : XOk L d ⟨κ.N, relN κ.names scope.names, false⟩ (X.blk s H scope (compEnvC scope cl C X.env) fp) W0 where
  K := ok.K
  N := ok.N
  nd := ok.nd
  kind := hs
  names := blk_names ok.kind ok.names cl C
  calm := ok.calm
  fn := fun h => by simp at h
  room := ok.room
  tk := fun u s' ⟨a, B, sI, pins, σ, H, cls, d, e, I, nb, up, sky, na, os, ag, w⟩ => w.elim
  bl := ok.bl
  cal := fun f fn h => by
    obtain ⟨x, h1, ⟨c⟩⟩ := ok.cal f fn h
    exact ⟨x, h1, ⟨c⟩⟩
  gl := fun g v h => by
    obtain ⟨x, h1, ⟨c⟩⟩ := ok.gl g v h
    exact ⟨x, h1, ⟨c⟩⟩
  exc := ok.exc
theorem blkOk_of {N : List Str} {sc scope : Scope} {names : List (Str × NameKind)} {own : List (Str × Nat)} (hn : sc.names = names) (h : blkC N (scO names) scope own = true) : BlkOk N sc scope own := by
  have b := blkOk_by h
  exact ⟨b.kind, b.uniq, b.ix, fun y hy e => by rw [hn]; exact b.free y hy e, b.own⟩
/-! ### the theorem -/
structure CkOk (L : Lw) (d n : Nat) : Prop where
  eE : ∀ {κ kp c x Γ q m Γ'}, ckE L n κ kp c x Γ = some (q, m, Γ') → ∀ {X W}, XOk L d κ X W → SE X L.T W kp q (ev L.T.P.gl (run L.T.P d) c) x Γ m Γ'
  eL : ∀ {κ kp cs xs Γ q ms Γ'}, ckL L n κ kp cs xs Γ = some (q, ms, Γ') → ∀ {X W}, XOk L d κ X W → SL X L.T W kp q (evL L.T.P.gl (run L.T.P d) cs) xs Γ ms Γ' ∧ xs.all ns = true ∧ cs.length = xs.length
  eLb : ∀ {κ kp cs xs Γ ms Γ'}, ckLb L n κ kp cs xs Γ = some (ms, Γ') → ∀ {X W}, XOk L d κ X W → SLb X L.T W kp cs (evL L.T.P.gl (run L.T.P d) cs) xs Γ ms Γ' ∧ xs.all ns = true ∧ cs.length = xs.length
  eO : ∀ {κ kp c x Γ q Γ'}, ckO L n κ kp c x Γ = some (q, Γ') → ∀ {X W}, XOk L d κ X W → SO X L.T W kp q (evO L.T.P.gl (run L.T.P d) c) x Γ Γ'
  eV : ∀ {κ kp a c xs Γ q m Γ'}, ckV L n κ kp a c xs Γ = some (q, m, Γ') → ∀ {X W}, XOk L d κ X W → ∀ pos, SE X L.T W kp q (ev L.T.P.gl (run L.T.P d) c) (.BoolOp (if a then .And else .Or) xs pos) Γ m Γ'
  eW : ∀ {κ kp a c xs Γ q Γ'}, ckW L n κ kp a c xs Γ = some (q, Γ') → ∀ {X W}, XOk L d κ X W → ∀ pos, SW X L.T W kp q (ev L.T.P.gl (run L.T.P d) c) (.BoolOp (if a then .And else .Or) xs pos) Γ Γ'
  eT : ∀ {κ kp c x Γ q Γ'}, ckT L n κ kp c x Γ = some (q, Γ') → ∀ {X W}, XOk L d κ X W → ST X L.T W kp q (ev L.T.P.gl (run L.T.P d) c) x Γ Γ'
  eTs : ∀ {κ kp cs xs Γ q Γ'}, ckTs L n κ kp cs xs Γ = some (q, Γ') → ∀ {X W}, XOk L d κ X W → STs X L.T W kp q (evT L.T.P.gl (run L.T.P d) cs) xs Γ Γ'
  eI : ∀ {κ kp c x tg Γ q Γ'}, ckI L n κ kp c x tg Γ = some (q, Γ') → ∀ {X W}, XOk L d κ X W → SI X L.T W kp q (ev L.T.P.gl (run L.T.P d) c) tg x Γ Γ'
theorem or_own {m : Nat} {q : Bool} (h : (own m || q) = true) : own m = true ∨ q = true := by simpa using h
theorem le_len {G : List D} {k : Oracle} : ∀ {cs : List C} {e e' : Env} {xs : List D}, evL G k cs e = .ok xs e' → xs.length = cs.length
  | [], e, e', xs, h => by simp only [evL] at h; injection h with h1 h2; subst h1; rfl
  | c :: cs, e, e', xs, h => by
    simp only [evL] at h
    cases e1 : ev G k c e with
    | bad => rw [e1] at h; cases h
    | exc y e2 => rw [e1] at h; cases h
    | ok x e2 =>
      rw [e1] at h
      simp only [R.bind_ok] at h
      cases e3 : evL G k cs e2 with
      | bad => rw [e3] at h; cases h
      | exc y e4 => rw [e3] at h; cases h
      | ok ys e4 =>
        rw [e3] at h
        simp only [R.bind_ok] at h
        injection h with h1 h2
        subst h1
        simp [le_len e3]
end
section
variable {L : Lw} {d n : Nat}
theorem ck_L (ih : CkOk L d n) : ∀ {κ kp cs xs Γ q ms Γ'}, ckL L (n + 1) κ kp cs xs Γ = some (q, ms, Γ') → ∀ {X W}, XOk L d κ X W → SL X L.T W kp q (evL L.T.P.gl (run L.T.P d) cs) xs Γ ms Γ' ∧ xs.all ns = true ∧ cs.length = xs.length := by
  intro κ kp cs xs Γ q ms Γ' h X W ok
  simp only [ckL] at h
  split at h
  · cases h
    exact ⟨sl_nil, rfl, rfl⟩
  · rename_i c cs x xs
    simp only [Option.bind_eq_some_iff, gd_eq, Bool.and_eq_true, Option.some.injEq, Prod.mk.injEq] at h
    obtain ⟨⟨q1, m1, Γ1⟩, h1, ⟨q2, ms2, Γ2⟩, h2, ⟨hn, hm⟩, rfl, rfl, rfl⟩ := h
    obtain ⟨i2, i3, i4⟩ := ih.eL h2 ok
    exact ⟨sl_cons (ih.eE h1 ok) i2 (or_own hm) (star_cons hn), by simp [hn, i3], by simp [i4]⟩
  · cases h
theorem boI_eq {c : C} {i : Nat} (h : boI c = some i) : c = .bo i := by
  cases c <;> simp only [boI, reduceCtorEq, Option.some.injEq] at h
  rw [h]
theorem boI_no {c : C} (h : boI c = none) : isBo c = false := by
  cases c <;> first
    | rfl
    | (simp [boI] at h)
theorem ck_Lb (ih : CkOk L d n) : ∀ {κ kp cs xs Γ ms Γ'}, ckLb L (n + 1) κ kp cs xs Γ = some (ms, Γ') → ∀ {X W}, XOk L d κ X W → SLb X L.T W kp cs (evL L.T.P.gl (run L.T.P d) cs) xs Γ ms Γ' ∧ xs.all ns = true ∧ cs.length = xs.length := by
  intro κ kp cs xs Γ ms Γ' h X W ok
  simp only [ckLb] at h
  split at h
  · cases h
    exact ⟨sb_nil, rfl, rfl⟩
  · rename_i c cs x xs
    split at h
    · rename_i i hi
      split at h
      · simp only [Option.bind_eq_some_iff, gd_eq, Bool.and_eq_true, decide_eq_true_eq, Option.some.injEq, Prod.mk.injEq] at h
        obtain ⟨⟨hv, h1⟩, ⟨ms2, Γ2⟩, h2, rfl, rfl⟩ := h
        obtain ⟨i2, i3, i4⟩ := ih.eLb h2 ok
        cases boI_eq hi
        exact ⟨sb_bo (ok.var hv) h1 i2 rfl, by simpa [ns] using i3, by simp [i4]⟩
      · cases h
    · rename_i hi
      simp only [Option.bind_eq_some_iff, gd_eq, Bool.and_eq_true, Option.some.injEq, Prod.mk.injEq] at h
      obtain ⟨⟨q1, m1, Γ1⟩, h1, ⟨ms2, Γ2⟩, h2, ⟨⟨hn, hq⟩, hm⟩, rfl, rfl⟩ := h
      obtain ⟨i2, i3, i4⟩ := ih.eLb h2 ok
      have hq' : q1 = true := hq
      subst hq'
      exact ⟨sb_own (boI_no hi) (ih.eE h1 ok) i2 hm hn, by simp [hn, i3], by simp [i4]⟩
  · cases h
theorem boOk_ok : ∀ {cs : List C} {ms : List Nat} {Γ : Gm}, boOk cs ms Γ = true → (∀ i, .bo i ∈ cs → 1 ≤ lvOf Γ i) ∧ ∀ j : Nat, ∀ c, cs[j]? = some c → isBo c = true ∨ ∃ m, ms[j]? = some m ∧ own m = true
  | [], [], _, _ => ⟨fun i h => by simp at h, fun j c h => by simp at h⟩
  | c :: cs, m :: ms, Γ, h => by
    simp only [boOk, Bool.and_eq_true] at h
    obtain ⟨h1, h2⟩ := h
    obtain ⟨k1, k2⟩ := boOk_ok h2
    refine ⟨fun i hi => ?_, fun j c' hc => ?_⟩
    · rcases List.mem_cons.mp hi with e | hi
      · subst e
        simpa [boI] using h1
      · exact k1 i hi
    · cases j with
      | zero =>
        simp at hc
        subst hc
        split at h1
        · rename_i i hi
          cases boI_eq hi
          exact .inl rfl
        · exact .inr ⟨m, rfl, h1⟩
      | succ j => simpa using k2 j c' (by simpa using hc)
  | [], _ :: _, _, h => by simp [boOk] at h
  | _ :: _, [], _, h => by simp [boOk] at h
theorem ck_O (ih : CkOk L d n) : ∀ {κ kp c x Γ q Γ'}, ckO L (n + 1) κ kp c x Γ = some (q, Γ') → ∀ {X W}, XOk L d κ X W → SO X L.T W kp q (evO L.T.P.gl (run L.T.P d) c) x Γ Γ' := by
  intro κ kp c x Γ q Γ' h X W ok
  simp only [ckO] at h
  split at h
  · cases h; exact so_none
  · simp only [Option.bind_eq_some_iff, Option.some.injEq, Prod.mk.injEq] at h
    obtain ⟨⟨q1, m1, Γ1⟩, h1, rfl, rfl⟩ := h
    exact so_some (ih.eE h1 ok)
  · cases h
theorem ck_V (ih : CkOk L d n) : ∀ {κ kp a c xs Γ q m Γ'}, ckV L (n + 1) κ kp a c xs Γ = some (q, m, Γ') → ∀ {X W}, XOk L d κ X W → ∀ pos, SE X L.T W kp q (ev L.T.P.gl (run L.T.P d) c) (.BoolOp (if a then .And else .Or) xs pos) Γ m Γ' := by
  intro κ kp a c xs Γ q m Γ' h X W ok pos
  simp only [ckV] at h
  split at h
  · cases h
  · exact se_and1 (ih.eE h ok)
  · split at h
    · simp only [Option.bind_eq_some_iff, gd_eq, Bool.and_eq_true, Option.some.injEq, Prod.mk.injEq] at h
      obtain ⟨⟨q1, m1, Γ1⟩, h1, ⟨q2, m2, Γ2⟩, h2, ⟨l1, l2⟩, rfl, rfl, rfl⟩ := h
      exact se_and ok.K (ih.eE h1 ok) (ih.eV h2 ok pos) (leN_ok l1) (leN_ok l2) (meetM_l _ _) (meetM_r _ _)
    · simp only [Option.bind_eq_some_iff, gd_eq, Bool.and_eq_true, Option.some.injEq, Prod.mk.injEq] at h
      obtain ⟨⟨q1, m1, Γ1⟩, h1, ⟨q2, m2, Γ2⟩, h2, ⟨l1, l2⟩, rfl, rfl, rfl⟩ := h
      exact se_or ok.K (ih.eE h1 ok) (ih.eV h2 ok pos) (leN_ok l1) (leN_ok l2) (meetM_l _ _) (meetM_r _ _)
    · cases h
theorem ck_W (ih : CkOk L d n) : ∀ {κ kp a c xs Γ q Γ'}, ckW L (n + 1) κ kp a c xs Γ = some (q, Γ') → ∀ {X W}, XOk L d κ X W → ∀ pos, SW X L.T W kp q (ev L.T.P.gl (run L.T.P d) c) (.BoolOp (if a then .And else .Or) xs pos) Γ Γ' := by
  intro κ kp a c xs Γ q Γ' h X W ok pos
  simp only [ckW] at h
  split at h
  · cases h
  · cases a
    · exact sw_or1 (ih.eT h ok)
    · exact sw_and1 (ih.eT h ok)
  · split at h
    · simp only [Option.bind_eq_some_iff, gd_eq, Bool.and_eq_true, Option.some.injEq, Prod.mk.injEq] at h
      obtain ⟨⟨q1, Γ1⟩, h1, ⟨q2, Γ2⟩, h2, ⟨l1, l2⟩, rfl, rfl⟩ := h
      exact sw_and (ih.eT h1 ok) (ih.eW h2 ok pos) (leN_ok l1) (leN_ok l2)
    · simp only [Option.bind_eq_some_iff, gd_eq, Bool.and_eq_true, Option.some.injEq, Prod.mk.injEq] at h
      obtain ⟨⟨q1, Γ1⟩, h1, ⟨q2, Γ2⟩, h2, ⟨l1, l2⟩, rfl, rfl⟩ := h
      exact sw_or (ih.eT h1 ok) (ih.eW h2 ok pos) (leN_ok l1) (leN_ok l2)
    · cases h
theorem ck_Ts (ih : CkOk L d n) : ∀ {κ kp cs xs Γ q Γ'}, ckTs L (n + 1) κ kp cs xs Γ = some (q, Γ') → ∀ {X W}, XOk L d κ X W → STs X L.T W kp q (evT L.T.P.gl (run L.T.P d) cs) xs Γ Γ' := by
  intro κ kp cs xs Γ q Γ' h X W ok
  simp only [ckTs] at h
  split at h
  · cases h; exact sts_nil
  · exact sts_one (ih.eT h ok)
  · cases h
theorem ck_I (ih : CkOk L d n) : ∀ {κ kp c x tg Γ q Γ'}, ckI L (n + 1) κ kp c x tg Γ = some (q, Γ') → ∀ {X W}, XOk L d κ X W → SI X L.T W kp q (ev L.T.P.gl (run L.T.P d) c) tg x Γ Γ' := by
  intro κ kp c x tg Γ q Γ' h X W ok
  have val : ∀ {c}, ((ckE L n κ kp c x Γ).bind fun r => gd (own r.2.1) (some (r.1, r.2.2))) = some (q, Γ') → SI X L.T W kp q (ev L.T.P.gl (run L.T.P d) c) tg x Γ Γ' := by
    intro c h
    simp only [Option.bind_eq_some_iff, gd_eq, Option.some.injEq, Prod.mk.injEq] at h
    obtain ⟨⟨q1, m1, Γ1⟩, h1, hm, rfl, rfl⟩ := h
    exact si_val ok.K (ih.eE h1 ok) hm
  cases c <;> first | (simp only [ckI] at h; exact val h) | skip
  case rg a =>
    simp only [ckI] at h
    split at h
    · simp only [Option.bind_eq_some_iff, gd_eq, Bool.and_eq_true, Option.some.injEq, Prod.mk.injEq] at h
      obtain ⟨⟨⟨hy, hg⟩, hn⟩, ⟨q1, m1, Γ1⟩, h1, rfl, rfl⟩ := h
      cases eq_str hy
      exact si_rg (ok.glob hg).1 (ok.bl _ (by simp [blt])) (ih.eE h1 ok) hn
    · cases h
  case rg2 a b =>
    simp only [ckI] at h
    split at h
    · simp only [Option.bind_eq_some_iff, gd_eq, Bool.and_eq_true, Option.some.injEq, Prod.mk.injEq] at h
      obtain ⟨⟨⟨⟨hy, hg⟩, hn⟩, hn2⟩, ⟨q1, m1, Γ1⟩, h1, ⟨q2, m2, Γ2⟩, h2, hm, rfl, rfl⟩ := h
      cases eq_str hy
      exact si_rg2 (ok.glob hg).1 (ok.bl _ (by simp [blt])) (ih.eE h1 ok) (ih.eE h2 ok) (or_own hm) hn hn2
    · cases h
  case zp a b =>
    simp only [ckI] at h
    split at h
    · simp only [Option.bind_eq_some_iff, gd_eq, Bool.and_eq_true, Option.some.injEq, Prod.mk.injEq] at h
      obtain ⟨⟨⟨⟨⟨ht, hy⟩, hg⟩, hn⟩, hn2⟩, ⟨q1, m1, Γ1⟩, h1, ⟨q2, m2, Γ2⟩, h2, ⟨hm, hm2⟩, rfl, rfl⟩ := h
      cases eq_str hy
      cases tg <;> simp only [isTupE, Bool.false_eq_true] at ht
      exact si_zp ok.K (ok.glob hg).1 (ok.bl _ (by simp [blt])) (ih.eE h1 ok) (ih.eE h2 ok) hm hm2 hn hn2
    · cases h
  case en a =>
    simp only [ckI] at h
    split at h
    · simp only [Option.bind_eq_some_iff, gd_eq, Bool.and_eq_true, Option.some.injEq, Prod.mk.injEq] at h
      obtain ⟨⟨⟨⟨ht, hy⟩, hg⟩, hn⟩, ⟨q1, m1, Γ1⟩, h1, hm, rfl, rfl⟩ := h
      cases eq_str hy
      cases tg <;> simp only [isTupE, Bool.false_eq_true] at ht
      exact si_en ok.K (ok.glob hg).1 (ok.bl _ (by simp [blt])) (ih.eE h1 ok) hm hn
    · cases h
theorem ck_T (ih : CkOk L d n) : ∀ {κ kp c x Γ q Γ'}, ckT L (n + 1) κ kp c x Γ = some (q, Γ') → ∀ {X W}, XOk L d κ X W → ST X L.T W kp q (ev L.T.P.gl (run L.T.P d) c) x Γ Γ' := by
  intro κ kp c x Γ q Γ' h X W ok
  simp only [ckT] at h
  split at h
  · rename_i op xs pos
    have := ih.eW h ok pos
    cases op <;> exact sw_st this
  · split at h
    · exact st_not (ih.eT h ok)
    · cases h
  · split at h
    · simp only [Option.bind_eq_some_iff, gd_eq, Bool.and_eq_true, Option.some.injEq, Prod.mk.injEq, decide_eq_true_eq, Bool.not_eq_true'] at h
      obtain ⟨⟨rfl, hk⟩, ⟨q1, m1, Γ1⟩, h1, ⟨q2, m2, Γ2⟩, h2, hm, rfl, rfl⟩ := h
      exact st_cmp ok.hu ok.K (ih.eE h1 ok) (ih.eE h2 ok) (or_own hm) hk
    · cases h
  · split at h
    · rename_i o o' a b c
      simp only [Option.bind_eq_some_iff, gd_eq, Bool.and_eq_true, Option.some.injEq, Prod.mk.injEq, decide_eq_true_eq, Bool.not_eq_true'] at h
      obtain ⟨⟨⟨rfl, rfl⟩, hk⟩, ⟨q1, m1, Γ1⟩, h1, ⟨q2, m2, Γ2⟩, h2, ⟨q3, m3, Γ3⟩, h3, ⟨⟨⟨hm, hn⟩, l2⟩, l3⟩, rfl, rfl⟩ := h
      have e : ev L.T.P.gl (run L.T.P d) (.cmp2 o o' a b c) = cmp2D o o' (ev L.T.P.gl (run L.T.P d) a) (ev L.T.P.gl (run L.T.P d) b) (ev L.T.P.gl (run L.T.P d) c) := by
        funext e; simp only [ev, cmp2D] <;> rfl
      rw [e]
      exact st_cmp2 ok.hu ok.K (ih.eE h1 ok) (ih.eE h2 ok) (ih.eE h3 ok) (or_own hm) (or_own hn) (leN_ok l2) (leN_ok l3) hk
    · cases h
  · simp only [Option.bind_eq_some_iff, gd_eq, Option.some.injEq, Prod.mk.injEq] at h
    obtain ⟨hp, ⟨q1, m1, Γ1⟩, h1, rfl, rfl⟩ := h
    exact st_val ok.K (ih.eE h1 ok) (plainT_ok hp)
end
end Z

/-! Z21: what the checker of expressions takes is right: expressions. -/
namespace Z
open PySem PySem.Spec L2 PyProof.Rows
section
variable {L : Lw} {d n : Nat}
theorem one_L {G : List D} {k : Oracle} {a : C} : evL G k [a] = fun e => (ev G k a e).bind fun x e1 => .ok [x] e1 := by
  funext e; simp only [evL, R.bind_ok]
theorem b1_list : b1 .list = listD := by
  funext xs
  match xs with
  | [] => rfl
  | [x] => cases x <;> rfl
  | x :: y :: r => simp [b1, listD]
theorem b1_tuple : b1 .tuple = tupleD := by
  funext xs
  match xs with
  | [] => rfl
  | [x] => cases x <;> rfl
  | x :: y :: r => simp [b1, tupleD]
theorem all_pos {ms : List Nat} (h : ms.all (fun m => decide (1 ≤ m)) = true) : ∀ m ∈ ms, 1 ≤ m := fun m hm => by simpa using List.all_eq_true.mp h m hm
theorem lst_len {G : List D} {k : Oracle} {as : List C} (h : as.length ≤ 1000) : ∀ e xs e', evL G k as e = .ok xs e' → xs.length ≤ LIM := fun e xs e' h' => by
  rw [le_len h']; exact Nat.le_trans h (by decide)
theorem bi_nm {f : B1} {t : Str} {L : Lw} (h : nameB f = some t) (h2 : nameT f = none) {κ : Kx} {X : Cx} {W : WX} {d : Nat} (ok : XOk L d κ X W) {q : Bool} {rs : Env → R (List D)} {p pos : Pos} {a : Expr} {as : List Expr} {Γ Γ1 : Gm} {ms : List Nat} {mo : Nat} {kp : List Nat} (hg : κ.gl t = true)
    (ha : SL X L.T W kp q rs (a :: as) Γ ms Γ1) (hn : (a :: as).all ns = true) : SE X L.T W kp q (fun e => (rs e).bind fun xs e1 => R.lift (b1 f xs) e1) (.Call (.Name t p) (a :: as) [] pos) Γ mo Γ1 := by
  obtain ⟨g1, g2, g3⟩ := ok.glob hg
  cases f <;> simp only [nameB, reduceCtorEq, Option.some.injEq] at h <;> subst h
  · exact se_biF bi_len (ok.K ▸ call_len) g1 (ok.bl _ (by simp [blt])) (by decide +kernel) g3 g2 ha hn
  · exact se_biF bi_abs call_abs g1 (ok.bl _ (by simp [blt])) (by decide +kernel) g3 g2 ha hn
  · exact se_tyF bi_int call_int1 g1 (ok.bl _ (by simp [blt])) (by decide +kernel) g3 g2 ha hn
  · exact se_biF bi_sum (ok.K ▸ cr_sum ok.calm) g1 (ok.bl _ (by simp [blt])) (by decide +kernel) g3 g2 ha hn
  · exact se_biF bi_all (ok.K ▸ cr_all ok.calm) g1 (ok.bl _ (by simp [blt])) (by decide +kernel) g3 g2 ha hn
  · exact se_biF bi_any (ok.K ▸ cr_any ok.calm) g1 (ok.bl _ (by simp [blt])) (by decide +kernel) g3 g2 ha hn
  · exact se_biF bi_max (callR_or (ok.K ▸ cr_max ok.calm) (call_max2 ok.calm)) g1 (ok.bl _ (by simp [blt])) (by decide +kernel) g3 g2 ha hn
  · exact se_biF bi_min (callR_or (ok.K ▸ cr_min ok.calm) (call_min2 ok.calm)) g1 (ok.bl _ (by simp [blt])) (by decide +kernel) g3 g2 ha hn
theorem mt_nm {mm : M1} {t : Str} {L : Lw} (h : nameM mm = some t) {κ : Kx} {X : Cx} {W : WX} {d : Nat} (ok : XOk L d κ X W) {q1 q2 : Bool} {ra : Env → R D} {rs : Env → R (List D)} {apos pos : Pos} {o a : Expr} {as : List Expr} {Γ Γ1 Γ2 : Gm} {m : Nat} {ms : List Nat} {kp : List Nat}
    (hm : own m = true ∨ q2 = true) (ho : SE X L.T W kp q1 ra o Γ m Γ1) (ha : SL X L.T W kp q2 rs (a :: as) Γ1 ms Γ2) (hn : (a :: as).all ns = true) (h3 : nsup o = true) (h4 : (apos.endLine == pos.line) = true) (h5 : as.length < 20) :
    SE X L.T W kp (q1 && q2) (fun e => (ra e).bind fun x e1 => if mtOk mm x = true then (rs e1).bind fun xs e2 => R.lift (m1 mm x xs) e2 else .bad) (.Call (.Attribute o t apos) (a :: as) [] pos) Γ 100 Γ2 := by
  cases mm <;> simp only [nameM, reduceCtorEq, Option.some.injEq] at h <;> subst h
  · exact se_mt ok.K hm mf_join PySem.F.plainAttrs_str PySem.F.slot_str_join PySem.F.type_str_join (ok.K ▸ mt_join) ho ha hn h3 h4 h5
  · exact se_split ok.K hm ho ha hn h3 h4 h5
  · exact se_mt ok.K hm mf_count PySem.F.plainAttrs_str PySem.F.slot_str_count PySem.F.type_str_count mt_count ho ha hn h3 h4 h5
  · exact se_mt ok.K hm mf_index PySem.F.plainAttrs_list PySem.F.slot_list_index PySem.F.type_list_index (ok.K ▸ mt_index) ho ha hn h3 h4 h5
theorem nm_ok {L : Lw} {d : Nat} {κ : Kx} {X : Cx} {W : WX} (ok : XOk L d κ X W) : ∀ {cs : List C} {xs : List Expr}, ckNm κ cs xs = true → NmA X cs xs ∧ xs.all ns = true ∧ ∀ c ∈ cs, (ioSl c).isSome = true
  | [], [], _ => ⟨.nil, rfl, fun c h => by simp at h⟩
  | c :: cs, x :: xs, h => by
    cases x <;> simp only [ckNm, Bool.false_eq_true, Bool.and_eq_true] at h
    obtain ⟨h1, h2⟩ := h
    obtain ⟨i1, i2, i3⟩ := nm_ok ok h2
    split at h1
    · rename_i i hi
      refine ⟨.cons hi (ok.var h1) rfl i1, by simp only [List.all_cons, i2, Bool.and_true]; rfl, fun c' hc => ?_⟩
      rcases List.mem_cons.mp hc with rfl | hc
      · rw [hi]; rfl
      · exact i3 c' hc
    · cases h1
  | [], _ :: _, h => by simp [ckNm] at h
  | _ :: _, [], h => by simp [ckNm] at h
theorem isi_nm {f : B1} {t : Str} (h : nameT f = some t) : ∃ u, isTy f = some u ∧ bootBuiltins t = some (.type u) ∧ t ∈ blt := by
  cases f <;> simp only [nameT, reduceCtorEq, Option.some.injEq] at h <;> subst h
  · exact ⟨_, rfl, by decide +kernel, by simp [blt]⟩
  · exact ⟨_, rfl, by decide +kernel, by simp [blt]⟩
  · exact ⟨_, rfl, by decide +kernel, by simp [blt]⟩
  · exact ⟨_, rfl, by decide +kernel, by simp [blt]⟩
  · exact ⟨_, rfl, by decide +kernel, by simp [blt]⟩
theorem ck_E (ih : CkOk L d n) : ∀ {κ kp c x Γ q m Γ'}, ckE L (n + 1) κ kp c x Γ = some (q, m, Γ') → ∀ {X W}, XOk L d κ X W → SE X L.T W kp q (ev L.T.P.gl (run L.T.P d) c) x Γ m Γ' := by
  intro κ kp c x Γ q m Γ' h X W ok
  cases c <;> try (simp only [ckE, reduceCtorEq] at h; done)
  case non =>
    simp only [ckE] at h
    split at h <;> cases h
    exact se_const pe_non rfl fun _ => mk_non
  case bl b =>
    simp only [ckE] at h
    split at h <;> simp only [gd_eq, reduceCtorEq, beq_iff_eq, Option.some.injEq, Prod.mk.injEq] at h
    obtain ⟨rfl, rfl, rfl, rfl⟩ := h
    exact se_const pe_bl rfl fun _ => mk_bl
  case int b =>
    simp only [ckE] at h
    split at h <;> simp only [gd_eq, reduceCtorEq, beq_iff_eq, Option.some.injEq, Prod.mk.injEq] at h
    obtain ⟨rfl, rfl, rfl, rfl⟩ := h
    exact se_const pe_int rfl fun _ => mk_int
  case str b =>
    simp only [ckE] at h
    split at h <;> simp only [gd_eq, reduceCtorEq, beq_iff_eq, Option.some.injEq, Prod.mk.injEq] at h
    obtain ⟨rfl, rfl, rfl, rfl⟩ := h
    refine se_const pe_str rfl fun _ => ?_
    simp only [RF, txt, Array.toArray_toList]
  case v i =>
    simp only [ckE] at h
    split at h <;> simp only [gd_eq, reduceCtorEq, Bool.and_eq_true, decide_eq_true_eq, Option.some.injEq, Prod.mk.injEq] at h
    obtain ⟨⟨h1, h2⟩, rfl, rfl, rfl⟩ := h
    exact se_v (ok.var h1) h2
  case mv i =>
    simp only [ckE] at h
    split at h <;> simp only [gd_eq, reduceCtorEq, Bool.and_eq_true, decide_eq_true_eq, Option.some.injEq, Prod.mk.injEq] at h
    obtain ⟨⟨h1, h2⟩, rfl, rfl, rfl⟩ := h
    exact se_mv (ok.var h1) h2
  case pk i =>
    simp only [ckE] at h
    split at h <;> simp only [gd_eq, reduceCtorEq, Bool.and_eq_true, decide_eq_true_eq, Option.some.injEq, Prod.mk.injEq] at h
    obtain ⟨⟨h1, h2⟩, rfl, hm, rfl⟩ := h
    exact se_pk (ok.var h1) h2 hm.symm
  case gl g =>
    simp only [ckE] at h
    split at h <;> simp only [Option.bind_eq_some_iff, gd_eq, reduceCtorEq, Bool.and_eq_true, decide_eq_true_eq, Option.some.injEq, Prod.mk.injEq] at h
    obtain ⟨v, hv, ⟨h1, h2⟩, rfl, rfl, rfl⟩ := h
    obtain ⟨y, hy, g2⟩ := ok.gl g v hv
    rw [h2] at hy; cases hy
    obtain ⟨k1, k2, _⟩ := ok.glob h1
    exact se_gl k1 g2 k2 hv
  case op o a b =>
    simp only [ckE] at h
    split at h <;> simp only [Option.bind_eq_some_iff, gd_eq, reduceCtorEq, Bool.and_eq_true, decide_eq_true_eq, Option.some.injEq, Prod.mk.injEq] at h
    obtain ⟨rfl, ⟨q1, m1, Γ1⟩, h1, ⟨q2, m2, Γ2⟩, h2, hm, rfl, rfl, rfl⟩ := h
    exact se_op ok.K (ih.eE h1 ok) (ih.eE h2 ok) (or_own hm)
  case cat a b =>
    simp only [ckE] at h
    split at h <;> simp only [Option.bind_eq_some_iff, gd_eq, reduceCtorEq, Bool.and_eq_true, decide_eq_true_eq, Option.some.injEq, Prod.mk.injEq] at h
    obtain ⟨rfl, ⟨q1, m1, Γ1⟩, h1, ⟨q2, m2, Γ2⟩, h2, ⟨hm, hm2⟩, rfl, rfl, rfl⟩ := h
    exact se_cat (ih.eE h1 ok) (ih.eE h2 ok) hm hm2
  case catT a b =>
    simp only [ckE] at h
    split at h <;> simp only [Option.bind_eq_some_iff, gd_eq, reduceCtorEq, Bool.and_eq_true, decide_eq_true_eq, Option.some.injEq, Prod.mk.injEq] at h
    obtain ⟨rfl, ⟨q1, m1, Γ1⟩, h1, ⟨q2, m2, Γ2⟩, h2, ⟨hm, hm2⟩, rfl, rfl, rfl⟩ := h
    exact se_catT ok.K (ih.eE h1 ok) (ih.eE h2 ok) hm hm2
  case rep a b =>
    simp only [ckE] at h
    split at h <;> simp only [Option.bind_eq_some_iff, gd_eq, reduceCtorEq, Bool.and_eq_true, decide_eq_true_eq, Option.some.injEq, Prod.mk.injEq] at h
    obtain ⟨rfl, ⟨q1, m1, Γ1⟩, h1, ⟨q2, m2, Γ2⟩, h2, hm, rfl, rfl, rfl⟩ := h
    exact se_rep (ih.eE h1 ok) (ih.eE h2 ok) hm
  case mt mm o as =>
    simp only [ckE] at h
    split at h <;> simp only [Option.bind_eq_some_iff, gd_eq, reduceCtorEq, Bool.and_eq_true, decide_eq_true_eq, Option.some.injEq, Prod.mk.injEq] at h
    obtain ⟨⟨⟨⟨hnm, hs⟩, hp⟩, hl⟩, ⟨q1, m1, Γ1⟩, h1, ⟨q2, ms2, Γ2⟩, h2, hm, rfl, rfl, rfl⟩ := h
    obtain ⟨a1, a2, _⟩ := ih.eL h2 ok
    exact mt_nm hnm ok (or_own hm) (ih.eE h1 ok) a1 a2 hs hp hl
  case neg a =>
    simp only [ckE] at h
    split at h <;> simp only [Option.bind_eq_some_iff, reduceCtorEq, Option.some.injEq, Prod.mk.injEq] at h
    obtain ⟨⟨q1, m1, Γ1⟩, h1, rfl, rfl, rfl⟩ := h
    have e : ev L.T.P.gl (run L.T.P d) (.neg a) = fun e => (ev L.T.P.gl (run L.T.P d) a e).bind fun x e1 => R.lift (negD x) e1 := by
      funext e; simp only [ev]; congr 1; funext x e1; cases x <;> rfl
    rw [e]
    exact se_neg (ih.eE h1 ok)
  case nt a =>
    simp only [ckE] at h
    split at h <;> simp only [Option.bind_eq_some_iff, reduceCtorEq, Option.some.injEq, Prod.mk.injEq] at h
    obtain ⟨⟨q1, m1, Γ1⟩, h1, rfl, rfl, rfl⟩ := h
    exact se_not ok.K (ih.eE h1 ok)
  case and a b =>
    simp only [ckE] at h
    split at h
    · exact ih.eV h ok _
    · cases h
  case or a b =>
    simp only [ckE] at h
    split at h
    · exact ih.eV h ok _
    · cases h
  case cmp o a b =>
    simp only [ckE] at h
    split at h <;> simp only [Option.bind_eq_some_iff, gd_eq, reduceCtorEq, Bool.and_eq_true, decide_eq_true_eq, Bool.not_eq_true', Option.some.injEq, Prod.mk.injEq] at h
    obtain ⟨⟨rfl, hk⟩, ⟨q1, m1, Γ1⟩, h1, ⟨q2, m2, Γ2⟩, h2, hm, rfl, rfl, rfl⟩ := h
    exact se_cmp ok.hu ok.K (ih.eE h1 ok) (ih.eE h2 ok) (or_own hm) hk
  case cmp2 o o' a b c =>
    simp only [ckE] at h
    split at h <;> simp only [Option.bind_eq_some_iff, gd_eq, reduceCtorEq, Bool.and_eq_true, decide_eq_true_eq, Bool.not_eq_true', Option.some.injEq, Prod.mk.injEq] at h
    obtain ⟨⟨⟨rfl, rfl⟩, hk⟩, ⟨q1, m1, Γ1⟩, h1, ⟨q2, m2, Γ2⟩, h2, ⟨q3, m3, Γ3⟩, h3, ⟨⟨⟨hm, hn⟩, l2⟩, l3⟩, rfl, rfl, rfl⟩ := h
    have e : ev L.T.P.gl (run L.T.P d) (.cmp2 o o' a b c) = cmp2D o o' (ev L.T.P.gl (run L.T.P d) a) (ev L.T.P.gl (run L.T.P d) b) (ev L.T.P.gl (run L.T.P d) c) := by
      funext e; simp only [ev, cmp2D] <;> rfl
    rw [e]
    exact se_cmp2 ok.hu ok.K (ih.eE h1 ok) (ih.eE h2 ok) (ih.eE h3 ok) (or_own hm) (or_own hn) (leN_ok l2) (leN_ok l3) hk
  case ife c a b =>
    simp only [ckE] at h
    split at h <;> simp only [Option.bind_eq_some_iff, gd_eq, reduceCtorEq, Bool.and_eq_true, Option.some.injEq, Prod.mk.injEq] at h
    obtain ⟨⟨q1, Γ1⟩, h1, ⟨q2, m2, Γ2⟩, h2, ⟨q3, m3, Γ3⟩, h3, ⟨l1, l2⟩, rfl, rfl, rfl⟩ := h
    exact se_if (ih.eT h1 ok) (ih.eE h2 ok) (ih.eE h3 ok) (leN_ok l1) (leN_ok l2) (meetM_l _ _) (meetM_r _ _)
  case call f as =>
    simp only [ckE] at h
    split at h <;> simp only [Option.bind_eq_some_iff, gd_eq, reduceCtorEq, Bool.and_eq_true, decide_eq_true_eq, Option.some.injEq, Prod.mk.injEq] at h
    rotate_left
    · obtain ⟨fn, hf, ⟨⟨⟨⟨⟨⟨hnm, hg⟩, hio⟩, hrl⟩, has⟩, hnp⟩, hkp⟩, rfl, rfl, rfl⟩ := h
      obtain ⟨y, hy, c⟩ := ok.cal f fn hf
      rw [hnm] at hy; cases hy
      obtain ⟨k1, k2, _⟩ := ok.glob hg
      cases as with
      | cons a as => simp at has
      | nil =>
        have e : ev L.T.P.gl (run L.T.P d) (.call f []) = fun e => (R.ok [] e : R (List D)).bind fun xs e1 => callR (run L.T.P d) f [] xs e1 := by
          funext e; simp only [ev, evL]
        rw [e]
        exact se_none hf (List.isEmpty_iff.mp hio) hnp hrl (fun i hi => by simpa using List.all_eq_true.mp hkp i hi) ok.tk ok.room k1 c k2
    obtain ⟨fn, hf, ⟨⟨hnm, hg⟩, hrl⟩, h⟩ := h
    obtain ⟨y, hy, c⟩ := ok.cal f fn hf
    rw [hnm] at hy; cases hy
    obtain ⟨k1, k2, _⟩ := ok.glob hg
    split at h
    · simp only [gd_eq, Bool.and_eq_true, decide_eq_true_eq, Option.some.injEq, Prod.mk.injEq, List.isEmpty_iff] at h
      obtain ⟨⟨⟨⟨⟨⟨⟨⟨⟨rfl, hnm2⟩, hlen⟩, hlv⟩, hnd⟩, hdis⟩, halv⟩, hio⟩, hil⟩, rfl, rfl, rfl⟩ := h
      obtain ⟨n1, n2, n3⟩ := nm_ok ok hnm2
      exact se_callIo hf n1 hlen hrl (fun i hi => by simpa using List.all_eq_true.mp hlv i hi) hnd (fun i hi => by simpa using List.all_eq_true.mp hdis i hi) halv hio hil n3 ok.tk ok.room k1 c n2 k2
    · rename_i hio0
      have hio : fn.io.isEmpty = true := by cases hh : fn.io.isEmpty with
        | true => rfl
        | false => exact absurd hh hio0
      split at h
      · simp only [Option.bind_eq_some_iff, gd_eq, Bool.and_eq_true, decide_eq_true_eq, Option.some.injEq, Prod.mk.injEq] at h
        obtain ⟨⟨ms, Γ1⟩, h1, ⟨⟨⟨hr, hl⟩, hkp⟩, hbo⟩, rfl, rfl, rfl⟩ := h
        obtain ⟨i1, i2, i3⟩ := ih.eLb h1 ok
        obtain ⟨b1, b2⟩ := boOk_ok hbo
        exact se_callB hf (List.isEmpty_iff.mp hio) hl hr (fun i hi => by simpa using List.all_eq_true.mp hkp i hi) b1 b2 (fun e xs e' h => le_len h) ok.tk ok.room k1 c i1 i2 k2
      · simp only [Option.bind_eq_some_iff, gd_eq, Bool.and_eq_true, decide_eq_true_eq, Option.some.injEq, Prod.mk.injEq] at h
        obtain ⟨⟨q1, ms, Γ1⟩, h1, ⟨⟨hm, hl⟩, hkp⟩, rfl, rfl, rfl⟩ := h
        obtain ⟨i1, i2, i3⟩ := ih.eL h1 ok
        exact se_call hf (List.isEmpty_iff.mp hio) hm hl hrl (fun i hi => by simpa using List.all_eq_true.mp hkp i hi) ok.tk ok.room k1 c i1 i2 k2
  case bi f as =>
    simp only [ckE] at h
    split at h
    · simp only [gd_eq] at h
      obtain ⟨hg, h⟩ := h
      split at h
      · rename_i t ht
        split at h
        · simp only [Option.bind_eq_some_iff, gd_eq, Bool.and_eq_true, Option.some.injEq, Prod.mk.injEq] at h
          obtain ⟨⟨⟨⟨hy, hn⟩, hty⟩, hg2⟩, ⟨q1, m1, Γ1⟩, h1, rfl, rfl, rfl⟩ := h
          cases eq_str hy
          cases eq_str hty
          obtain ⟨u, hu, hb, hmem⟩ := isi_nm ht
          obtain ⟨k1, k2, k3⟩ := ok.glob hg2
          show SE X L.T W kp _ (fun e => (evL L.T.P.gl (run L.T.P d) [_] e).bind fun xs e1 => R.lift (b1 f xs) e1) _ _ _ _
          rw [one_L]
          exact se_isi ok.K hu (ok.glob hg).1 (ok.bl _ (by simp [blt])) k1 (ok.bl _ hmem) hb k3 k2 (ih.eE h1 ok) hn
        · cases h
      · rename_i ht
        split at h
        · rename_i t hb
          simp only [Option.bind_eq_some_iff, gd_eq, Option.some.injEq, Prod.mk.injEq] at h
          obtain ⟨hy, ⟨q1, ms, Γ1⟩, h1, rfl, rfl, rfl⟩ := h
          cases eq_str hy
          obtain ⟨i1, i2, i3⟩ := ih.eL h1 ok
          exact bi_nm hb ht ok hg i1 i2
        · split at h
          · simp only [Option.bind_eq_some_iff, gd_eq, Bool.and_eq_true, Option.some.injEq, Prod.mk.injEq] at h
            obtain ⟨⟨hy, hn⟩, ⟨q1, m1, Γ1⟩, h1, hm, rfl, rfl, rfl⟩ := h
            cases eq_str hy
            show SE X L.T W kp _ (fun e => (evL L.T.P.gl (run L.T.P d) [_] e).bind fun xs e1 => R.lift (b1 .list xs) e1) _ _ _ _
            rw [one_L, b1_list]
            exact se_list ok.K (ok.glob hg).1 (ok.bl _ (by simp [blt])) (ih.eE h1 ok) hm hn
          · simp only [Option.bind_eq_some_iff, gd_eq, Bool.and_eq_true, Option.some.injEq, Prod.mk.injEq] at h
            obtain ⟨⟨hy, hn⟩, ⟨q1, m1, Γ1⟩, h1, hm, rfl, rfl, rfl⟩ := h
            cases eq_str hy
            show SE X L.T W kp _ (fun e => (evL L.T.P.gl (run L.T.P d) [_] e).bind fun xs e1 => R.lift (b1 .tuple xs) e1) _ _ _ _
            rw [one_L, b1_tuple]
            exact se_tuple ok.K (ok.glob hg).1 (ok.bl _ (by simp [blt])) (ih.eE h1 ok) hm hn
          · split at h
            · simp only [Option.bind_eq_some_iff, gd_eq, Bool.and_eq_true, Option.some.injEq, Prod.mk.injEq] at h
              obtain ⟨⟨⟨⟨hy, hy2⟩, hg2⟩, hn2⟩, ⟨q1, m1, Γ1⟩, h1, rfl, rfl, rfl⟩ := h
              cases eq_str hy
              cases eq_str hy2
              show SE X L.T W kp _ (fun e => (evL L.T.P.gl (run L.T.P d) [_] e).bind fun xs e1 => R.lift (b1 .set xs) e1) _ _ _ _
              rw [one_L]
              exact se_many ok.K ok.calm (ok.glob hg).1 (ok.bl _ (by simp [blt])) (ok.glob hg2).1 (ok.bl _ (by simp [blt])) (ih.eE h1 ok) hn2
            · cases h
          · cases h
    · cases h
  case ix a i =>
    simp only [ckE] at h
    split at h <;> simp only [Option.bind_eq_some_iff, gd_eq, reduceCtorEq, Bool.and_eq_true, decide_eq_true_eq, Option.some.injEq, Prod.mk.injEq] at h
    obtain ⟨hn, ⟨q1, m1, Γ1⟩, h1, ⟨q2, m2, Γ2⟩, h2, hm, rfl, rfl, rfl⟩ := h
    exact se_ix ok.K (ih.eE h1 ok) (ih.eE h2 ok) (or_own hm) (plainIx hn)
  case sl a lo hi =>
    simp only [ckE] at h
    split at h <;> simp only [Option.bind_eq_some_iff, gd_eq, reduceCtorEq, Option.some.injEq, Prod.mk.injEq] at h
    obtain ⟨⟨q1, m1, Γ1⟩, h1, ⟨q2, Γ2⟩, h2, ⟨q3, Γ3⟩, h3, hm, rfl, rfl, rfl⟩ := h
    exact se_sl ok.K (ih.eE h1 ok) hm (ih.eO h2 ok) (ih.eO h3 ok)
  case slT a lo hi =>
    simp only [ckE] at h
    split at h <;> simp only [Option.bind_eq_some_iff, gd_eq, reduceCtorEq, Option.some.injEq, Prod.mk.injEq] at h
    obtain ⟨⟨q1, m1, Γ1⟩, h1, ⟨q2, Γ2⟩, h2, ⟨q3, Γ3⟩, h3, hm, rfl, rfl, rfl⟩ := h
    exact se_slT ok.K (ih.eE h1 ok) hm (ih.eO h2 ok) (ih.eO h3 ok)
  case lst as =>
    simp only [ckE] at h
    split at h <;> simp only [Option.bind_eq_some_iff, gd_eq, reduceCtorEq, Bool.and_eq_true, decide_eq_true_eq, Option.some.injEq, Prod.mk.injEq] at h
    obtain ⟨⟨q1, ms, Γ1⟩, h1, ⟨hm, hl⟩, rfl, rfl, rfl⟩ := h
    exact se_lst (ih.eL h1 ok).1 (all_pos hm) (lst_len hl)
  case tup as =>
    simp only [ckE] at h
    split at h <;> simp only [Option.bind_eq_some_iff, gd_eq, reduceCtorEq, Bool.and_eq_true, decide_eq_true_eq, Option.some.injEq, Prod.mk.injEq] at h
    obtain ⟨⟨q1, ms, Γ1⟩, h1, ⟨hm, hl⟩, rfl, rfl, rfl⟩ := h
    exact se_tup (ih.eL h1 ok).1 (all_pos hm) (lst_len hl)
  case fl a =>
    simp only [ckE, Option.bind_eq_some_iff, Option.some.injEq, Prod.mk.injEq] at h
    obtain ⟨⟨q1, m1, Γ1⟩, h1, rfl, rfl, rfl⟩ := h
    have e : ev L.T.P.gl (run L.T.P d) (.fl a) = fun e => (ev L.T.P.gl (run L.T.P d) a e).bind fun x e1 => R.lift (if flat x = true then some x else none) e1 := by
      funext e; simp only [ev]; congr 1; funext x e1; split <;> rfl
    rw [e]
    exact se_fl (ih.eE h1 ok)
  case lc e t it cs =>
    simp only [ckE] at h
    split at h <;> simp only [Option.bind_eq_some_iff, gd_eq, reduceCtorEq, Bool.and_eq_true, decide_eq_true_eq, Option.some.injEq, Prod.mk.injEq] at h
    obtain ⟨⟨⟨⟨hset, hblk⟩, hown⟩, htg⟩, ⟨q1, Γ1⟩, h1, ⟨q2, Γ2⟩, h2, ⟨q3, m3, Γ3⟩, h3, ⟨q4, Γ4⟩, h4, ⟨q5, m5, Γ5⟩, h5, ⟨⟨⟨⟨⟨⟨k1, k2⟩, k3⟩, k4⟩, k5⟩, k6⟩, k7⟩, rfl, rfl, rfl⟩ := h
    have bo := blkOk_of (N := X.N) (sc := X.env.scope) ok.names (by rw [ok.N]; exact hblk)
    have lo : LcOk t ((tgNames t _).map (·.2)) Γ1 _ Γ4 Γ5 m5 := ⟨fun i hi => by simpa using List.all_eq_true.mp k1 i hi, fun i hi => by rw [hown]; exact hi, leN_ok k2, fun i hi => by rw [hown] at hi; simpa using List.all_eq_true.mp k5 i hi, leN_ok k3, leN_ok k4, k6, k7⟩
    exact se_lc ok.calm ok.nd bo lo (ih.eI h1 ok) (fun s H C cl fp => (ok.blk bo.kind s H C cl fp).tg htg) (fun s H C cl fp => ih.eTs h4 (ok.blk bo.kind s H C cl fp)) (fun s H C cl fp => ih.eE h5 (ok.blk bo.kind s H C cl fp)) hset
  case pop i =>
    simp only [ckE] at h
    split at h <;> simp only [gd_eq, reduceCtorEq, Bool.and_eq_true, decide_eq_true_eq, Option.some.injEq, Prod.mk.injEq] at h
    obtain ⟨⟨⟨⟨hv, hn⟩, hl⟩, h4⟩, rfl, rfl, rfl⟩ := h
    cases eq_str hn
    exact se_pop ok.K (ok.var hv) hl h4 rfl
  case lc2 e t it cs t2 it2 cs2 =>
    simp only [ckE] at h
    split at h <;> simp only [Option.bind_eq_some_iff, gd_eq, reduceCtorEq, Bool.and_eq_true, decide_eq_true_eq, Option.some.injEq, Prod.mk.injEq] at h
    obtain ⟨⟨⟨⟨⟨⟨hset, hset2⟩, hblk⟩, hown⟩, htg⟩, htg2⟩, ⟨q1, Γ1⟩, h1, ⟨q2, Γ2⟩, _, ⟨q3, Γ3⟩, _, ⟨q4, Γ4⟩, _, ⟨q5, m5, Γ5⟩, _, Γm, rfl, ⟨p2, Δ2⟩, k2, ⟨p3, Δ3⟩, k3, Γm1, rfl, ⟨p4, Δ4⟩, k4, ⟨p5, m, Δ5⟩, k5, ⟨⟨⟨⟨⟨⟨⟨⟨⟨⟨⟨a1, a2⟩, a3⟩, a4⟩, a5⟩, a6⟩, a7⟩, a8⟩, a9⟩, a10⟩, a11⟩, a12⟩, rfl, rfl, rfl⟩ := h
    have bo := blkOk_of (N := X.N) (sc := X.env.scope) ok.names (by rw [ok.N]; exact hblk)
    have lo : LcOk t ((tgNames t _ ++ tgNames t2 _).map (·.2)) Γ1 _ Δ2 _ m := ⟨fun i hi => by simpa using List.all_eq_true.mp a1 i hi, fun i hi => by rw [hown]; exact List.mem_append_left _ hi, leN_ok a2, fun i hi => by rw [hown] at hi; simpa using List.all_eq_true.mp a3 i hi, leN_ok a4, leN_ok a5, a6, a7⟩
    have lo1 : LcOk t2 t2.is Δ3 _ Δ4 Δ5 m := ⟨fun i hi => by simpa using List.all_eq_true.mp a8 i hi, fun _ z => z, leN_ok a9, fun i hi => by simpa using List.all_eq_true.mp a10 i hi, leN_ok a11, leN_ok a12, a6, a7⟩
    exact se_lc2 ok.calm ok.nd bo lo lo1 (fun i hi => by rw [hown]; exact List.mem_append_right _ hi) (ih.eI h1 ok) (fun s H C cl fp => (ok.blk bo.kind s H C cl fp).tg htg) (fun s H C cl fp => ih.eTs k2 (ok.blk bo.kind s H C cl fp)) (fun s H C cl fp => ih.eI k3 (ok.blk bo.kind s H C cl fp)) (fun s H C cl fp => (ok.blk bo.kind s H C cl fp).tg htg2) (fun s H C cl fp => ih.eTs k4 (ok.blk bo.kind s H C cl fp)) (fun s H C cl fp => ih.eE k5 (ok.blk bo.kind s H C cl fp)) hset hset2
end
end Z

/-! Z22: the checker of statements. -/
namespace Z
open PySem PySem.Spec L2 PyProof.Rows
def leOb (o' o : Option Gm) : Bool := match o with
  | none => true
  | some Γ => match o' with
    | none => false
    | some Γ' => leN Γ' Γ
theorem leOb_ok {o' o : Option Gm} (h : leOb o' o = true) : leO o' o := by
  intro Γ e
  subst e
  cases o' with
  | none => simp [leOb] at h
  | some Γ' => exact ⟨Γ', rfl, leN_ok h⟩
def outLe (O' O : Out) : Bool := leOb O'.nx O.nx && leOb O'.bk O.bk && leOb O'.ct O.ct
theorem outLe_ok {O' O : Out} (h : outLe O' O = true) : O'.le O := by
  simp only [outLe, Bool.and_eq_true] at h
  exact ⟨leOb_ok h.1.1, leOb_ok h.1.2, leOb_ok h.2⟩
def meetO : Option Gm → Option Gm → Option Gm
  | none, b => b
  | some a, none => some a
  | some a, some b => some (meetG a b)
/-- what a loop keeps: the levels come down until the body keeps them -/
def fixG : Nat → (Gm → Option (Gm × Out)) → Gm → Option (Gm × Gm × Out)
  | 0, _, _ => none
  | k + 1, f, Γ => (f Γ).bind fun r => if leOb (some Γ) r.2.nx && leOb (some Γ) r.2.ct then some (Γ, r) else match meetO (some Γ) (meetO r.2.nx r.2.ct) with
    | some Γ' => fixG k f Γ'
    | none => none
theorem fixG_ok : ∀ {k : Nat} {f : Gm → Option (Gm × Out)} {Γ Γ' : Gm} {r : Gm × Out}, fixG k f Γ = some (Γ', r) → f Γ' = some r ∧ leO (some Γ') r.2.nx ∧ leO (some Γ') r.2.ct
  | 0, _, _, _, _, h => by simp [fixG] at h
  | k + 1, f, Γ, Γ', r, h => by
    simp only [fixG, Option.bind_eq_some_iff] at h
    obtain ⟨r0, h0, h⟩ := h
    split at h
    · rename_i hc
      simp only [Bool.and_eq_true] at hc
      simp only [Option.some.injEq, Prod.mk.injEq] at h
      obtain ⟨rfl, rfl⟩ := h
      exact ⟨h0, leOb_ok hc.1, leOb_ok hc.2⟩
    · split at h
      · exact fixG_ok h
      · cases h
def isLcC : C → Bool
  | .lc .. => true
  | _ => false
def isTL : Expr → Bool
  | .Tuple .. => true
  | .List .. => true
  | _ => false
def swNone (tg v : Expr) : Bool := nlc v && (!(isTupE v) || !(isTL tg))
theorem swNone_ok {tg v : Expr} (h : swNone tg v = true) (l : Nat) (env : PySem.Env) : swapsWithSole [tg] v l env = pure false ∧ swappedStores [tg] v env = pure none := by
  simp only [swNone, Bool.and_eq_true, Bool.or_eq_true, Bool.not_eq_true'] at h
  refine ⟨swaps_ok h.1, ?_⟩
  unfold swappedStores
  rcases h.2 with h2 | h2
  · cases v <;> first
      | (simp [isTupE] at h2; done)
      | (cases tg <;> rfl)
  · cases tg <;> first
      | (simp [isTL] at h2; done)
      | rfl
/-- a comprehension kept under a name that a block within reads -/
def swCell (names : List (Str × NameKind)) (tg v : Expr) : Bool := match tg, v with
  | .Name y _, .ListComp .. => (match names.lookup y with | some .cell => true | _ => false)
  | _, _ => false
theorem swCell_ok {names : List (Str × NameKind)} {tg v : Expr} (h : swCell names tg v = true) (l : Nat) (env : PySem.Env) (hn : env.scope.names = names) : swapsWithSole [tg] v l env = pure false ∧ swappedStores [tg] v env = pure none := by
  unfold swCell at h
  split at h
  · rename_i y p e g s q
    split at h
    · rename_i hc
      have hk : env.kindOf y = some .cell := by show env.scope.names.lookup y = _; rw [hn]; exact hc
      refine ⟨?_, rfl⟩
      show (pure _ : Sem Bool) = _
      rw [hk]
      congr 1
      simp
    · cases h
  · cases h
theorem ns_asg {tg : Expr} (h : ns tg = true) (env : PySem.Env) : (assignEach [tg] env).map (·.2) = [assign tg env] := by
  cases tg <;> first
    | rfl
    | (simp [ns] at h)
/-- a place: its local, the number of its subscripts -/
def plc : C → Option (Nat × Nat)
  | .pk x => some (x, 0)
  | .ix p _ => (plc p).map fun r => (r.1, r.2 + 1)
  | _ => none
theorem plc_ok {G : List D} {k : Oracle} : ∀ {p : C} {x n : Nat}, plc p = some (x, n) → ∀ e ps e', evP G k p e = .ok ps e' → ps.1 = x ∧ ps.2.length = n ∧ e'.s = e.s
  | .pk y, x, n, h, e, ps, e', h' => by
    simp only [plc, Option.some.injEq, Prod.mk.injEq] at h
    simp only [evP] at h'
    injection h' with h1 h2
    subst h1 h2
    exact ⟨h.1, by simpa using h.2, rfl⟩
  | .ix p i, x, n, h, e, ps, e', h' => by
    simp only [plc, Option.map_eq_some_iff, Prod.mk.injEq] at h
    obtain ⟨⟨x0, n0⟩, h0, rfl, rfl⟩ := h
    simp only [evP] at h'
    cases e1 : evP G k p e with
    | bad => rw [e1] at h'; cases h'
    | exc y e2 => rw [e1] at h'; cases h'
    | ok ps1 e2 =>
      rw [e1] at h'
      simp only [R.bind_ok] at h'
      obtain ⟨k1, k2, k3⟩ := plc_ok h0 e ps1 e2 e1
      cases e3 : ev G k i e2 with
      | bad => rw [e3] at h'; cases h'
      | exc y e4 => rw [e3] at h'; cases h'
      | ok j e4 =>
        rw [e3] at h'
        simp only [R.nox_ok, R.bind_ok] at h'
        injection h' with h1 h2
        subst h1 h2
        exact ⟨k1, by simp [k2], k3⟩
  | .non, _, _, h, _, _, _, _ => by simp [plc] at h
  | .bl _, _, _, h, _, _, _, _ => by simp [plc] at h
  | .int _, _, _, h, _, _, _, _ => by simp [plc] at h
  | .str _, _, _, h, _, _, _, _ => by simp [plc] at h
  | .v _, _, _, h, _, _, _, _ => by simp [plc] at h
  | .mv _, _, _, h, _, _, _, _ => by simp [plc] at h
  | .io _, _, _, h, _, _, _, _ => by simp [plc] at h
  | .bo _, _, _, h, _, _, _, _ => by simp [plc] at h
  | .gl _, _, _, h, _, _, _, _ => by simp [plc] at h
  | .op .., _, _, h, _, _, _, _ => by simp [plc] at h
  | .cat .., _, _, h, _, _, _, _ => by simp [plc] at h
  | .rep .., _, _, h, _, _, _, _ => by simp [plc] at h
  | .catT .., _, _, h, _, _, _, _ => by simp [plc] at h
  | .neg .., _, _, h, _, _, _, _ => by simp [plc] at h
  | .nt .., _, _, h, _, _, _, _ => by simp [plc] at h
  | .and .., _, _, h, _, _, _, _ => by simp [plc] at h
  | .or .., _, _, h, _, _, _, _ => by simp [plc] at h
  | .cmp .., _, _, h, _, _, _, _ => by simp [plc] at h
  | .cmp2 .., _, _, h, _, _, _, _ => by simp [plc] at h
  | .ife .., _, _, h, _, _, _, _ => by simp [plc] at h
  | .call .., _, _, h, _, _, _, _ => by simp [plc] at h
  | .bi .., _, _, h, _, _, _, _ => by simp [plc] at h
  | .mt .., _, _, h, _, _, _, _ => by simp [plc] at h
  | .ixv .., _, _, h, _, _, _, _ => by simp [plc] at h
  | .sl .., _, _, h, _, _, _, _ => by simp [plc] at h
  | .slT .., _, _, h, _, _, _, _ => by simp [plc] at h
  | .rev .., _, _, h, _, _, _, _ => by simp [plc] at h
  | .lst .., _, _, h, _, _, _, _ => by simp [plc] at h
  | .tup .., _, _, h, _, _, _, _ => by simp [plc] at h
  | .rg .., _, _, h, _, _, _, _ => by simp [plc] at h
  | .rg2 .., _, _, h, _, _, _, _ => by simp [plc] at h
  | .en .., _, _, h, _, _, _, _ => by simp [plc] at h
  | .zp .., _, _, h, _, _, _, _ => by simp [plc] at h
  | .lc .., _, _, h, _, _, _, _ => by simp [plc] at h
  | .lc2 .., _, _, h, _, _, _, _ => by simp [plc] at h
  | .fst .., _, _, h, _, _, _, _ => by simp [plc] at h
  | .fl .., _, _, h, _, _, _, _ => by simp [plc] at h
  | .pop .., _, _, h, _, _, _, _ => by simp [plc] at h
  | .fx .., _, _, h, _, _, _, _ => by simp [plc] at h
/-- the level that a changed local keeps -/
def chM (lx n m : Nat) : Nat := if 100 ≤ m then lx else min lx (n + 1 + m)
def chgB (lx n m : Nat) : Bool := decide (n + 2 ≤ chM lx n m) && decide (chM lx n m ≤ lx) && decide (n ≤ 50) && decide (1 ≤ dn (dnk n (chM lx n m))) && decide (dn (dnk n (chM lx n m)) ≤ m)
theorem chgB_ok {lx n m : Nat} (h : chgB lx n m = true) : Chg lx n m (chM lx n m) := by
  simp only [chgB, Bool.and_eq_true, decide_eq_true_eq] at h
  exact ⟨h.1.1.1.1, h.1.1.1.2, h.1.1.2, h.1.2, h.2⟩
/-! ### except clauses -/
def cAt (i : Nat) : C → Option At
  | .non => some .non
  | .bl b => some (.bl b)
  | .int j => some (.int j)
  | .str s => some (.str s)
  | .fx j k => if j = i ∧ k = 0 then some .fx else none
  | _ => none
def cAts (i : Nat) : List C → Option (List At)
  | [] => some []
  | c :: cs => (cAt i c).bind fun a => (cAts i cs).map fun r => a :: r
theorem cAt_ok {i : Nat} {c : C} {t : At} (h : cAt i c = some t) : c = At.c i t := by
  cases c <;> simp only [cAt, reduceCtorEq, Option.some.injEq] at h <;> try (subst h; rfl)
  split at h
  · rename_i hh
    obtain ⟨rfl, rfl⟩ := hh
    cases h; rfl
  · cases h
theorem cAts_ok {i : Nat} : ∀ {cs : List C} {ts : List At}, cAts i cs = some ts → cs = ts.map (At.c i)
  | [], ts, h => by simp only [cAts, Option.some.injEq] at h; subst h; rfl
  | c :: cs, ts, h => by
    simp only [cAts, Option.bind_eq_some_iff, Option.map_eq_some_iff] at h
    obtain ⟨t, h1, r, h2, rfl⟩ := h
    rw [cAt_ok h1, cAts_ok h2]; rfl
def tbK (L : Lw) (κ : Kx) (c : Nat) (cn : Str) : Option Bool := if κ.gl cn = true then (L.tb c).lookup cn else none
def hdB (L : Lw) (κ : Kx) : S → List ExceptHandler → Bool
  | .hc c i b nx, .ExceptHandler (some (.Name x _)) (some n) (b₀ :: bs) _ :: r => κ.gl x && decide (L.exN[c]? = some x) && decide (κ.N[i]? = some n) && (match κ.names.lookup n with | some .local => true | _ => false) && Kx.ok n && κ.gl "isinstance" &&
    (match L.T.cf c, b with
      | [f], [.ret (.tup cs)] => (match cAts i cs with
        | some ts => decide (suiteB (tbK L κ c) f n (b₀ :: bs) = some ts)
        | none => false)
      | _, _ => false) && hdB L κ nx r
  | .pass, [] => true
  | _, _ => false
theorem hdB_ok {L : Lw} {d : Nat} {κ : Kx} {X : Cx} {W : WX} (ok : XOk L d κ X W) : ∀ {h : S} {hd : List ExceptHandler}, hdB L κ h hd = true → HdO L.T X h hd := by
  intro h
  induction h using S.rec (motive_2 := fun _ => True) with
  | pass =>
    intro hd h
    cases hd with
    | nil => exact .nil
    | cons _ _ => simp [hdB] at h
  | hc c i b nx _ ih =>
    intro hd h
    unfold hdB at h
    split at h
    · rename_i c' i' b' nx' x p1 n b₀ bs p2 r heq
      injection heq with e1 e2 e3 e4
      subst e1 e2 e3 e4
      simp only [Bool.and_eq_true, decide_eq_true_eq] at h
      obtain ⟨⟨⟨⟨⟨⟨⟨hx, hex⟩, hsl⟩, hlo⟩, hn⟩, his⟩, hsu⟩, hr⟩ := h
      obtain ⟨m, fI, fd, f, se, p, k1, k2, k3, k4, k5, k6, k7, k8, k9⟩ := (ok.exc c x hex).k
      rw [k8] at hsu
      split at hsu
      · rename_i f' cs heq1
        cases heq1
        split at hsu
        · rename_i ts hts
          have hsb : suiteB (tbK L κ c) f n (b₀ :: bs) = some ts := by simpa using hsu
          rw [cAts_ok hts]
          obtain ⟨g1, g2, g3⟩ := ok.glob hx
          obtain ⟨g4, _, _⟩ := ok.glob his
          obtain ⟨db1, db2, _⟩ := Kx.ok_db hn
          have hlo' : κ.names.lookup n = some .local := by
            split at hlo
            · assumption
            · cases hlo
          have hln : X.env.kindOf n = some .local := by show X.env.scope.names.lookup n = _; rw [ok.names]; exact hlo'
          have hsl' : X.N[i]? = some n := by rw [ok.N]; exact hsl
          refine .cons ⟨g1, g2, .inl k7⟩ hsl' hln ⟨(ok.exc c x hex).e, (ok.exc c x hex).xf, k9, hsl', .inl hln, ⟨db1, db2⟩, g4, ok.bl _ (by simp [blt])⟩ (fun cn bb ht => ?_) hsb k8 (fun c' h' => ok.K ▸ (ok.exc c x hex).em c' h') (ok.exc c x hex).leaf (ih hr)
          unfold tbK at ht
          split at ht
          · rename_i hg
            obtain ⟨g5, g6, g7⟩ := ok.glob hg
            obtain ⟨v, cv, ⟨u, ru, hu⟩, q1, q2⟩ := (ok.exc c x hex).tb cn bb ht
            refine ⟨v, cv, fun X' eK em ee p => ?_, q1, q2⟩
            have hg' : Gl X' cn := by show X'.env.kindOf cn = _; rw [ee]; exact g5
            rcases hu with hu | ⟨hu1, hu2, hu3⟩
            · exact pe_glob hg' (by rw [em]; exact hu) ru g6
            · exact pe_bltn hg' (by rw [em]; exact hu1) hu2 ru hu3 g6
          · cases ht
        · cases hsu
      · cases hsu
    · rename_i heq; cases heq
    · cases h
  | _ => first
    | trivial
    | (intro hd h; simp [hdB] at h)
section
variable (L : Lw) (E : Nat)
/-- places -/
def ckP (κ : Kx) (kp : List Nat) : C → Expr → Gm → Bool
  | .pk x, .Name y _, Γ => κ.vis x y
  | .ix p i, .Subscript xp xi _, Γ => ckP κ kp p xp Γ && nsl xi && (match ckE L E κ kp i xi Γ with
    | some r => r.1 && decide (r.2.2 = Γ)
    | none => false)
  | _, _, _ => false
mutual
def ckS : Nat → Kx → List Nat → RT → S → Stmt → Gm → Option Out
  | 0, _, _, _, _, _, _ => none
  | n + 1, κ, kp, ρ, s, x, Γ => match s with
    | .pass => (match x with
      | .Pass _ => some ⟨some Γ, none, none⟩
      | .Expr (.Constant (.str _) _ _) _ => some ⟨some Γ, none, none⟩
      | _ => none)
    | .brk => (match x with | .Break _ => some ⟨none, some Γ, none⟩ | _ => none)
    | .ct => (match x with | .Continue _ => some ⟨none, none, some Γ⟩ | _ => none)
    | .asg t e => (match x with
      | .Assign [tg] v _ => (ckE L E κ kp e v Γ).bind fun r => gd (decide (1 ≤ r.2.1) && ckTg κ t tg && ns tg && t.is.all (fun i => decide (i < r.2.2.length)) && t.is.all (fun i => !ρ.ro.contains i) && (swNone tg v || swCell κ.names tg v || (match t, tg, v with
        | .n i, .Name y py, .ListComp _ [⟨_, _, _, 0⟩] scope pos => isLcC e && (match κ.names.lookup y with | some .local => true | _ => false) && (py.line == pos.line) && !(scope.names.any fun (n, k) => n == y && (k == .local || k == .cell))
        | _, _, _ => false))) (some ⟨some (tgtG t r.2.1 r.2.2), none, none⟩)
      | _ => none)
    | .aug i o e => (match x with
      | .AugAssign (.Name y _) o' v _ => gd (κ.loc i y && decide (o' = opOf o) && decide (o = .add ∨ o = .sub)) ((ckE L E κ kp e v Γ).bind fun r => gd (r.1 && decide (1 ≤ lvOf Γ i) && decide (1 ≤ lvOf r.2.2 i) && !ρ.ro.contains i) (some ⟨some (r.2.2.set i 100), none, none⟩))
      | _ => none)
    | .app p e => (match x with
      | .Expr (.Call (.Attribute xp a apos) [xe] [] cpos) _ => gd (a == ("append" : Str) && ckP L E κ kp p xp Γ && ns xe && nsup xp && (apos.endLine == cpos.line)) ((plc p).bind fun q => (ckE L E κ kp e xe Γ).bind fun r =>
        gd (r.1 && decide (q.2 + 2 ≤ lvOf Γ q.1) && chgB (lvOf r.2.2 q.1) q.2 r.2.1) (some ⟨some (r.2.2.set q.1 (chM (lvOf r.2.2 q.1) q.2 r.2.1)), none, none⟩))
      | _ => none)
    | .ext p e => (match x with
      | .Expr (.Call (.Attribute xp a apos) [xe] [] cpos) _ => gd (a == ("extend" : Str) && ckP L E κ kp p xp Γ && ns xe && nsup xp && (apos.endLine == cpos.line)) ((plc p).bind fun q => (ckE L E κ kp e xe Γ).bind fun r =>
        gd (r.1 && decide (1 ≤ r.2.1) && decide (q.2 + 2 ≤ lvOf Γ q.1) && chgB (lvOf r.2.2 q.1) q.2 (dn r.2.1)) (some ⟨some (r.2.2.set q.1 (chM (lvOf r.2.2 q.1) q.2 (dn r.2.1))), none, none⟩))
      | _ => none)
    | .six p i e => (match x with
      | .Assign [.Subscript xp xi _] v _ => gd (nsl xi && nlc v) ((plc p).bind fun q => (ckE L E κ kp e v Γ).bind fun r => (ckE L E κ kp i xi r.2.2).bind fun s =>
        gd (ckP L E κ kp p xp r.2.2 && s.1 && decide (s.2.2 = r.2.2) && own r.2.1 && decide (q.2 + 2 ≤ lvOf r.2.2 q.1) && chgB (lvOf r.2.2 q.1) q.2 r.2.1) (some ⟨some (r.2.2.set q.1 (chM (lvOf r.2.2 q.1) q.2 r.2.1)), none, none⟩))
      | _ => none)
    | .aix p i o e => (match x with
      | .AugAssign (.Subscript xp xi _) o' v _ => gd (nsl xi && decide (o' = opOf o) && decide (o = .add ∨ o = .sub)) ((plc p).bind fun q => (ckE L E κ kp i xi Γ).bind fun s => (ckE L E κ kp e v Γ).bind fun r =>
        gd (ckP L E κ kp p xp Γ && s.1 && decide (s.2.2 = Γ) && own s.2.1 && r.1 && decide (r.2.2 = Γ) && decide (q.2 + 2 ≤ lvOf Γ q.1) && chgB (lvOf Γ q.1) q.2 100) (some ⟨some (Γ.set q.1 (chM (lvOf Γ q.1) q.2 100)), none, none⟩))
      | _ => none)
    | .ex e => (match x with
      | .Expr v _ => gd (nlc v) ((ckE L E κ kp e v Γ).bind fun r => some ⟨some r.2.2, none, none⟩)
      | _ => none)
    | .ite c a b => (match x with
      | .If xc xa xb _ => (ckT L E κ kp c xc Γ).bind fun r => (ckB n κ kp ρ a xa r.2).bind fun O1 => (ckB n κ kp ρ b xb r.2).bind fun O2 =>
        gd (outLe ⟨meetO O1.nx O2.nx, meetO O1.bk O2.bk, meetO O1.ct O2.ct⟩ O1 && outLe ⟨meetO O1.nx O2.nx, meetO O1.bk O2.bk, meetO O1.ct O2.ct⟩ O2) (some ⟨meetO O1.nx O2.nx, meetO O1.bk O2.bk, meetO O1.ct O2.ct⟩)
      | _ => none)
    | .fr t it b => (match x with
      | .For tg xi xb [] _ => gd (nset xi && ckTg κ t tg && t.is.all (fun i => !ρ.ro.contains i)) ((ckI L E κ kp it xi tg Γ).bind fun r => (fixG 5 (fun Γi => (ckB n κ kp ρ b xb (tgtG t 1 Γi)).map fun O => (Γi, O)) r.2).bind fun f =>
        gd (leN f.1 r.2 && t.is.all (fun i => decide (i < f.1.length)) && leOb (meetO (some f.1) f.2.2.bk) f.2.2.bk && leOb (meetO (some f.1) f.2.2.bk) (some f.1)) (some ⟨meetO (some f.1) f.2.2.bk, none, none⟩))
      | _ => none)
    | .wl c b => (match x with
      | .While xc xb [] _ => (fixG 5 (fun Γi => (ckT L E κ kp c xc Γi).bind fun r => (ckB n κ kp ρ b xb r.2).map fun O => (r.2, O)) Γ).bind fun f =>
        gd (leN f.1 Γ && leOb (meetO (some f.1) (meetO (some f.2.1) f.2.2.bk)) f.2.2.bk && leOb (meetO (some f.1) (meetO (some f.2.1) f.2.2.bk)) (some f.1) && leOb (meetO (some f.1) (meetO (some f.2.1) f.2.2.bk)) (some f.2.1)) (some ⟨meetO (some f.1) (meetO (some f.2.1) f.2.2.bk), none, none⟩)
      | _ => none)
    | .ret e => (match x with
      | .Return (some v) _ => (ckE L E κ kp e v Γ).bind fun r => gd (leN ρ.Γr r.2.2 && decide (1 ≤ ρ.rl) && decide (ρ.rl ≤ r.2.1)) (some ⟨none, none, none⟩)
      | _ => none)
    | .retN => (match x with
      | .Return none _ => gd (leN ρ.Γr Γ) (some ⟨none, none, none⟩)
      | _ => none)
    | .rs c m as => (match x with
      | .Raise (some (.Call (.Name y _) (e :: es) [] _)) none _ => gd (decide (L.exN[c]? = some y) && decide (L.exM[c]? = some m) && κ.gl y) ((ckL L E κ kp as (e :: es) Γ).bind fun r => gd (r.2.1.all own && kp.all (fun i => decide (1 ≤ lvOf r.2.2 i))) (some ⟨none, none, none⟩))
      | _ => none)
    | .tr b h => (match x with
      | .Try xb (h₀ :: hs) [] [] _ => gd (ρ.Γr.all (fun l => decide (l = 0)) && decide (ρ.Γr.length = Γ.length) && decide (κ.N.length = Γ.length) && decide (1 ≤ ρ.rl) && hdB L κ h (h₀ :: hs)) (ckB n κ kp ρ b xb Γ)
      | _ => none)
    | _ => none
def ckB : Nat → Kx → List Nat → RT → List S → List Stmt → Gm → Option Out
  | 0, _, _, _, _, _, _ => none
  | n + 1, κ, kp, ρ, ss, xs, Γ => match ss, xs with
    | [], [] => some ⟨some Γ, none, none⟩
    | s :: ss, x :: xs => (ckS n κ kp ρ s x Γ).bind fun O1 => (match O1.nx with
      | none => some O1
      | some Γ1 => (ckB n κ kp ρ ss xs Γ1).bind fun O2 => gd (outLe ⟨O2.nx, meetO O1.bk O2.bk, meetO O1.ct O2.ct⟩ ⟨none, O1.bk, O1.ct⟩ && outLe ⟨O2.nx, meetO O1.bk O2.bk, meetO O1.ct O2.ct⟩ O2) (some ⟨O2.nx, meetO O1.bk O2.bk, meetO O1.ct O2.ct⟩))
    | _, _ => none
end
end
end Z

/-! Z23: what the checker of statements takes is right. -/
namespace Z
open PySem PySem.Spec L2 PyProof.Rows
section
variable {L : Lw} {d : Nat}
theorem ck_all : ∀ n, CkOk L d n
  | 0 => ⟨fun h => by simp [ckE] at h, fun h => by simp [ckL] at h, fun h => by simp [ckLb] at h, fun h => by simp [ckO] at h, fun h => by simp [ckV] at h, fun h => by simp [ckW] at h, fun h => by simp [ckT] at h, fun h => by simp [ckTs] at h, fun h => by simp [ckI] at h⟩
  | n + 1 => have ih := ck_all n; ⟨ck_E ih, ck_L ih, ck_Lb ih, ck_O ih, ck_V ih, ck_W ih, ck_T ih, ck_Ts ih, ck_I ih⟩
theorem ckP_ok {E : Nat} {κ : Kx} {kp : List Nat} {X : Cx} {W : WX} (ok : XOk L d κ X W) : ∀ {p : C} {x : Expr} {Γ : Gm}, ckP L E κ kp p x Γ = true → SP X L.T W kp (evP L.T.P.gl (run L.T.P d) p) x Γ := by
  intro p
  induction p using C.rec (motive_2 := fun _ => True) (motive_3 := fun _ => True) with
  | pk x0 =>
    intro x Γ h
    cases x <;> simp only [ckP, Bool.false_eq_true] at h
    exact sp_var (ok.var h)
  | ix p i ihp ihi =>
    intro x Γ h
    cases x <;> simp only [ckP, Bool.false_eq_true, Bool.and_eq_true] at h
    obtain ⟨⟨h1, h2⟩, h3⟩ := h
    split at h3
    · rename_i r hr
      simp only [Bool.and_eq_true, decide_eq_true_eq] at h3
      obtain ⟨q, m, Γ2⟩ := r
      obtain ⟨rfl, rfl⟩ := h3
      exact sp_ix ok.K (ihp h1) ((ck_all E).eE hr ok) (plainIx h2)
    · cases h3
  | _ => first
    | trivial
    | (intro x Γ h; simp [ckP] at h)
/-- the contexts of statements -/
structure SOk (L : Lw) (d : Nat) (κ : Kx) (X : Cx) (W : WX) : Prop where
  x : XOk L d κ X W
  hp : PassesOwn (model X.prog X.w) X.A X.env X.xe
  st : X.stack = X.env :: X.outer
  fr : X.env.frame = some X.env.locals
/-- in a try's body -/
theorem SOk.tr {L : Lw} {d : Nat} {κ : Kx} {X : Cx} {W W' : WX} (ok : SOk L d κ X W) {pn : List (Addr × Obj)} {xe : Value → Shared → Prop} (tk : Takes (X.tr pn xe) W') (hp : PassesOwn (model X.prog X.w) X.A X.env xe) : SOk L d κ (X.tr pn xe) W' where
  x := ⟨ok.x.K, ok.x.N, ok.x.nd, ok.x.kind, ok.x.names, ok.x.calm, ok.x.fn, ok.x.room, tk, ok.x.bl, fun f fn h => by
    obtain ⟨x, h1, ⟨c⟩⟩ := ok.x.cal f fn h
    exact ⟨x, h1, ⟨c⟩⟩, fun g v h => by
    obtain ⟨x, h1, ⟨c⟩⟩ := ok.x.gl g v h
    exact ⟨x, h1, ⟨c⟩⟩, ok.x.exc⟩
  hp := hp
  st := ok.st
  fr := ok.fr
structure CkSOk (L : Lw) (E d n : Nat) : Prop where
  eS : ∀ {κ kp ρ s x Γ O}, ckS L E n κ kp ρ s x Γ = some O → ∀ {X W}, SOk L d κ X W → SS X L.T W kp ρ (ex L.T.P.gl (run L.T.P d) L.T.P.sub s) x Γ O
  eB : ∀ {κ kp ρ ss xs Γ O}, ckB L E n κ kp ρ ss xs Γ = some O → ∀ {X W}, SOk L d κ X W → SSs X L.T W kp ρ (exs L.T.P.gl (run L.T.P d) L.T.P.sub ss) xs Γ O
theorem not_ro {is ro : List Nat} (h : is.all (fun i => !ro.contains i) = true) : ∀ i ∈ is, i ∉ ro := fun i hi => by simpa using List.all_eq_true.mp h i hi
theorem all_lt {is : List Nat} {n : Nat} (h : is.all (fun i => decide (i < n)) = true) : ∀ i ∈ is, i < n := fun i hi => by simpa using List.all_eq_true.mp h i hi
theorem ck_B {E n : Nat} (ih : CkSOk L E d n) : ∀ {κ kp ρ ss xs Γ O}, ckB L E (n + 1) κ kp ρ ss xs Γ = some O → ∀ {X W}, SOk L d κ X W → SSs X L.T W kp ρ (exs L.T.P.gl (run L.T.P d) L.T.P.sub ss) xs Γ O := by
  intro κ kp ρ ss xs Γ O h X W ok
  simp only [ckB] at h
  split at h
  · cases h; exact sss_nil
  · simp only [Option.bind_eq_some_iff] at h
    obtain ⟨O1, h1, h⟩ := h
    split at h
    · rename_i hn
      cases h
      exact sss_end (ih.eS h1 ok) hn ⟨leO.refl _, leO.refl _, leO.refl _⟩
    · rename_i Γ1 hn
      simp only [Option.bind_eq_some_iff, gd_eq, Bool.and_eq_true, Option.some.injEq] at h
      obtain ⟨O2, h2, ⟨l1, l2⟩, rfl⟩ := h
      exact sss_cons (ih.eS h1 ok) (ih.eB h2 ok) hn (outLe_ok l1) (outLe_ok l2)
  · cases h
theorem ck_S {E n : Nat} (ih : CkSOk L E d n) : ∀ {κ kp ρ s x Γ O}, ckS L E (n + 1) κ kp ρ s x Γ = some O → ∀ {X W}, SOk L d κ X W → SS X L.T W kp ρ (ex L.T.P.gl (run L.T.P d) L.T.P.sub s) x Γ O := by
  intro κ kp ρ s x Γ O h X W ok
  have eE := fun {κ kp c x Γ q m Γ'} (h : ckE L E κ kp c x Γ = some (q, m, Γ')) {X W} (ok : XOk L d κ X W) => (ck_all (d := d) E).eE h ok
  cases s <;> try (simp only [ckS, reduceCtorEq] at h; done)
  case pass =>
    simp only [ckS] at h
    split at h <;> cases h
    · exact ss_pass
    · exact ss_doc
  case rs c m as =>
    simp only [ckS] at h
    split at h <;> simp only [Option.bind_eq_some_iff, gd_eq, reduceCtorEq, Bool.and_eq_true, decide_eq_true_eq, Option.some.injEq] at h
    obtain ⟨⟨⟨hx, hm⟩, hg⟩, ⟨q, ms, Γ1⟩, h1, ⟨hown, hkp⟩, rfl⟩ := h
    obtain ⟨i1, i2, _⟩ := (ck_all (d := d) E).eL h1 ok.x
    obtain ⟨g1, g2, _⟩ := ok.x.glob hg
    obtain ⟨m', fI, fd, f, se, p, k1, k2, k3, k4, k5, k6, k7, k8, _⟩ := (ok.x.exc c _ hx).k
    rw [hm] at k1; cases k1
    exact ss_rs ok.x.K ok.x.calm ok.x.tk (ok.x.room.mono (Nat.le_add_left 2 d)) g1 ⟨fI, fd, f, se, p, k2, k3, k4, k5, k6, k7, k8⟩ hown (fun i hi => by simpa using List.all_eq_true.mp hkp i hi) i1 i2 g2
  case tr b hh =>
    simp only [ckS] at h
    split at h <;> simp only [gd_eq, reduceCtorEq, Bool.and_eq_true, Bool.or_eq_true, decide_eq_true_eq] at h
    obtain ⟨⟨⟨⟨⟨h1, h2⟩, h3⟩, h4⟩, h5⟩, h6⟩ := h
    refine ss_tr ok.x.K ok.st ok.fr ok.x.nd ok.x.tk (fun i => ?_) h2 (by rw [ok.x.N]; exact h3) h4 (fun W' pn xe tk hp => ih.eB h6 (ok.tr tk hp)) (hdB_ok ok.x h5)
    unfold lvOf
    rw [List.getD_eq_getElem?_getD]
    cases e : ρ.Γr[i]? with
    | none => rfl
    | some l => simpa using List.all_eq_true.mp h1 l (List.mem_of_getElem? e)
  case brk =>
    simp only [ckS] at h
    split at h <;> cases h
    exact ss_brk
  case ct =>
    simp only [ckS] at h
    split at h <;> cases h
    exact ss_ct
  case asg t e =>
    simp only [ckS] at h
    split at h <;> simp only [Option.bind_eq_some_iff, gd_eq, reduceCtorEq, Bool.and_eq_true, Bool.or_eq_true, decide_eq_true_eq, Option.some.injEq] at h
    rename_i tg v pos
    obtain ⟨⟨q, m, Γ1⟩, h1, ⟨⟨⟨⟨⟨hm, htg⟩, hns⟩, hlt⟩, hro⟩, hsw⟩, rfl⟩ := h
    rcases hsw with (hsw | hsw) | hsw
    · obtain ⟨s1, s2⟩ := swNone_ok hsw pos.line X.env
      exact ss_asgT (ps_asg (eE h1 ok.x) (ok.x.tg htg) s1 s2 (ns_asg hns _)) hm (all_lt hlt) (not_ro hro)
    · obtain ⟨s1, s2⟩ := swCell_ok hsw pos.line X.env ok.x.names
      exact ss_asgT (ps_asg (eE h1 ok.x) (ok.x.tg htg) s1 s2 (ns_asg hns _)) hm (all_lt hlt) (not_ro hro)
    · split at hsw
      · rename_i i y py elt tg2 it2 ifs2 scope pos2
        simp only [Bool.and_eq_true, Bool.not_eq_true'] at hsw
        obtain ⟨⟨⟨hlc, hy⟩, hl⟩, ha⟩ := hsw
        cases e <;> try (simp [isLcC] at hlc; done)
        rename_i e t it cs
        cases E with
        | zero => simp [ckE] at h1
        | succ E =>
          have ihE := ck_all (L := L) (d := d) E
          simp only [ckE, Option.bind_eq_some_iff, gd_eq, Bool.and_eq_true, decide_eq_true_eq, Option.some.injEq, Prod.mk.injEq] at h1
          obtain ⟨⟨⟨⟨hset, hblk⟩, hown⟩, htg2⟩, ⟨q1, Γ1⟩, h1, ⟨q2, Γ2⟩, h2, ⟨q3, m3, Γ3⟩, h3, ⟨q4, Γ4⟩, h4, ⟨q5, m5, Γ5⟩, h5, ⟨⟨⟨⟨⟨⟨k1, k2⟩, k3⟩, k4⟩, k5⟩, k6⟩, k7⟩, rfl, rfl, rfl⟩ := h1
          have bo := blkOk_of (N := X.N) (sc := X.env.scope) ok.x.names (by rw [ok.x.N]; exact hblk)
          have lo : LcOk t ((tgNames t _).map (·.2)) Γ1 _ Γ4 Γ5 m5 := ⟨fun i hi => by simpa using List.all_eq_true.mp k1 i hi, fun i hi => by rw [hown]; exact hi, leN_ok k2, fun i hi => by rw [hown] at hi; simpa using List.all_eq_true.mp k5 i hi, leN_ok k3, leN_ok k4, k6, k7⟩
          have hyl : X.env.scope.names.lookup y = some .local := by
            rw [ok.x.names]
            split at hy
            · assumption
            · cases hy
          have hN : X.N[i]? = some y := by
            simp only [ckTg, Kx.loc, Bool.and_eq_true, decide_eq_true_eq] at htg
            rw [ok.x.N]; exact htg.1
          exact ss_setLc ok.x.calm ok.x.nd hN hyl (sw_true ok.x.kind hyl hl ha) bo lo (ihE.eI h1 ok.x) (fun s H C cl fp => (ok.x.blk bo.kind s H C cl fp).tg htg2) (fun s H C cl fp => ihE.eTs h4 (ok.x.blk bo.kind s H C cl fp)) (fun s H C cl fp => ihE.eE h5 (ok.x.blk bo.kind s H C cl fp)) hset (all_lt hlt i (by simp [Z.T.is])) (not_ro hro i (by simp [Z.T.is]))
      · cases hsw
  case aug i o e =>
    simp only [ckS] at h
    split at h <;> simp only [Option.bind_eq_some_iff, gd_eq, reduceCtorEq, Bool.and_eq_true, decide_eq_true_eq, Bool.not_eq_true', Option.some.injEq] at h
    rename_i y _ _ v _
    obtain ⟨⟨⟨hloc, rfl⟩, ho⟩, ⟨q, m, Γ1⟩, h1, ⟨⟨⟨hq, l0⟩, l1⟩, hro⟩, rfl⟩ := h
    have hl2 := hloc
    simp only [Kx.loc, Bool.and_eq_true, decide_eq_true_eq] at hl2
    have hN : X.N[i]? = some y := by rw [ok.x.N]; exact hl2.1
    have hlk : X.env.scope.names.lookup y = κ.names.lookup y := by rw [ok.x.names]
    have hL : Loc X.env.scope y ∧ (X.fn y = true ∨ X.env.scope.names.lookup y = some .local) := by
      have h2 := hl2.2
      split at h2
      · rename_i e; exact ⟨.inl (hlk.trans e), .inr (hlk.trans e)⟩
      · rename_i e; exact ⟨.inr (hlk.trans e), .inl (ok.x.fn h2 y)⟩
      · cases h2
    exact ss_aug ok.x.K (ps_aug ok.x.nd hN hL.1 (eE h1 ok.x) (g_iop ho) hL.2) hq l0 l1 (by simpa using hro)
  case six p i e =>
    simp only [ckS] at h
    split at h <;> simp only [Option.bind_eq_some_iff, gd_eq, reduceCtorEq, Bool.and_eq_true, decide_eq_true_eq, Bool.not_eq_true', Option.some.injEq] at h
    rename_i xp xi ppos v pos
    obtain ⟨⟨hns, hnl⟩, ⟨x0, n0⟩, hp, ⟨q, m, Γ1⟩, h1, ⟨q2, m2, Γ2⟩, h2, ⟨⟨⟨⟨⟨hP, hq⟩, rfl⟩, hm⟩, hn⟩, hc⟩, rfl⟩ := h
    subst hq
    obtain ⟨s1, s2⟩ := swNone_ok (tg := .Subscript xp xi ppos) (v := v) (by simp [swNone, hnl, isTL]) pos.line X.env
    exact ss_six ok.x.K (eE h1 ok.x) (ckP_ok ok.x hP) (eE h2 ok.x) (plc_ok hp) hn hm (chgB_ok hc) hns s1 s2
  case aix p i o e =>
    simp only [ckS] at h
    split at h <;> simp only [Option.bind_eq_some_iff, gd_eq, reduceCtorEq, Bool.and_eq_true, decide_eq_true_eq, Bool.not_eq_true', Option.some.injEq] at h
    obtain ⟨⟨⟨hns, rfl⟩, ho⟩, ⟨x0, n0⟩, hp, ⟨q2, m2, Γ2⟩, h2, ⟨q, m, Γ1⟩, h1, ⟨⟨⟨⟨⟨⟨⟨hP, hq⟩, rfl⟩, hm⟩, hq2⟩, rfl⟩, hn⟩, hc⟩, rfl⟩ := h
    subst hq hq2
    exact ss_aix ok.x.K (ckP_ok ok.x hP) (eE h2 ok.x) hm (eE h1 ok.x) ho (plc_ok hp) hn (chgB_ok hc) hns
  case app p e =>
    simp only [ckS] at h
    split at h <;> simp only [Option.bind_eq_some_iff, gd_eq, reduceCtorEq, Bool.and_eq_true, decide_eq_true_eq, Bool.not_eq_true', Option.some.injEq] at h
    obtain ⟨⟨⟨⟨⟨ha, hP⟩, hns⟩, hsup⟩, hpos⟩, ⟨x0, n0⟩, hp, ⟨q, m, Γ1⟩, h1, ⟨⟨hq, hn⟩, hc⟩, rfl⟩ := h
    subst hq
    cases eq_str ha
    exact ss_app ok.x.K (ckP_ok ok.x hP) (eE h1 ok.x) (plc_ok hp) hn (chgB_ok hc) hns hsup hpos
  case ext p e =>
    simp only [ckS] at h
    split at h <;> simp only [Option.bind_eq_some_iff, gd_eq, reduceCtorEq, Bool.and_eq_true, decide_eq_true_eq, Bool.not_eq_true', Option.some.injEq] at h
    obtain ⟨⟨⟨⟨⟨ha, hP⟩, hns⟩, hsup⟩, hpos⟩, ⟨x0, n0⟩, hp, ⟨q, m, Γ1⟩, h1, ⟨⟨⟨hq, hm⟩, hn⟩, hc⟩, rfl⟩ := h
    subst hq
    cases eq_str ha
    exact ss_ext ok.x.K (ckP_ok ok.x hP) (eE h1 ok.x) (plc_ok hp) hn hm (chgB_ok hc) hns hsup hpos
  case ex e =>
    simp only [ckS] at h
    split at h <;> simp only [Option.bind_eq_some_iff, gd_eq, reduceCtorEq, Option.some.injEq] at h
    obtain ⟨hnl, ⟨q, m, Γ1⟩, h1, rfl⟩ := h
    exact ss_ex (eE h1 ok.x) (swaps_ok hnl)
  case ite c a b =>
    simp only [ckS] at h
    split at h <;> simp only [Option.bind_eq_some_iff, gd_eq, reduceCtorEq, Bool.and_eq_true, Option.some.injEq] at h
    obtain ⟨⟨q, Γ1⟩, h1, O1, h2, O2, h3, ⟨l1, l2⟩, rfl⟩ := h
    exact ss_if ((ck_all E).eT h1 ok.x) (ih.eB h2 ok) (ih.eB h3 ok) (outLe_ok l1) (outLe_ok l2)
  case fr t it b =>
    simp only [ckS] at h
    split at h <;> simp only [Option.bind_eq_some_iff, gd_eq, reduceCtorEq, Bool.and_eq_true, Option.some.injEq] at h
    obtain ⟨⟨⟨hset, htg⟩, hro⟩, ⟨q, Γ1⟩, h1, ⟨Γi, Γ0, Ob⟩, hf, ⟨⟨⟨l1, hlt⟩, l2⟩, l3⟩, rfl⟩ := h
    obtain ⟨h2, h3, h4⟩ := fixG_ok hf
    simp only [Option.map_eq_some_iff, Prod.mk.injEq] at h2
    obtain ⟨Ob', h2, _, rfl⟩ := h2
    exact ss_for ok.hp ok.x.calm ((ck_all E).eI h1 ok.x) (ok.x.tg htg) (ih.eB h2 ok) (leN_ok l1) ⟨h3, h4, leOb_ok l2, leOb_ok l3⟩ (all_lt hlt) (not_ro hro) hset
  case wl c b =>
    simp only [ckS] at h
    split at h <;> simp only [Option.bind_eq_some_iff, gd_eq, reduceCtorEq, Bool.and_eq_true, Option.some.injEq] at h
    obtain ⟨⟨Γi, Γ0, Ob⟩, hf, ⟨⟨⟨l1, l2⟩, l3⟩, l4⟩, rfl⟩ := h
    obtain ⟨h2, h3, h4⟩ := fixG_ok hf
    simp only [Option.bind_eq_some_iff, Option.map_eq_some_iff, Prod.mk.injEq] at h2
    obtain ⟨⟨q, Γc⟩, h1, Ob', h2, rfl, rfl⟩ := h2
    exact ss_while ok.hp ((ck_all E).eT h1 ok.x) (ih.eB h2 ok) (leN_ok l1) ⟨h3, h4, leOb_ok l2, leOb_ok l3⟩ (leOb_ok l4)
  case ret e =>
    simp only [ckS] at h
    split at h <;> simp only [Option.bind_eq_some_iff, gd_eq, reduceCtorEq, Bool.and_eq_true, decide_eq_true_eq, Option.some.injEq] at h
    obtain ⟨⟨q, m, Γ1⟩, h1, ⟨⟨l1, l2⟩, l3⟩, rfl⟩ := h
    exact ss_ret (eE h1 ok.x) (leN_ok l1) ⟨l2, l3⟩
  case retN =>
    simp only [ckS] at h
    split at h <;> simp only [gd_eq, reduceCtorEq, Option.some.injEq] at h
    obtain ⟨l1, rfl⟩ := h
    exact ss_retN (leN_ok l1)
theorem ckS_all {E : Nat} : ∀ n, CkSOk L E d n
  | 0 => ⟨fun h => by simp [ckS] at h, fun h => by simp [ckB] at h⟩
  | n + 1 => have ih := ckS_all n; ⟨ck_S ih, ck_B ih⟩
end
end Z

/-! Z24a: the head's facts of the exceptions' classes. -/
namespace Z
open PySem PySem.Spec L2 PyProof.Rows
/-- the parameters: self and one field -/
def parP : Str → Arguments → Bool
  | p, ⟨[], [⟨a, _, _⟩, ⟨b, _, _⟩], none, [], [], none, []⟩ => decide (a = "self") && decide (b = p)
  | _, _ => false
def parNames : List Str := ["place", "name", "most", "times", "numbers"]
theorem bind_two {fd : FuncData} {p : Str} (hp : p ∈ parNames) (h : parP p fd.params = true) (hd : fd.defaults = .none) (us : List Value) (hl : us.length = 2) : bindArgs fd ⟨us, []⟩ = pure (([("self" : Str), p] : List Str).zip us) := by
  obtain ⟨nm, qn, par, body, sc, gl, cl, df, kd, doc, pm, an, cd, ct, bl⟩ := fd
  dsimp only at h hd
  subst hd
  unfold parP at h
  split at h
  · rename_i p' a an1 ps1 b an2 ps2
    simp only [Bool.and_eq_true, decide_eq_true_eq] at h
    obtain ⟨rfl, rfl⟩ := h
    obtain ⟨u1, u2, rfl⟩ : ∃ u1 u2, us = [u1, u2] := by
      match us, hl with
      | [u1, u2], _ => exact ⟨u1, u2, rfl⟩
    simp only [parNames, List.mem_cons, List.not_mem_nil, or_false] at hp
    rcases hp with rfl | rfl | rfl | rfl | rfl <;> rfl
  · cases h

/-- the scope of such an __init__ -/
def scI (p : Str) (sc : Scope) : Bool := decide (sc.kind = .function) && !sc.isCoroutine && !sc.isGenerator && decide (sc.names.lookup ("super" : Str) = some .globalImplicit) && decide (sc.names.lookup ("__class__" : Str) = some .free) && decide (sc.names.lookup ("self" : Str) = some .local) && decide (sc.names.lookup p = some .local) &&
  sc.names.all (fun y => decide (y.2 ≠ .cell) && (decide (y.2 ≠ .free) || decide (y.1 = ("__class__" : Str))))
/-- the __init__, as it lies -/
def fnI (K : PySem.W.Frag) (file : Str) (C : Addr) (m : Bool) (f p : Str) (fd : FuncData) : Bool := (match fd.closure, fd.code, fd.body with
  | [(cn, cc)], .ref cda, .stmts body => decide (cn = ("__class__" : Str)) && decide (fd.globals = mainGlobals) && decide (fd.builtins = builtinsNs) && decide (fd.defaults = .none) && parP p fd.params && scI p fd.scope && iniB m f "self" p body && PySem.W.codeIn K (.ref cda) fd.qualname &&
    (match K.lookup cc with
      | some ⟨_, _, .cell (some (.ref C')), _⟩ => decide (C' = C)
      | _ => false) &&
    (match K.lookup cda with
      | some ⟨_, _, .fields vs, _⟩ => (match (vs[2]? : Option Value) with
        | some (Value.str fl _) => decide (file = fl)
        | _ => false)
      | _ => false)
  | _, _, _ => false)
/-- the class, as it lies -/
def clsI (K : PySem.W.Frag) (C : Addr) : Bool := (match K.lookup C with
  | some ⟨.type "type", _, .cls cd, sl⟩ => (match cd.mro, sl.toList with
    | .ref C' :: bm, [_, _, _, _, some (.builtin n), _] => decide (C' = C) && decide (n = "ValueError.__new__") && !cd.hasDel && cd.hasDict && PySem.HandSPX.refsVE bm && decide (PySem.W.alongIn K "__init__" ((cd.mro.dropWhile (· != .ref C)).drop 1) = some (some (.builtin "ValueError.__init__")))
    | _, _ => false)
  | _ => false)
def oneI (K : PySem.W.Frag) (file : Str) (C : Addr) (m : Bool) (f p : Str) : Bool := clsI K C &&
  (match PySem.W.findIn K (.ref C) "__init__" with
    | some (some (.ref fI)) => decide (PySem.W.typeIn K (.ref fI) = some (.type "function")) && (match K.lookup fI with
      | some ⟨_, _, .func fd, _⟩ => fnI K file C m f p fd
      | _ => false)
    | _ => false) &&
  decide (PySem.W.findIn K (.ref C) "__setattr__" = some (some (.builtin "object.__setattr__"))) && decide (PySem.W.subIn K (.ref C) (.type "BaseException") = some true) && decide (PySem.W.typeIn K (.ref C) = some (.type "type")) && PySem.W.keepIn K (.ref C) &&
  decide (PySem.W.mroIn K C (.ref C) = some true) && decide (PySem.W.subIn K (.ref C) (.type "ValueError") = some true) && decide (PySem.W.nsIn K cStatics "thirdparty.any" = some none) && decide (PySem.W.findIn K (.ref C) f = some none) &&
  xfB K C && decide (PySem.W.findIn K (.ref C) "__class__" = some (some (.builtin "object.__class__"))) && decide (PySem.W.specialIn K (.builtin "object.__class__") "__get__" = some (some (.builtin "getset_descriptor.__get__"))) && decide (PySem.W.takesIn K (.builtin "object.__class__") = some true) && decide (PySem.W.mroIn K C (.type "object") = some true)
section
variable {P : Program} {K : PySem.W.Frag} {mg : Str → Option Value} {C : Addr} {file f p : Str} {m : Bool}
structure OneI (P : Program) (K : PySem.W.Frag) (mg : Str → Option Value) (C : Addr) (m : Bool) (f p : Str) : Prop where
  fn : ∃ fI cc cda name qual params body scope dV kV doc pm ct oc an od osl, IniC P K mg C fI cc cda qual params scope ["self", p] ∧ K.lookup fI = some ⟨oc, od, .func (PySem.W.ksFn name qual params body scope dV kV doc pm an (.ref cda) ct cc), osl⟩ ∧ iniB m f "self" p body = true ∧
    PySem.W.findIn K (.ref C) "__init__" = some (some (.ref fI)) ∧ PySem.W.typeIn K (.ref fI) = some (.type "function") ∧ (p ∈ parNames → Binds K (PySem.W.ksFn name qual params body scope dV kV doc pm an (.ref cda) ct cc) ["self", p] [])
  no : PySem.W.findIn K (.ref C) f = some none
  e : L2.ExcC K C
  xf : XfC K C
theorem oneI_ok (h : oneI K file C m f p = true) (hf : P.main.file = file) (hs : (P.main.scope.names.lookup ("super" : Str)).isSome = false) (hm : mg "super" = none) (hp : p ≠ "self") : OneI P K mg C m f p := by
  simp only [oneI, Bool.and_eq_true, decide_eq_true_eq] at h
  obtain ⟨⟨⟨⟨⟨⟨⟨⟨⟨⟨⟨⟨⟨⟨a1, a2⟩, a3⟩, a4⟩, a5⟩, a6⟩, a7⟩, a8⟩, a9⟩, a10⟩, a11⟩, a12⟩, a13⟩, a14⟩, a15⟩ := h
  have xf := xfB_ok a11
  unfold clsI at a1
  split at a1
  · rename_i od cd sl hC
    split at a1
    · rename_i C' bm k0 k1 k2 k3 n k5 hm1 hs1
      simp only [Bool.and_eq_true, decide_eq_true_eq, Bool.not_eq_true'] at a1
      obtain ⟨⟨⟨⟨⟨rfl, rfl⟩, b3⟩, b4⟩, b5⟩, b6⟩ := a1
      split at a2
      · rename_i fI hfI
        simp only [Bool.and_eq_true, decide_eq_true_eq] at a2
        obtain ⟨c1, c2⟩ := a2
        split at c2
        · rename_i oc od2 fd osl hfn
          obtain ⟨fnm, fqn, fpar, fbody, fsc, fgl, fcl, fdf, fkd, fdoc, fpm, fan, fcd, fct, fbl⟩ := fd
          unfold fnI at c2
          dsimp only at c2
          split at c2
          · rename_i cn cc cda body
            simp only [Bool.and_eq_true, decide_eq_true_eq] at c2
            obtain ⟨⟨⟨⟨⟨⟨⟨⟨⟨rfl, rfl⟩, rfl⟩, rfl⟩, d5⟩, d6⟩, d7⟩, d8⟩, d9⟩, d10⟩ := c2
            simp only [scI, Bool.and_eq_true, decide_eq_true_eq, Bool.not_eq_true'] at d6
            obtain ⟨⟨⟨⟨⟨⟨⟨s1, s2⟩, s3⟩, s4⟩, s5⟩, s6⟩, s7⟩, s8⟩ := d6
            have nm : cd.mro = .ref C' :: bm := hm1
            have hcl : PySem.W.clsIn K C' = some cd := by unfold PySem.W.clsIn; rw [hC]
            have slE : sl = #[k0, k1, k2, k3, some (.builtin "ValueError.__new__"), k5] := by
              obtain ⟨l⟩ := sl
              simp only at hs1
              rw [hs1]
            have oex : OexC K C' := by
              obtain ⟨q1, q2, q3, q4, q5, q6, q7, q8, q9, q10, q11⟩ := cd
              dsimp only at b3 b4 nm
              subst b3 b4 nm
              subst slE
              exact ⟨⟨_, _, _, _, _, _, _, _, _, _, _, _, _, _, _, hC, b5⟩, a3, a4, a5, a6⟩
            split at d9
            · rename_i cl cld C2 csl hcell
              have hC2 : C2 = C' := by simpa using d9
              subst hC2
              split at d10
              · rename_i ccl cdd vs ccs hcode
                split at d10
                · rename_i fl tf hvs
                  have hfl : file = fl := by simpa using d10
                  have par2 := d5
                  refine ⟨⟨fI, cc, cda, fnm, fqn, fpar, body, fsc, .none, fkd, fdoc, fpm, fct, oc, fan, od2, osl, ?_, hfn, d7, hfI, c1, fun hpn => ?_⟩, a10, ⟨xf.ga, xf.gg, xf.exC, xf.hdC, a12, a13, a14, a15⟩, xf⟩
                  · refine ⟨oex, ⟨cl, cld, csl, hcell⟩, ⟨ccl, cdd, vs, ccs, fl, tf, hcode, hvs, by rw [hf, hfl]; simp⟩, d8, hs, ⟨cd, hcl, b6⟩, a7, a8, a9, hm, s1, s2, s3, s4, s5, fun x hx => ?_, fun x hx hfree => ?_, fun x hx => ?_, ?_, ?_⟩
                    · have := List.all_eq_true.mp s8 x hx
                      simp only [Bool.and_eq_true, decide_eq_true_eq] at this
                      exact this.1
                    · have := List.all_eq_true.mp s8 x hx
                      simp only [Bool.and_eq_true, Bool.or_eq_true, decide_eq_true_eq] at this
                      exact this.2.resolve_left fun z => z hfree
                    · simp only [List.mem_cons, List.not_mem_nil, or_false] at hx
                      rcases hx with rfl | rfl
                      · exact s6
                      · exact s7
                    · simp only [List.nodup_cons, List.mem_singleton, List.not_mem_nil, not_false_eq_true, List.nodup_nil, and_self, and_true]
                      exact fun z => hp z.symm
                    · unfold parP at par2
                      split at par2
                      · simp only [Bool.and_eq_true, decide_eq_true_eq] at par2
                        obtain ⟨rfl, rfl⟩ := par2
                        exact ⟨_, rfl, rfl⟩
                      · cases par2
                  · exact Binds.all fun us hl => bind_two hpn d5 rfl us hl
                · cases d10
              · cases d10
            · cases d9
          · cases c2
        · cases c2
      · cases a2
    · cases a1
  · cases a1
end

/-! ### the table of a law's exceptions -/
structure XRow where
  x : Str
  f : Str
  p : Str
  m : Bool
  tb : List (Str × Bool)
def tbB (K : PySem.W.Frag) (C : Addr) (l : List (Str × Bool)) : Bool := l.all fun q => if q.1 = ("ValueError" : Str) then decide (PySem.W.kitOne K (.ref C) (.type "ValueError") = some q.2) else decide (PySem.W.nsIn K mainGlobals q.1 = some (some (.ref (He.ga K q.1)))) && decide (PySem.W.kitOne K (.ref C) (.ref (He.ga K q.1)) = some q.2)
def rowB (K : PySem.W.Frag) (file : Str) (r : XRow) : Bool := decide (PySem.W.nsIn K mainGlobals r.x = some (some (.ref (He.ga K r.x)))) && oneI K file (He.ga K r.x) r.m r.f r.p && tbB K (He.ga K r.x) r.tb && decide (r.p ∈ parNames)
def pairB (K : PySem.W.Frag) (rs : List XRow) (c c' : Nat) : Bool := match rs[c]?, rs[c']? with
  | some r, some r' => decide (PySem.W.exmOne K (.ref (He.ga K r'.x)) (.ref (He.ga K r.x)) = some (c' == c))
  | _, _ => true
def rowsB (K : PySem.W.Frag) (file : Str) (rs : List XRow) : Bool := rs.all (rowB K file) && (List.range rs.length).all fun c => (List.range rs.length).all fun c' => pairB K rs c c'
def caOf (K : PySem.W.Frag) (rs : List XRow) (c : Nat) : Addr := match rs[c]? with
  | some r => He.ga K r.x
  | none => 0
def cfOf (rs : List XRow) (c : Nat) : List Str := match rs[c]? with
  | some r => [r.f]
  | none => []
def tbOf (rs : List XRow) (c : Nat) : List (Str × Bool) := match rs[c]? with
  | some r => r.tb
  | none => []
structure XTab (L : Lw) (K : PySem.W.Frag) (rs : List XRow) : Prop where
  n : L.exN = rs.map (·.x)
  m : L.exM = rs.map (·.m)
  tb : ∀ c, L.tb c = tbOf rs c
  ca : ∀ c, L.T.ca c = caOf K rs c
  cf : ∀ c, L.T.cf c = cfOf rs c
  sub : ∀ a b, L.T.P.sub a b = (a == b)
theorem lookup_mem {α : Type} {l : List (Str × α)} {x : Str} {b : α} (h : l.lookup x = some b) : (x, b) ∈ l := by
  induction l with
  | nil => simp at h
  | cons p l ih =>
    obtain ⟨y, v⟩ := p
    simp only [List.lookup] at h
    split at h
    · rename_i e
      have : x = y := by simpa using e
      cases h; rw [this]; exact List.mem_cons_self
    · exact List.mem_cons_of_mem _ (ih h)
section
variable {P : Program} {w : World} {K : PySem.W.Frag} {mg : Str → Option Value} {base : Heap} {file : Str} {rs : List XRow} {L : Lw} {hh : Heap}
theorem rows_ok (h : rowsB K file rs = true) (KX : K.In hh) (G : hh.Ns mainGlobals mg) (hf : P.main.file = file) (hs : (P.main.scope.names.lookup ("super" : Str)).isSome = false) (hm : mg "super" = none) (hv : mg "ValueError" = none) (T : XTab L K rs) :
    ∀ (c : Nat) (x : Str), L.exN[c]? = some x → XcOk L P w K mg base c x := by
  intro c x hx
  rw [T.n, List.getElem?_map, Option.map_eq_some_iff] at hx
  obtain ⟨r, hr, rfl⟩ := hx
  simp only [rowsB, Bool.and_eq_true] at h
  have hrow := List.all_eq_true.mp h.1 r (List.mem_of_getElem? hr)
  simp only [rowB, Bool.and_eq_true, decide_eq_true_eq] at hrow
  obtain ⟨⟨⟨h1, h2⟩, h3⟩, h4⟩ := hrow
  have hca : L.T.ca c = He.ga K r.x := by rw [T.ca]; unfold caOf; rw [hr]
  have hcf : L.T.cf c = [r.f] := by rw [T.cf]; unfold cfOf; rw [hr]
  have htb : L.tb c = r.tb := by rw [T.tb]; unfold tbOf; rw [hr]
  have hmm : L.exM[c]? = some r.m := by rw [T.m, List.getElem?_map, hr]; rfl
  have hmg : mg r.x = some (.ref (He.ga K r.x)) := PySem.W.mg_of KX G h1
  have hps : r.p ≠ ("self" : Str) := fun z => by rw [z] at h4; revert h4; decide +kernel
  have O : OneI P K mg (He.ga K r.x) r.m r.f r.p := oneI_ok h2 hf hs hm hps
  obtain ⟨fI, cc, cda, name, qual, params, body, scope, dV, kV, doc, pm, ct, oc, an, od, osl, k1, k2, k3, k4, k5, k6⟩ := O.fn
  have dbs : (r.p == ("__debug__" : Str)) = false ∧ (r.p == ("__classdict__" : Str)) = false ∧ (("self" : Str) == ("__debug__" : Str)) = false ∧ (("self" : Str) == ("__classdict__" : Str)) = false := by
    have h5 := h4
    simp only [parNames, List.mem_cons, List.not_mem_nil, or_false] at h5
    rcases h5 with e | e | e | e | e <;> rw [e] <;> decide +kernel
  refine ⟨⟨r.m, fI, _, r.f, "self", r.p, hmm, by rw [hca]; exact k1.oex, by rw [hca]; exact k4, k5, by rw [hca]; exact init_sp k1 k2 k3 O.no dbs, k6 h4, by rw [hca]; exact hmg, hcf, by rw [hca]; exact O.no⟩, by rw [hca]; exact O.e, by rw [hca]; exact O.xf, fun cn b hb => ?_, fun c' hc' => ?_, fun c' hc' => ?_⟩
  · rw [htb] at hb
    have := List.all_eq_true.mp h3 _ (lookup_mem hb)
    dsimp only at this
    rw [hca]
    split at this
    · rename_i e
      refine ⟨.ty "ValueError", .type "ValueError", ⟨.type "ValueError", rfl, .inr ⟨by rw [e]; exact hv, by rw [e]; decide +kernel, by rw [e]; decide +kernel⟩⟩, fun u hu => hu, by simpa using this⟩
    · simp only [Bool.and_eq_true, decide_eq_true_eq] at this
      refine ⟨.ref (He.ga K cn), .ref (He.ga K cn), ⟨.ref (He.ga K cn), rfl, .inl (PySem.W.mg_of KX G this.1)⟩, fun u hu => hu, this.2⟩
  · rw [T.cf] at hc'
    unfold cfOf at hc'
    split at hc'
    · rename_i r' hr'
      have i1 : c < rs.length := (List.getElem?_eq_some_iff.mp hr).1
      have i2 : c' < rs.length := (List.getElem?_eq_some_iff.mp hr').1
      have := List.all_eq_true.mp (List.all_eq_true.mp h.2 c (by simpa using i1)) c' (by simpa using i2)
      unfold pairB at this
      rw [hr, hr'] at this
      have hca' : L.T.ca c' = He.ga K r'.x := by rw [T.ca]; unfold caOf; rw [hr']
      rw [hca, hca', T.sub]
      simpa using this
    · exact absurd rfl hc'
  · rw [T.sub] at hc'
    simpa using hc'
end
end Z

/-! Z24: defs. -/
namespace Z
open PySem PySem.Spec L2 PyProof.Rows
structure Df where
  d : He.DefD
  N : List Str
  ps : List Str
  fn : Fn
/-- the levels at a def's entry -/
def Df.g0 (D : Df) : Gm := D.fn.alv ++ List.replicate (D.fn.ns - D.fn.np) 0
def Df.rt (D : Df) : RT := ⟨(List.range D.fn.ns).map fun j => if D.fn.io.contains j then lvAt D.fn.io D.fn.il j else 0, D.fn.rl, D.fn.io⟩
def Df.kx (D : Df) : Kx := ⟨D.N, D.d.scope.names, true⟩
def ckD (L : Lw) (m : Nat) (D : Df) : Bool := decide (D.ps.length = D.fn.np) && decide (D.N.length = D.fn.ns) && decide (D.fn.np ≤ D.fn.ns) && decide D.fn.io.Nodup && D.fn.io.all (fun p => decide (p < D.fn.np)) && decide (D.fn.il = D.fn.io.map (lvAt D.fn.io D.fn.il)) && D.fn.alv.all (fun m => decide (1 ≤ m)) && decide (1 ≤ D.fn.rl) &&
  (match ckB L m m D.kx [] D.rt D.fn.body D.d.body D.g0 with
    | some O => (match O.nx with
      | none => true
      | some Γ => leN D.rt.Γr Γ)
    | none => false)
def scB (N P : List Str) (sc : Scope) : Bool := decide (sc.kind = .function) && !sc.isCoroutine && !sc.isGenerator && decide N.Nodup && decide (N.take P.length = P) && P.all (fun x => decide (sc.names.lookup x = some .local ∨ sc.names.lookup x = some .cell)) && sc.names.all (fun y => decide (y.2 ≠ .free))
theorem scB_ok {N P : List Str} {sc : Scope} (h : scB N P sc = true) : FnScope N P sc := by
  simp only [scB, Bool.and_eq_true, decide_eq_true_eq, Bool.not_eq_true', List.all_eq_true] at h
  obtain ⟨⟨⟨⟨⟨⟨h1, h2⟩, h3⟩, h4⟩, h5⟩, h6⟩, h7⟩ := h
  exact ⟨h1, h2, h3, h4, h5, h6, h7⟩
theorem vall_fp {K : PySem.W.Frag} {F H : Hp} : ∀ {ms : List Nat} {xs : List D} {vs : List V} {g : AS}, ValL K F H ms xs vs g →
    ∃ fp : Nat → AS, (∀ i m, ms[i]? = some m → ∃ d v, xs[i]? = some d ∧ vs[i]? = some v ∧ Val K m F H d v (fp i)) ∧ (∀ i j, i ≠ j → Dis (fp i) (fp j)) ∧ (∀ i, ms.length ≤ i → fp i = emp) ∧ ∀ a, Own fp a ↔ g a
  | [], [], vs, g, h => by
    simp only [ValL] at h
    obtain ⟨rfl, rfl⟩ := h
    exact ⟨fun _ => emp, fun i m h => by simp at h, fun _ _ _ _ z => z.elim, fun _ _ => rfl, fun a => ⟨fun ⟨_, z⟩ => z, fun z => z.elim⟩⟩
  | m :: ms, x :: xs, vs, g, h => by
    simp only [ValL] at h
    obtain ⟨w, ws, g1, g2, rfl, q, r, dd, rfl⟩ := h
    obtain ⟨fp, k1, k2, k3, k4⟩ := vall_fp r
    have up : ∀ i a, fp i a → g2 a := fun i a z => (k4 a).mp ⟨i, z⟩
    refine ⟨fun i => match i with | 0 => g1 | i + 1 => fp i, fun i m' hi => ?_, fun i j hij a z1 z2 => ?_, fun i hi => ?_, fun a => ⟨fun ⟨i, z⟩ => ?_, fun z => ?_⟩⟩
    · cases i with
      | zero => simp at hi; subst hi; exact ⟨x, w, rfl, rfl, q⟩
      | succ i =>
        obtain ⟨d, v, e1, e2, e3⟩ := k1 i m' (by simpa using hi)
        exact ⟨d, v, by simpa using e1, by simpa using e2, e3⟩
    · cases i with
      | zero =>
        cases j with
        | zero => exact hij rfl
        | succ j => exact dd a z1 (up j a z2)
      | succ i =>
        cases j with
        | zero => exact dd a z2 (up i a z1)
        | succ j => exact k2 i j (fun e => hij (by rw [e])) a z1 z2
    · cases i with
      | zero => simp at hi
      | succ i => exact k3 i (by simpa using hi)
    · cases i with
      | zero => exact .inl z
      | succ i => exact .inr (up i a z)
    · rcases z with z | z
      · exact ⟨0, z⟩
      · obtain ⟨i, z⟩ := (k4 a).mpr z
        exact ⟨i + 1, z⟩
  | [], _ :: _, _, _, h => by simp only [ValL] at h
  | _ :: _, [], _, _, h => by simp only [ValL] at h
/-- the state at a def's entry -/
theorem st_start {K : PySem.W.Frag} {F H : Hp} {ms : List Nat} {k : Nat} {xs : List D} {vs : List V} {g : AS} (s : Sub F H) (r : ValL K F H ms xs vs g) (hm : ∀ m ∈ ms, 1 ≤ m) (hx : xs.length = ms.length) (hv : vs.length = ms.length) :
    ∃ fp, St K (ms ++ List.replicate k 0) (xs ++ List.replicate k .non) (vs.map some ++ List.replicate k none) F H fp ∧ ∀ a, Own fp a ↔ g a := by
  obtain ⟨fp, k1, k2, k3, k4⟩ := vall_fp r
  refine ⟨fp, ⟨s, by simp [hv], by simp [hx, hv], fun i hi => ?_, k2, fun i hi => ?_⟩, k4⟩
  · by_cases hlt : i < ms.length
    · have e1 : ms[i]? = some ms[i] := List.getElem?_eq_getElem hlt
      obtain ⟨d, v, h1, h2, h3⟩ := k1 i _ e1
      have hl : lvOf (ms ++ List.replicate k 0) i = ms[i] := by
        unfold lvOf
        rw [List.getD_eq_getElem?_getD, List.getElem?_append_left hlt, e1]; rfl
      refine ⟨d, v, ?_, ?_, ?_⟩
      · rw [List.getElem?_append_left (by omega)]; exact h1
      · rw [List.getElem?_append_left (by simp; omega)]; simp [h2]
      · rw [hl]
        have := hm _ (List.getElem_mem hlt)
        unfold Val at h3
        rw [if_neg (by omega)] at h3
        exact h3
    · exfalso
      unfold lvOf at hi
      rw [List.getD_eq_getElem?_getD, List.getElem?_append_right (by omega), List.getElem?_replicate] at hi
      split at hi <;> simp at hi
  · by_cases hlt : i < ms.length
    · exfalso
      have e1 : ms[i]? = some ms[i] := List.getElem?_eq_getElem hlt
      have hl : lvOf (ms ++ List.replicate k 0) i = ms[i] := by
        unfold lvOf
        rw [List.getD_eq_getElem?_getD, List.getElem?_append_left hlt, e1]; rfl
      have := hm _ (List.getElem_mem hlt)
      omega
    · exact k3 i (by omega)
/-- the changed arguments, at a def's end -/
theorem outs_of {K : PySem.W.Frag} {Γ : Gm} {e : Env} {σ : L2.St} {F H : Hp} {fp : Nat → AS} {vs : List V} (s : St K Γ e.s σ F H fp) : ∀ {io il : List Nat}, io.length = il.length → io.Nodup → (∀ k p l : Nat, io[k]? = some p → il[k]? = some l → lvOf Γ p = l ∧ 1 ≤ l) → (∀ p ∈ io, ∃ v, vs[p]? = some v ∧ σ[p]? = some (some v)) →
    OutL K F H io il (outsOf e io) vs (fun a => ∃ p ∈ io, fp p a)
  | [], il, hl, _, _, _ => by
    have : il = [] := List.length_eq_zero_iff.mp (by simpa using hl.symm)
    subst this
    show (fun a => ∃ p ∈ ([] : List Nat), fp p a) = emp
    funext a; simp [emp]
  | p :: io, [], hl, _, _, _ => by simp at hl
  | p :: io, l :: il, hl, hn, hk, hv => by
    obtain ⟨h1, h2⟩ := List.nodup_cons.mp hn
    have rest := outs_of s (io := io) (il := il) (by simpa using hl) h2 (fun k q m a b => hk (k + 1) q m (by simpa using a) (by simpa using b)) fun q hq => hv q (List.mem_cons_of_mem _ hq)
    obtain ⟨e1, e2⟩ := hk 0 p l (by simp) (by simp)
    obtain ⟨d, v, q1, q2, q3⟩ := s.at_ p (by omega)
    obtain ⟨v', w1, w2⟩ := hv p List.mem_cons_self
    rw [q2] at w2; cases w2
    refine ⟨v, fp p, _, w1, ?_, rest, fun a z1 ⟨q, hq, z2⟩ => s.dis p q (fun e => h1 (e ▸ hq)) a z1 z2, ?_⟩
    · show RO K F H ((e.s[p]?).getD .non) l v (fp p)
      rw [q1, ← e1]; exact q3
    · funext a
      refine propext ⟨fun ⟨q, hq, z⟩ => ?_, fun z => ?_⟩
      · rcases List.mem_cons.mp hq with rfl | hq
        · exact .inl z
        · exact .inr ⟨q, hq, z⟩
      · rcases z with z | ⟨q, hq, z⟩
        · exact ⟨p, List.mem_cons_self, z⟩
        · exact ⟨q, List.mem_cons_of_mem _ hq, z⟩
/-- a law's defs, as they stand behind the top -/
structure LawOk (L : Lw) (ds : List Df) (m : Nat) (K : PySem.W.Frag) (mg : Str → Option Value) : Prop where
  hK : L.T.K = K
  fns : L.T.P.fns = ds.map (·.fn)
  nm : L.nm = ds.map (·.d.name)
  ck : ∀ D ∈ ds, ckD L m D = true
  sc : ∀ D ∈ ds, scB D.N D.ps D.d.scope = true
  fd : ∀ D ∈ ds, ∃ fd, FunD K D.d.name D.d.qual D.d.params D.d.body D.d.scope [] [] (He.fAd K D.d.at_) fd ∧ L2.Binds K fd D.ps []
  hmg : ∀ D ∈ ds, mg D.d.name = some (.ref (He.fAd K D.d.at_))
  bl : ∀ x ∈ blt, mg x = none
  gl : ∀ (g : Nat) (v : D), L.T.P.gl[g]? = some v → ∃ x, L.glN[g]? = some x ∧ ∃ u w, mg x = some w ∧ RelV u w ∧ ∀ F, RF K F v u
theorem law_ok {L : Lw} {ds : List Df} {m : Nat} {P : Program} {w : World} {K : PySem.W.Frag} {mg : Str → Option Value} {base : Heap} (h : LawOk L ds m K mg) (hx : ∀ (c : Nat) (x : Str), L.exN[c]? = some x → XcOk L P w K mg base c x) :
    ∀ (n f : Nat) (D : Df), ds[f]? = some D → ∀ fd, FunD K D.d.name D.d.qual D.d.params D.d.body D.d.scope [] [] (He.fAd K D.d.at_) fd → FnOk P w K mg base (L2.CX P w) (n + 2) (He.fAd K D.d.at_) fd D.ps (spF L.T n f) := by
  intro n
  induction n with
  | zero =>
    intro f D hD fd F
    have hfn : L.T.P.fns[f]? = some D.fn := by rw [h.fns, List.getElem?_map, hD]; rfl
    have hck := h.ck D (List.mem_of_getElem? hD)
    simp only [ckD, Bool.and_eq_true, decide_eq_true_eq] at hck
    refine ⟨fun vs H Q E z => (spF_len hfn vs H Q E z).trans hck.1.1.1.1.1.1.1.1.symm, fun A outer s H args us vs Q E _ _ _ _ z => ?_⟩
    obtain ⟨fn, xs, F, g, o, _, _, _, _, z⟩ := z
    exact z.elim
  | succ n ih =>
    intro f D hD fd F
    have hmem := List.mem_of_getElem? hD
    have hfn : L.T.P.fns[f]? = some D.fn := by rw [h.fns, List.getElem?_map, hD]; rfl
    have hck := h.ck D hmem
    simp only [ckD, Bool.and_eq_true, decide_eq_true_eq] at hck
    obtain ⟨⟨⟨⟨⟨⟨⟨⟨c1, c2⟩, c3⟩, c4⟩, c4b⟩, c5⟩, c5b⟩, c6⟩, c7⟩ := hck
    split at c7
    · rename_i O hO
      have S := scB_ok (h.sc D hmem)
      refine F.ok S (fun vs H Q E z => (spF_len hfn vs H Q E z).trans c1.symm) fun cdv A outer s H vs Q E hr z => ?_
      let X := cxOf (L2.CX P w) P w K mg base D.N D.d.qual D.d.scope (He.fAd K D.d.at_) cdv A outer s H E
      have ok : SOk L n D.kx X (fun cls d _ H => E cls d H) := by
        refine ⟨⟨h.hK.symm, rfl, S.nd, S.kind, rfl, rfl, fun _ _ => rfl, hr, takes_of rfl rfl rfl rfl, h.bl, fun f2 fn2 hf2 => ?_, fun g v hg => ?_, hx⟩, passes_of rfl, rfl, rfl⟩
        · rw [h.fns, List.getElem?_map, Option.map_eq_some_iff] at hf2
          obtain ⟨D2, hD2, rfl⟩ := hf2
          have hm2 := List.mem_of_getElem? hD2
          obtain ⟨fd2, F2, B2⟩ := h.fd D2 hm2
          have hck2 := h.ck D2 hm2
          simp only [ckD, Bool.and_eq_true, decide_eq_true_eq] at hck2
          exact ⟨D2.d.name, by rw [h.nm, List.getElem?_map, hD2]; rfl, ⟨⟨_, fd2, D2.ps, hck2.1.1.1.1.1.1.1.1, ih f2 D2 hD2 fd2 F2, h.hmg D2 hm2, F2.kp, B2⟩⟩⟩
        · obtain ⟨x, h1, u, w2, h2, h3, h4⟩ := h.gl g v hg
          exact ⟨x, h1, ⟨⟨u, w2, h2, h3, fun F => h.hK ▸ h4 F⟩⟩⟩
      refine ⟨_, (ckS_all m).eB hO ok, ?_⟩
      obtain ⟨fn, xs, F0, g, o, hfn', hvl, sub, val, z⟩ := z
      rw [hfn] at hfn'; cases hfn'
      have hal : D.fn.alv.length = D.fn.np := by unfold Fn.alv; simp
      have hxl : xs.length = D.fn.np := (vall_len2 val).trans hal
      obtain ⟨fp0, st, own0⟩ := st_start (k := D.fn.ns - D.fn.np) sub val (fun m hm => by simpa using List.all_eq_true.mp c5b m hm) (hxl.trans hal.symm) (hvl.trans hal.symm)
      have hΓr : D.rt.Γr.length = D.fn.ns := by simp [Df.rt]
      have hlv : ∀ p ∈ D.fn.io, lvOf D.rt.Γr p = lvAt D.fn.io D.fn.il p := fun p hp => by
        have h1 : p < D.fn.np := by simpa using List.all_eq_true.mp c4b p hp
        have h2 : p < D.fn.ns := by omega
        unfold lvOf
        rw [List.getD_eq_getElem?_getD, Df.rt]
        simp only [List.getElem?_map, List.getElem?_range h2, Option.map_some, Option.getD_some]
        rw [if_pos (by simpa using hp)]
      have hlen : D.fn.io.length = D.fn.il.length := by
        have := congrArg List.length c5
        rw [List.length_map] at this; exact this.symm
      have hone : ∀ p ∈ D.fn.io, 1 ≤ lvAt D.fn.io D.fn.il p := fun p hp => by
        have h1 : p < D.fn.np := by simpa using List.all_eq_true.mp c4b p hp
        have : lvAt D.fn.io D.fn.il p ∈ D.fn.alv := by
          unfold Fn.alv
          exact List.mem_map.mpr ⟨p, List.mem_range.mpr h1, rfl⟩
        simpa using List.all_eq_true.mp c5b _ this
      have hkk : ∀ k p l : Nat, D.fn.io[k]? = some p → D.fn.il[k]? = some l → lvOf D.rt.Γr p = l ∧ 1 ≤ l := fun k p l h1 h2 => by
        rw [c5, List.getElem?_map, h1] at h2
        simp only [Option.map_some, Option.some.injEq] at h2
        have hp := List.mem_of_getElem? h1
        rw [hlv p hp, ← h2]
        exact ⟨rfl, hone p hp⟩
      have hsl : ∀ (σ' : L2.St), (∀ i ∈ D.fn.io, σ'[i]? = (L2.start D.N vs)[i]?) → ∀ p ∈ D.fn.io, ∃ v, vs[p]? = some v ∧ σ'[p]? = some (some v) := fun σ' hs p hp => by
        have h1 : p < D.fn.np := by simpa using List.all_eq_true.mp c4b p hp
        have h2 : p < vs.length := by rw [hvl]; exact h1
        refine ⟨vs[p], List.getElem?_eq_getElem h2, ?_⟩
        rw [hs p hp]
        unfold L2.start
        rw [List.getElem?_append_left (by simpa using h2)]
        simp [h2]
      refine ⟨⟨xs ++ List.replicate (D.fn.ns - D.fn.np) .non, o⟩, F0, fp0, ?_, ?_⟩
      · show St L.T.K _ _ (L2.start D.N vs) F0 H _
        unfold L2.start
        rw [c2, hvl]
        exact st
      · rw [run_eq hfn] at z
        unfold callFn at z
        rw [if_pos hxl] at z
        have gg : ∀ {F' H' : Hp}, Ch (Own fp0) (Own fp0) F0 H F' H' → Ch g g F0 H F' H' := fun c => ⟨c.sub, fun a x ha hn => c.keep a x ha fun z => hn ((own0 a).mp z), fun a h1 h2 => (c.new a h1 h2).imp (own0 a).mp id⟩
        cases hb : exs L.T.P.gl (run L.T.P n) L.T.P.sub D.fn.body ⟨xs ++ List.replicate (D.fn.ns - D.fn.np) .non, o⟩ with
        | bad => rw [hb] at z; exact z.elim
        | bk e' => rw [hb] at z; exact z.elim
        | ct e' => rw [hb] at z; exact z.elim
        | nx e' =>
          rw [hb] at z
          simp only [ends] at z
          show EndO _ _ O.nx _ _ _ _ _ _
          cases hnx : O.nx with
          | none => exact True.intro
          | some Γ =>
            rw [hnx] at c7
            dsimp only at c7
            intro σ' F' H' fp' gs
            obtain ⟨F2, fp2, s2, c, ow⟩ := gs.st.weak (leN_ok c7)
            have c0 : Ch (Own fp0) (Own fp0) F0 H F2 H' := Ch.trans gs.ch (fun _ z => z) (fun a z => gs.grow a (.inl z)) c (fun _ z => z.elim) fun _ z => z.elim
            refine z F2 H' .non emp (fun a => ∃ p ∈ D.fn.io, fp2 p a) s2.sub (gg c0) (by simp only [RO]; exact ⟨trivial, trivial⟩) (outs_of s2 hlen c4 hkk (hsl σ' gs.ro)) (fun _ z => z.elim) (fun a z => ?_)
            rcases z with z | ⟨p, _, z⟩
            · exact z.elim
            · exact (gs.grow a (.inl (ow a ⟨p, z⟩))).imp (own0 a).mp id
        | rt d e' =>
          rw [hb] at z
          simp only [ends] at z
          intro σ' F' H' fp' v f' gs ro
          refine z F' H' v f' (fun a => ∃ p ∈ D.fn.io, fp' p a) gs.st.sub (gg gs.ch) ro (outs_of gs.st hlen c4 hkk (hsl σ' gs.ro)) (fun a z1 ⟨p, _, z2⟩ => gs.dis a z1 ⟨p, z2⟩) (fun a z => ?_)
          rcases z with z | ⟨p, _, z⟩
          · exact (gs.grow a (.inr z)).imp (own0 a).mp id
          · exact (gs.grow a (.inl ⟨p, z⟩)).imp (own0 a).mp id
        | exc x e' =>
          rw [hb] at z
          simp only [ends] at z
          intro σ' F' H' cls dx _ _ sub' _ ch _ ex
          exact z F' H' cls dx sub' (gg ch) ex
    · cases c7
end Z

/-! Z25: a law's end. -/
namespace Z
open PySem PySem.Spec L2 PyProof.Rows
/-! ### the head's facts, over a part of the heap without lists -/
def isLO (o : Obj) : Bool := match o.cls with
  | .type c => c == "list"
  | _ => false
def asZ (g : Addr → Option Obj) (n : Nat) : List Addr := (cStatics :: He.asD g n).filter fun a => match g a with
  | some o => !isLO o
  | none => false
theorem frG_mem {g : Addr → Option Obj} {a : Addr} {o : Obj} : ∀ {as : List Addr}, (He.frG g as).lookup a = some o → a ∈ as ∧ g a = some o := by
  intro as
  induction as with
  | nil => intro e; cases (show (none : Option Obj) = some o from e)
  | cons b r ih =>
    intro e
    refine ⟨?_, He.frG_at _ e⟩
    by_cases h : a = b
    · rw [h]; exact List.mem_cons_self
    · refine List.mem_cons_of_mem _ (ih ?_).1
      unfold He.frG at e ⊢
      cases hb : g b with
      | none => rw [List.filterMap_cons, hb] at e; exact e
      | some ob =>
        rw [List.filterMap_cons, hb] at e
        have e2 : (match a == b with | true => some ob | false => (List.filterMap (fun a => (g a).map fun o => (a, o)) r).lookup a) = some o := e
        have hf : (a == b) = false := by simpa using h
        rw [hf] at e2
        exact e2
def NoL (K : PySem.W.Frag) : Prop := ∀ a o, K.lookup a = some o → isLO o = false
theorem frG_nol {g : Addr → Option Obj} {n : Nat} : NoL (He.frG g (asZ g n)) := fun a o e => by
  obtain ⟨h1, h2⟩ := frG_mem e
  have := (List.mem_filter.mp h1).2
  rw [h2] at this
  simpa using this
/-- what the head sees: the facts, the values of constants, whether the exceptions' classes lie as told -/
def obsZ (n : Nat) (fa : List He.Fa) (fn : List He.DefD) (file : Str) (rs : List XRow) (g : Addr → Option Obj) : He.AlD × Bool := (He.obsD fa fn (He.frG g (asZ g n)), rowsB (He.frG g (asZ g n)) file rs)
def hookZ (n : Nat) (fa : List He.Fa) (fn : List He.DefD) (file : Str) (rs : List XRow) : PySem.W.Hook where
  α := He.AlD × Bool
  obs := fun s => obsZ n fa fn file rs s.heap.get?
  val := fun w => (He.valD fn, true)
  says := fun _ h => ∃ K : PySem.W.Frag, K.In h ∧ He.SaysD fa fn K ∧ NoL K ∧ rowsB K file rs = true
  of := fun _ _ e => ⟨_, He.frG_in, congrArg Prod.fst e, frG_nol, congrArg Prod.snd e⟩
  keeps := fun _ _ _ ⟨K, hK, c⟩ k => ⟨K, PySem.W.Frag.In.keeps hK k, c⟩
theorem obsZ_eq {n : Nat} {fa : List He.Fa} {fn : List He.DefD} {file : Str} {rs : List XRow} {g : Addr → Option Obj} {s : Shared} (h : ∀ a, g a = s.heap.get? a) : obsZ n fa fn file rs g = (hookZ n fa fn file rs).obs s := by
  have e : g = s.heap.get? := funext h
  rw [e]
  rfl
/-! ### the law's own facts -/
def BindB (D : Df) : Prop := ∀ (kV doc pm : Value) (an : Option Addr) (cdv ct : Value) (us : List Value), us.length = D.ps.length → bindArgs (PySem.W.fnOf D.d.name D.d.qual D.d.params D.d.body D.d.scope .none kV doc pm an cdv ct) ⟨us, []⟩ = pure (D.ps.zip us)
def plainD (D : Df) : Bool := (match D.d.at_.2 with | none => true | _ => false) && D.d.dfl.isEmpty && D.d.kwd.isEmpty
theorem fd_of {K : PySem.W.Frag} {fa : List He.Fa} {ds : List Df} (c : He.SaysD fa (ds.map (·.d)) K) (hp : ds.all plainD = true) (hb : ∀ D ∈ ds, BindB D) :
    ∀ D ∈ ds, ∃ fd, FunD K D.d.name D.d.qual D.d.params D.d.body D.d.scope [] [] (He.fAd K D.d.at_) fd ∧ L2.Binds K fd D.ps [] := by
  intro D hD
  obtain ⟨i, hi, e⟩ := List.mem_iff_getElem.mp hD
  obtain ⟨fd, F⟩ := c.def_ i (d := D.d) (by rw [List.getElem?_map, List.getElem?_eq_getElem hi, e]; rfl)
  have hpD := List.all_eq_true.mp hp D hD
  simp only [plainD, Bool.and_eq_true, List.isEmpty_iff] at hpD
  unfold He.DefD.dvs He.DefD.kws at F
  rw [hpD.1.2, hpD.2] at F
  exact ⟨fd, F, F.bindsN (hb D hD)⟩
theorem mg_of' {K : PySem.W.Frag} {fa : List He.Fa} {fn : List He.DefD} {h : Heap} {mg : Str → Option Value} {ds : List Df} (KX : K.In h) (G : h.Ns mainGlobals mg) (c : He.SaysD fa fn K) (hp : ds.all plainD = true) (hd : ds.all (fun D => decide (D.d.at_.1 = D.d.name)) = true) (hf : ∀ D ∈ ds, He.Fa.glo D.d.name ∈ fa) :
    ∀ D ∈ ds, mg D.d.name = some (.ref (He.fAd K D.d.at_)) := by
  intro D hD
  obtain ⟨i, hi, e⟩ := List.mem_iff_getElem.mp (hf D hD)
  have h1 := He.glo_ok KX G (c.fact i (f := .glo D.d.name) (by rw [List.getElem?_eq_getElem hi, e]))
  have hpD := List.all_eq_true.mp hp D hD
  have hdD : D.d.at_.1 = D.d.name := by simpa using List.all_eq_true.mp hd D hD
  simp only [plainD, Bool.and_eq_true] at hpD
  have : He.fAd K D.d.at_ = He.ga K D.d.name := by
    unfold He.fAd
    split at hpD
    · rename_i e2; rw [e2, hdD]
    · exact absurd hpD.1.1 (by simp)
  rw [this]; exact h1
theorem free_of' {K : PySem.W.Frag} {fa : List He.Fa} {fn : List He.DefD} {h : Heap} {mg : Str → Option Value} (KX : K.In h) (G : h.Ns mainGlobals mg) (c : He.SaysD fa fn K) (hf : ∀ x ∈ blt, He.Fa.free x ∈ fa) : ∀ x ∈ blt, mg x = none := by
  intro x hx
  obtain ⟨i, hi, e⟩ := List.mem_iff_getElem.mp (hf x hx)
  exact He.free_ok KX G (c.fact i (f := .free x) (by rw [List.getElem?_eq_getElem hi, e]))
theorem sq_rd {K : PySem.W.Frag} {H : Hp} {a : Addr} {xs : List V} (n : NoL K) (h : SqL K H a xs) : Rd H a (.lst xs) := by
  rcases h with h | ⟨o, its, k, e, hc, _⟩
  · exact h
  · have := n a o e
    unfold isLO at this
    rw [hc] at this
    simp at this
theorem ints_d {K : PySem.W.Frag} {H : Hp} : ∀ ns : List Int, RFL K H (ns.map D.int) (ns.map V.int)
  | [] => by simp [RFL]
  | n :: ns => by simp only [List.map_cons, RFL]; exact ⟨_, _, rfl, mk_int, ints_d ns⟩
/-- THE END: the law's walk, from its own facts and the plain law -/
theorem walk_Z {l : PySem.W.OpenLaw} {n k : Nat} {q : Program} {loose : List Str} {XP : (Str → Option Value) → Heap → Prop} {YP : World → Heap → Prop} {d : DefRec} {ds : List Df} {lw : PySem.W.Frag → Lw} {m iL : Nat} {DL : Df}
    (hn : l.most = some n) (hn2 : n ≤ sizeLine) (hdf : d.params.defaults = []) (hr : Room (k + 2) callerA) (hDL : ds[iL]? = some DL) (hps : DL.ps.length = 1) (hnm : d.name = DL.d.name) (hio : DL.fn.io = []) (hnp : DL.fn.np = 1) (hbL : BindB DL)
    (F : ∀ (w : World) (mg : Str → Option Value) (fa : Addr) (h : Heap), YP w h → h.Ns mainGlobals mg → ∃ K : PySem.W.Frag, K.In h ∧ NoL K ∧ LawOk (lw K) ds m K mg ∧ ∀ (base : Heap) (c : Nat) (x : Str), (lw K).exN[c]? = some x → XcOk (lw K) l.prog w K mg base c x)
    (hP : ∀ (K : PySem.W.Frag) (ns : List Int), ns.length ≤ n → (∀ z ∈ ns, Builtin.Int.intBits z ≤ 1048576) → ∃ o, run (lw K).T.P k iL [.lst (ns.map .int)] [] = .ok (.bl true) [] o) :
    PySem.W.WalkO q loose XP YP l.row.toRowW d [] (fun f vs => PySem.call f vs) := by
  refine Att.attach_callB hn hdf fun w s₀ s₁ mg mb fa o pm cd doc a vs ns G Y ho hd hcd hmg hobj hints hlen hbits hg => ?_
  obtain ⟨K, KX, nl, ok, hxc⟩ := F w mg fa _ Y G.T.g
  have hmem := List.mem_of_getElem? hDL
  obtain ⟨fd, FD, _⟩ := ok.fd DL hmem
  have hm2 := ok.hmg DL hmem
  rw [← hnm, hmg] at hm2
  cases hm2
  obtain ⟨x, hx⟩ : ∃ x, DL.ps = [x] := List.length_eq_one_iff.mp hps
  have hb : ∀ (s : Shared) (u : Value), BindsTo s fd ⟨[u], []⟩ [(x, u)] := fun s u => by
    have := FunD.bindsA FD hbL s [u] (by rw [hx]; rfl)
    rw [hx] at this
    exact this
  refine law_call (x := x) (sp := spF (lw K).T k iL) (CX := L2.CX l.prog w) (k := k + 2) KX G.T.g G.T.b G.T.builtins G.T.nolimit hg hobj hints (Nat.le_trans hlen hn2) hr (fun base _ _ => ?_) hb (fun H hO hS => ?_) fun H e s' c => ?_
  · have := law_ok (P := l.prog) (w := w) (base := base) ok (hxc base) k iL DL hDL fd FD
    rw [hx] at this
    exact this
  · have hfn : (lw K).T.P.fns[iL]? = some DL.fn := by rw [ok.fns, List.getElem?_map, hDL]; rfl
    have rd := sq_rd nl hS
    obtain ⟨o, hrun⟩ := hP K ns hlen hbits
    refine ⟨DL.fn, [.lst (ns.map .int)], H, emp, [], hfn, by rw [hnp]; rfl, Sub.refl H, ?_, ?_⟩
    · rw [alv_io0 hio, hnp]
      refine vall_of1 1 ?_ rfl
      simp only [RFL, RF]
      exact ⟨_, [], rfl, ⟨a, ns.map V.int, rfl, rd, ints_d ns⟩, rfl⟩
    · rw [hrun]
      dsimp only
      intro F' H' v f' fo _ _ ro _ _ _
      simp only [RO] at ro
      exact ro.1
  · obtain ⟨a', B, H', cls, d', rfl, _, _, _, _, _, _, h⟩ := c
    exact h.elim
end Z

/-! Z26: how the evaluator computes. Plain Lean. -/
namespace Z
theorem compL_pure {f : D → Env → R (List D)} {g : D → List D} {e : Env} : ∀ {xs : List D}, (∀ x ∈ xs, f x e = .ok (g x) e) → compL f xs e = .ok (xs.flatMap g) e
  | [], _ => by simp [compL]
  | x :: xs, h => by
    simp only [compL, h x List.mem_cons_self, R.bind_ok, compL_pure (fun y hy => h y (List.mem_cons_of_mem _ hy)), List.flatMap_cons]
theorem env_restore {e : Env} {i : Nat} {y : D} (hi : i < e.s.length) : restore [i] e (e.set i y) = e := by
  obtain ⟨s, o⟩ := e
  simp only [restore, Env.set, List.set_set]
  have : (s[i]?).getD D.non = s[i]'hi := by rw [List.getElem?_eq_getElem hi]; rfl
  rw [this, List.set_getElem_self]
theorem turn_n {f : Env → R (List D)} {i : Nat} {y : D} {e : Env} {zs : List D} (hi : i < e.s.length) (h : f (e.set i y) = .ok zs (e.set i y)) : turnD (.n i) f y e = .ok zs e := by
  simp only [turnD, asgT, h, R.bind_ok, T.is, env_restore hi]
theorem env_restore2 {e : Env} {i j : Nat} {y z : D} (hi : i < e.s.length) (hj : j < e.s.length) (hij : i ≠ j) : restore [i, j] e ((e.set i y).set j z) = e := by
  obtain ⟨s, o⟩ := e
  simp only [restore, Env.set]
  have h1 : (s[i]?).getD D.non = s[i]'hi := by rw [List.getElem?_eq_getElem hi]; rfl
  have h2 : (s[j]?).getD D.non = s[j]'hj := by rw [List.getElem?_eq_getElem hj]; rfl
  rw [h1, h2]
  congr 1
  refine List.ext_getElem (by simp) fun k k1 k2 => ?_
  simp only [List.getElem_set]
  by_cases a : j = k
  · subst a; simp
  · by_cases b : i = k
    · subst b; simp [a]
    · simp [a, b]
theorem turn_2 {f : Env → R (List D)} {i j : Nat} {y z : D} {e : Env} {zs : List D} (hi : i < e.s.length) (hj : j < e.s.length) (hij : i ≠ j) (h : f ((e.set i y).set j z) = .ok zs ((e.set i y).set j z)) : turnD (.tp [i, j]) f (.tup [y, z]) e = .ok zs e := by
  simp only [turnD, asgT, List.length_cons, List.length_nil, if_true, setAll, h, R.bind_ok, T.is, env_restore2 hi hj hij]
/-- [f x for x in xs], the names put back -/
theorem lc_map0 {t : T} {f : Env → R (List D)} {g : D → D} {xs : List D} {e : Env} (h : ∀ x ∈ xs, turnD t f x e = .ok [g x] e) : compL (turnD t f) xs e = .ok (xs.map g) e := by
  rw [compL_pure (g := fun x => [g x]) h]
  congr 1
  induction xs with
  | nil => rfl
  | cons x xs ih => simp only [List.flatMap_cons, List.map_cons, List.cons_append, List.nil_append, ih fun y hy => h y (List.mem_cons_of_mem _ hy)]
theorem lc_map {α : Type} {t : T} {f : Env → R (List D)} {F g : α → D} {l : List α} {e : Env} (h : ∀ a ∈ l, turnD t f (F a) e = .ok [g a] e) : compL (turnD t f) (l.map F) e = .ok (l.map g) e := by
  induction l with
  | nil => rfl
  | cons x l ih =>
    simp only [List.map_cons, compL, h x List.mem_cons_self, R.bind_ok, ih fun y hy => h y (List.mem_cons_of_mem _ hy)]
    rfl
theorem lc_filter {α : Type} {t : T} {f : Env → R (List D)} {F g : α → D} {p : α → Bool} {l : List α} {e : Env} (h : ∀ a ∈ l, turnD t f (F a) e = .ok (if p a = true then [g a] else []) e) : compL (turnD t f) (l.map F) e = .ok ((l.filter p).map g) e := by
  induction l with
  | nil => rfl
  | cons x l ih =>
    simp only [List.map_cons, compL, h x List.mem_cons_self, R.bind_ok, ih fun y hy => h y (List.mem_cons_of_mem _ hy)]
    by_cases hp : p x = true
    · rw [if_pos hp, List.filter_cons_of_pos hp]; rfl
    · rw [if_neg hp, List.filter_cons_of_neg hp]; rfl
/-- a for that goes through -/
theorem for_inv {t : T} {b : Env → RS} (P : Nat → Env → Prop) : ∀ {xs : List D} {k : Nat} {e : Env}, P k e → (∀ (i : Nat) (x : D) (e : Env), xs[i]? = some x → P (k + i) e → ∃ e1 e2, asgT t x e = some e1 ∧ (b e1 = .nx e2 ∨ b e1 = .ct e2) ∧ P (k + i + 1) e2) →
    ∃ e', forL t b xs e = .nx e' ∧ P (k + xs.length) e'
  | [], k, e, h0, _ => ⟨e, by simp [forL], by simpa using h0⟩
  | x :: xs, k, e, h0, h => by
    obtain ⟨e1, e2, h1, h2, h3⟩ := h 0 x e (by simp) (by simpa using h0)
    obtain ⟨e', g1, g2⟩ := for_inv (xs := xs) (k := k + 1) (e := e2) P (by simpa using h3) (fun i y e hy hp => by
      have := h (i + 1) y e (by simpa using hy) (by rw [show k + (i + 1) = k + 1 + i by omega]; exact hp)
      rw [show k + (i + 1) = k + 1 + i by omega] at this
      exact this)
    refine ⟨e', ?_, by rw [List.length_cons, show k + (xs.length + 1) = k + 1 + xs.length by omega]; exact g2⟩
    simp only [forL, h1]
    rcases h2 with h2 | h2 <;> simp only [h2, g1]
theorem ints_map (l : List Int) : ints? (l.map D.int) = some l := by
  induction l with
  | nil => rfl
  | cons x l ih => simp [ints?, ih]
theorem ixn_nat {n k : Nat} (h : k < n) : ixn n (k : Int) = some k := by
  unfold ixn
  rw [if_pos (by omega), if_pos (by omega)]; simp
theorem getI_nat {α : Type} {xs : List α} {k : Nat} (h : k < xs.length) : getI xs (k : Int) = some xs[k] := by
  unfold getI
  rw [ixn_nat h]
  simp [h]
@[simp] theorem ev_non {G : List D} {k : Oracle} {e : Env} : ev G k .non e = .ok .non e := by simp only [ev, evL, evT, evO, evP, ex, exs, hnd] <;> rfl
@[simp] theorem ev_bl {G : List D} {k : Oracle} {b : Bool} {e : Env} : ev G k (.bl b) e = .ok (.bl b) e := by simp only [ev, evL, evT, evO, evP, ex, exs, hnd] <;> rfl
@[simp] theorem ev_int {G : List D} {k : Oracle} {b : Int} {e : Env} : ev G k (.int b) e = .ok (.int b) e := by simp only [ev, evL, evT, evO, evP, ex, exs, hnd] <;> rfl
@[simp] theorem ev_str {G : List D} {k : Oracle} {b : Txt} {e : Env} : ev G k (.str b) e = .ok (.str b) e := by simp only [ev, evL, evT, evO, evP, ex, exs, hnd] <;> rfl
@[simp] theorem ev_v {G : List D} {k : Oracle} {i : Nat} {e : Env} : ev G k (.v i) e = R.lift (e.get i) e := by simp only [ev, evL, evT, evO, evP, ex, exs, hnd] <;> rfl
@[simp] theorem ev_mv {G : List D} {k : Oracle} {i : Nat} {e : Env} : ev G k (.mv i) e = R.lift (e.get i) e := by simp only [ev, evL, evT, evO, evP, ex, exs, hnd] <;> rfl
@[simp] theorem ev_pk {G : List D} {k : Oracle} {i : Nat} {e : Env} : ev G k (.pk i) e = R.lift (e.get i) e := by simp only [ev, evL, evT, evO, evP, ex, exs, hnd] <;> rfl
@[simp] theorem ev_io {G : List D} {k : Oracle} {i : Nat} {e : Env} : ev G k (.io i) e = R.lift (e.get i) e := by simp only [ev, evL, evT, evO, evP, ex, exs, hnd] <;> rfl
@[simp] theorem ev_bo {G : List D} {k : Oracle} {i : Nat} {e : Env} : ev G k (.bo i) e = R.lift (e.get i) e := by simp only [ev, evL, evT, evO, evP, ex, exs, hnd] <;> rfl
@[simp] theorem ev_gl {G : List D} {k : Oracle} {i : Nat} {e : Env} : ev G k (.gl i) e = R.lift (G[i]?) e := by simp only [ev, evL, evT, evO, evP, ex, exs, hnd] <;> rfl
@[simp] theorem ev_op {G : List D} {k : Oracle} {o : O2} {a b : C} {e : Env} : ev G k (.op o a b) e = (ev G k a e).bind fun x e1 => (ev G k b e1).bind fun y e2 => R.lift (op2 o x y) e2 := by simp only [ev, evL, evT, evO, evP, ex, exs, hnd] <;> rfl
@[simp] theorem ev_cat {G : List D} {k : Oracle} {a b : C} {e : Env} : ev G k (.cat a b) e = (ev G k a e).bind fun x e1 => (ev G k b e1).bind fun y e2 => R.lift (opCat x y) e2 := by simp only [ev, evL, evT, evO, evP, ex, exs, hnd] <;> rfl
@[simp] theorem ev_catT {G : List D} {k : Oracle} {a b : C} {e : Env} : ev G k (.catT a b) e = (ev G k a e).bind fun x e1 => (ev G k b e1).bind fun y e2 => R.lift (opCatT x y) e2 := by simp only [ev, evL, evT, evO, evP, ex, exs, hnd] <;> rfl
@[simp] theorem ev_rep {G : List D} {k : Oracle} {a b : C} {e : Env} : ev G k (.rep a b) e = (ev G k a e).bind fun x e1 => (ev G k b e1).bind fun y e2 => R.lift (opRep x y) e2 := by simp only [ev, evL, evT, evO, evP, ex, exs, hnd] <;> rfl
@[simp] theorem ev_neg {G : List D} {k : Oracle} {a : C} {e : Env} : ev G k (.neg a) e = (ev G k a e).bind fun x e1 => match x with | .int i => .ok (.int (-i)) e1 | _ => .bad := by simp only [ev, evL, evT, evO, evP, ex, exs, hnd] <;> rfl
@[simp] theorem ev_nt {G : List D} {k : Oracle} {a : C} {e : Env} : ev G k (.nt a) e = (ev G k a e).bind fun x e1 => R.lift ((truth x).map fun b => .bl (!b)) e1 := by simp only [ev, evL, evT, evO, evP, ex, exs, hnd] <;> rfl
@[simp] theorem ev_and {G : List D} {k : Oracle} {a b : C} {e : Env} : ev G k (.and a b) e = (ev G k a e).bind fun x e1 => match truth x with | some true => ev G k b e1 | some false => .ok x e1 | none => .bad := by simp only [ev, evL, evT, evO, evP, ex, exs, hnd] <;> rfl
@[simp] theorem ev_or {G : List D} {k : Oracle} {a b : C} {e : Env} : ev G k (.or a b) e = (ev G k a e).bind fun x e1 => match truth x with | some true => .ok x e1 | some false => ev G k b e1 | none => .bad := by simp only [ev, evL, evT, evO, evP, ex, exs, hnd] <;> rfl
@[simp] theorem ev_cmp {G : List D} {k : Oracle} {o : Cp} {a b : C} {e : Env} : ev G k (.cmp o a b) e = (ev G k a e).bind fun x e1 => (ev G k b e1).bind fun y e2 => R.lift ((cp o x y).map .bl) e2 := by simp only [ev, evL, evT, evO, evP, ex, exs, hnd] <;> rfl
@[simp] theorem ev_ife {G : List D} {k : Oracle} {c a b : C} {e : Env} : ev G k (.ife c a b) e = (ev G k c e).bind fun x e1 => match truth x with | some true => ev G k a e1 | some false => ev G k b e1 | none => .bad := by simp only [ev, evL, evT, evO, evP, ex, exs, hnd] <;> rfl
@[simp] theorem ev_call {G : List D} {k : Oracle} {f : Nat} {as : List C} {e : Env} : ev G k (.call f as) e = (evL G k as e).bind fun xs e1 => callR k f as xs e1 := by simp only [ev, evL, evT, evO, evP, ex, exs, hnd] <;> rfl
@[simp] theorem ev_bi {G : List D} {k : Oracle} {f : B1} {as : List C} {e : Env} : ev G k (.bi f as) e = (evL G k as e).bind fun xs e1 => R.lift (b1 f xs) e1 := by simp only [ev, evL, evT, evO, evP, ex, exs, hnd] <;> rfl
@[simp] theorem ev_ix {G : List D} {k : Oracle} {a i : C} {e : Env} : ev G k (.ix a i) e = (ev G k a e).bind fun x e1 => (ev G k i e1).bind fun y e2 => R.lift (opIx x y) e2 := by simp only [ev, evL, evT, evO, evP, ex, exs, hnd] <;> rfl
@[simp] theorem ev_sl {G : List D} {k : Oracle} {a : C} {lo hi : Option C} {e : Env} : ev G k (.sl a lo hi) e = (ev G k a e).bind fun x e1 => (evO G k lo e1).bind fun l e2 => (evO G k hi e2).bind fun h e3 => R.lift (opSl l h x) e3 := by simp only [ev, evL, evT, evO, evP, ex, exs, hnd] <;> rfl
@[simp] theorem ev_slT {G : List D} {k : Oracle} {a : C} {lo hi : Option C} {e : Env} : ev G k (.slT a lo hi) e = (ev G k a e).bind fun x e1 => (evO G k lo e1).bind fun l e2 => (evO G k hi e2).bind fun h e3 => R.lift (opSlT l h x) e3 := by simp only [ev, evL, evT, evO, evP, ex, exs, hnd] <;> rfl
@[simp] theorem ev_lst {G : List D} {k : Oracle} {as : List C} {e : Env} : ev G k (.lst as) e = (evL G k as e).bind fun xs e1 => .ok (.lst xs) e1 := by simp only [ev, evL, evT, evO, evP, ex, exs, hnd] <;> rfl
@[simp] theorem ev_tup {G : List D} {k : Oracle} {as : List C} {e : Env} : ev G k (.tup as) e = (evL G k as e).bind fun xs e1 => .ok (.tup xs) e1 := by simp only [ev, evL, evT, evO, evP, ex, exs, hnd] <;> rfl
@[simp] theorem ev_rg {G : List D} {k : Oracle} {a : C} {e : Env} : ev G k (.rg a) e = (ev G k a e).bind fun x e1 => R.lift (rgD x) e1 := by simp only [ev, evL, evT, evO, evP, ex, exs, hnd] <;> rfl
@[simp] theorem ev_rg2 {G : List D} {k : Oracle} {a b : C} {e : Env} : ev G k (.rg2 a b) e = (ev G k a e).bind fun x e1 => (ev G k b e1).bind fun y e2 => R.lift (rg2D x y) e2 := by simp only [ev, evL, evT, evO, evP, ex, exs, hnd] <;> rfl
@[simp] theorem ev_en {G : List D} {k : Oracle} {a : C} {e : Env} : ev G k (.en a) e = (ev G k a e).bind fun x e1 => R.lift ((items x).map fun xs => .itr (enumD 0 xs)) e1 := by simp only [ev, evL, evT, evO, evP, ex, exs, hnd] <;> rfl
@[simp] theorem ev_zp {G : List D} {k : Oracle} {a b : C} {e : Env} : ev G k (.zp a b) e = (ev G k a e).bind fun x e1 => (ev G k b e1).bind fun y e2 => R.lift ((items x).bind fun xs => (items y).map fun ys => .itr (zipD xs ys)) e2 := by simp only [ev, evL, evT, evO, evP, ex, exs, hnd] <;> rfl
@[simp] theorem ev_lc {G : List D} {k : Oracle} {x it : C} {t : T} {cs : List C} {env : Env} : ev G k (.lc x t it cs) env = (ev G k it env).bind fun x1 e1 => match items x1 with | none => .bad | some xs => (compL (turnD t fun e3 => (evT G k cs e3).bind fun b e4 => if b = true then (ev G k x e4).bind fun z e5 => .ok [z] e5 else .ok [] e4) xs e1).nox.bind fun zs e6 => R.lift (guardL zs.length (.lst zs)) e6 := by simp only [ev, evL, evT, evO, evP, ex, exs, hnd] <;> rfl
@[simp] theorem ev_fl {G : List D} {k : Oracle} {a : C} {e : Env} : ev G k (.fl a) e = (ev G k a e).bind fun x e1 => if flat x = true then .ok x e1 else .bad := by simp only [ev, evL, evT, evO, evP, ex, exs, hnd] <;> rfl
@[simp] theorem evL_nil {G : List D} {k : Oracle} {e : Env} : evL G k [] e = .ok [] e := by simp only [ev, evL, evT, evO, evP, ex, exs, hnd] <;> rfl
@[simp] theorem evL_cons {G : List D} {k : Oracle} {a : C} {as : List C} {e : Env} : evL G k (a :: as) e = (ev G k a e).bind fun x e1 => (evL G k as e1).bind fun xs e2 => .ok (x :: xs) e2 := by simp only [ev, evL, evT, evO, evP, ex, exs, hnd] <;> rfl
@[simp] theorem evT_nil {G : List D} {k : Oracle} {e : Env} : evT G k [] e = .ok true e := by simp only [ev, evL, evT, evO, evP, ex, exs, hnd] <;> rfl
@[simp] theorem evT_cons {G : List D} {k : Oracle} {a : C} {as : List C} {e : Env} : evT G k (a :: as) e = (ev G k a e).bind fun x e1 => match truth x with | some true => evT G k as e1 | some false => .ok false e1 | none => .bad := by simp only [ev, evL, evT, evO, evP, ex, exs, hnd] <;> rfl
@[simp] theorem evO_none {G : List D} {k : Oracle} {e : Env} : evO G k none e = .ok none e := by simp only [ev, evL, evT, evO, evP, ex, exs, hnd] <;> rfl
@[simp] theorem evO_some {G : List D} {k : Oracle} {a : C} {e : Env} : evO G k (some a) e = (ev G k a e).bind fun x e1 => R.lift (optI x) e1 := by simp only [ev, evL, evT, evO, evP, ex, exs, hnd] <;> rfl
@[simp] theorem evP_pk {G : List D} {k : Oracle} {x : Nat} {e : Env} : evP G k (.pk x) e = .ok (x, []) e := by simp only [ev, evL, evT, evO, evP, ex, exs, hnd] <;> rfl
@[simp] theorem evP_ix {G : List D} {k : Oracle} {p i : C} {e : Env} : evP G k (.ix p i) e = (evP G k p e).bind fun ps e1 => (ev G k i e1).nox.bind fun j e2 => .ok (ps.1, ps.2 ++ [j]) { e2 with s := e1.s } := by simp only [ev, evL, evT, evO, evP, ex, exs, hnd] <;> rfl
@[simp] theorem ex_pass {G : List D} {k : Oracle} {sub : Nat → Nat → Bool} {e : Env} : ex G k sub .pass e = .nx e := by simp only [ev, evL, evT, evO, evP, ex, exs, hnd] <;> rfl
@[simp] theorem ex_brk {G : List D} {k : Oracle} {sub : Nat → Nat → Bool} {e : Env} : ex G k sub .brk e = .bk e := by simp only [ev, evL, evT, evO, evP, ex, exs, hnd] <;> rfl
@[simp] theorem ex_ct {G : List D} {k : Oracle} {sub : Nat → Nat → Bool} {e : Env} : ex G k sub .ct e = .ct e := by simp only [ev, evL, evT, evO, evP, ex, exs, hnd] <;> rfl
@[simp] theorem ex_asg {G : List D} {k : Oracle} {sub : Nat → Nat → Bool} {t : T} {a : C} {e : Env} : ex G k sub (.asg t a) e = (ev G k a e).st fun x e1 => match asgT t x e1 with | some e2 => .nx e2 | none => .bad := by simp only [ev, evL, evT, evO, evP, ex, exs, hnd] <;> rfl
@[simp] theorem ex_aug {G : List D} {k : Oracle} {sub : Nat → Nat → Bool} {i : Nat} {o : O2} {a : C} {e : Env} : ex G k sub (.aug i o a) e = match e.get i with | none => .bad | some x => (ev G k a e).st fun y e1 => match op2i o x y with | some z => .nx (e1.set i z) | none => .bad := by simp only [ev, evL, evT, evO, evP, ex, exs, hnd] <;> rfl
@[simp] theorem ex_six {G : List D} {k : Oracle} {sub : Nat → Nat → Bool} {p i a : C} {e : Env} : ex G k sub (.six p i a) e = (ev G k a e).st fun v e1 => (evP G k p e1).st fun ps e2 => match (e2.get ps.1).bind (getP ps.2) with | some (.lst _) => (ev G k i e2).st fun i e3 => chg ps.1 ps.2 (setIx i v) e3 | _ => .bad := by simp only [ev, evL, evT, evO, evP, ex, exs, hnd] <;> rfl
@[simp] theorem ex_app {G : List D} {k : Oracle} {sub : Nat → Nat → Bool} {p a : C} {e : Env} : ex G k sub (.app p a) e = (evP G k p e).st fun ps e1 => match (e1.get ps.1).bind (getP ps.2) with | some (.lst _) => (ev G k a e1).st fun v e2 => chg ps.1 ps.2 (appD v) e2 | _ => .bad := by simp only [ev, evL, evT, evO, evP, ex, exs, hnd] <;> rfl
@[simp] theorem ex_ext {G : List D} {k : Oracle} {sub : Nat → Nat → Bool} {p a : C} {e : Env} : ex G k sub (.ext p a) e = (evP G k p e).st fun ps e1 => match (e1.get ps.1).bind (getP ps.2) with | some (.lst _) => (ev G k a e1).st fun v e2 => chg ps.1 ps.2 (extD v) e2 | _ => .bad := by simp only [ev, evL, evT, evO, evP, ex, exs, hnd] <;> rfl
@[simp] theorem ex_ex {G : List D} {k : Oracle} {sub : Nat → Nat → Bool} {a : C} {e : Env} : ex G k sub (.ex a) e = (ev G k a e).st fun _ e1 => .nx e1 := by simp only [ev, evL, evT, evO, evP, ex, exs, hnd] <;> rfl
@[simp] theorem ex_ite {G : List D} {k : Oracle} {sub : Nat → Nat → Bool} {c : C} {a b : List S} {e : Env} : ex G k sub (.ite c a b) e = (ev G k c e).st fun x e1 => match truth x with | some true => exs G k sub a e1 | some false => exs G k sub b e1 | none => .bad := by simp only [ev, evL, evT, evO, evP, ex, exs, hnd] <;> rfl
@[simp] theorem ex_fr {G : List D} {k : Oracle} {sub : Nat → Nat → Bool} {t : T} {it : C} {b : List S} {e : Env} : ex G k sub (.fr t it b) e = (ev G k it e).st fun x e1 => match items x with | none => .bad | some xs => forL t (exs G k sub b) xs e1 := by simp only [ev, evL, evT, evO, evP, ex, exs, hnd] <;> rfl
@[simp] theorem ex_wl {G : List D} {k : Oracle} {sub : Nat → Nat → Bool} {c : C} {b : List S} {e : Env} : ex G k sub (.wl c b) e = whL (ev G k c) (exs G k sub b) BIG e := by simp only [ev, evL, evT, evO, evP, ex, exs, hnd] <;> rfl
@[simp] theorem ex_ret {G : List D} {k : Oracle} {sub : Nat → Nat → Bool} {a : C} {e : Env} : ex G k sub (.ret a) e = (ev G k a e).st fun x e1 => .rt x e1 := by simp only [ev, evL, evT, evO, evP, ex, exs, hnd] <;> rfl
@[simp] theorem ex_retN {G : List D} {k : Oracle} {sub : Nat → Nat → Bool} {e : Env} : ex G k sub .retN e = .rt .non e := by simp only [ev, evL, evT, evO, evP, ex, exs, hnd] <;> rfl
@[simp] theorem exs_nil {G : List D} {k : Oracle} {sub : Nat → Nat → Bool} {e : Env} : exs G k sub [] e = .nx e := by simp only [ev, evL, evT, evO, evP, ex, exs, hnd] <;> rfl
@[simp] theorem exs_cons {G : List D} {k : Oracle} {sub : Nat → Nat → Bool} {a : S} {as : List S} {e : Env} : exs G k sub (a :: as) e = (ex G k sub a e).seq (exs G k sub as) := by simp only [ev, evL, evT, evO, evP, ex, exs, hnd] <;> rfl
@[simp] theorem get_mk {s : List D} {o : List Ob} {i : Nat} : Env.get ⟨s, o⟩ i = s[i]? := rfl
@[simp] theorem set_mk {s : List D} {o : List Ob} {i : Nat} {d : D} : Env.set ⟨s, o⟩ i d = ⟨s.set i d, o⟩ := rfl
@[simp] theorem asg_n {i : Nat} {d : D} {e : Env} : asgT (.n i) d e = some (e.set i d) := rfl
@[simp] theorem asg_2 {i j : Nat} {x y : D} {e : Env} : asgT (.tp [i, j]) (.tup [x, y]) e = some ((e.set i x).set j y) := rfl
@[simp] theorem truth_bl {b : Bool} : truth (.bl b) = some b := rfl
@[simp] theorem items_lst {xs : List D} : items (.lst xs) = some xs := rfl
@[simp] theorem items_tup {xs : List D} : items (.tup xs) = some xs := rfl
@[simp] theorem items_itr {xs : List D} : items (.itr xs) = some xs := rfl
@[simp] theorem op_add_i {x y : Int} : op2 .add (.int x) (.int y) = some (.int (x + y)) := rfl
@[simp] theorem op_sub_i {x y : Int} : op2 .sub (.int x) (.int y) = some (.int (x - y)) := rfl
@[simp] theorem op_mod_i {x y : Int} (h : y ≠ 0) : op2 .mod (.int x) (.int y) = some (.int (x.fmod y)) := by simp [op2, opMod, h]
theorem op_div_i {x y : Int} (h : y ≠ 0) (h2 : y.natAbs < 1073741824) : op2 .fdiv (.int x) (.int y) = some (.int (x.fdiv y)) := by simp [op2, opDiv, h, h2]
theorem op_mul_l {x y : Int} (h : x.natAbs < 2 ^ 64) : op2 .mul (.int x) (.int y) = some (.int (x * y)) := by
  have : decide (x.natAbs < 2 ^ 64) = true := decide_eq_true h
  simp only [op2, opMul, mulOk, this, Bool.true_or, if_true]
theorem op_mul_r {x y : Int} (h : y.natAbs < 2 ^ 64) : op2 .mul (.int x) (.int y) = some (.int (x * y)) := by
  have : decide (y.natAbs < 2 ^ 64) = true := decide_eq_true h
  simp only [op2, opMul, mulOk, this, Bool.true_or, Bool.or_true, if_true]
@[simp] theorem cp_lt_i {x y : Int} : cp .lt (.int x) (.int y) = some (decide (x < y)) := rfl
@[simp] theorem cp_le_i {x y : Int} : cp .le (.int x) (.int y) = some (decide (x ≤ y)) := rfl
@[simp] theorem cp_gt_i {x y : Int} : cp .gt (.int x) (.int y) = some (decide (y < x)) := rfl
@[simp] theorem cp_ge_i {x y : Int} : cp .ge (.int x) (.int y) = some (decide (y ≤ x)) := rfl
@[simp] theorem cp_eq_i {x y : Int} : cp .eq (.int x) (.int y) = some (x == y) := rfl
@[simp] theorem cp_ne_i {x y : Int} : cp .ne (.int x) (.int y) = some (!(x == y)) := rfl
@[simp] theorem cp_eq_s {x y : Txt} : cp .eq (.str x) (.str y) = some (x == y) := rfl
@[simp] theorem cp_ne_s {x y : Txt} : cp .ne (.str x) (.str y) = some (!(x == y)) := rfl
@[simp] theorem len_l {xs : List D} : b1 .len [.lst xs] = some (.int xs.length) := rfl
@[simp] theorem len_t {xs : List D} : b1 .len [.tup xs] = some (.int xs.length) := rfl
@[simp] theorem abs_i {x : Int} : b1 .abs [.int x] = some (.int (if x < 0 then -x else x)) := rfl
@[simp] theorem int_i {x : Int} : b1 .int [.int x] = some (.int x) := rfl
@[simp] theorem sum_l {l : List Int} : b1 .sum [.lst (l.map .int)] = some (.int l.sum) := by simp [b1, ints_map]
@[simp] theorem list_l {xs : List D} : b1 .list [.lst xs] = some (.lst xs) := rfl
@[simp] theorem list_t {xs : List D} : b1 .list [.tup xs] = some (.lst xs) := rfl
@[simp] theorem tuple_l {xs : List D} : b1 .tuple [.lst xs] = some (.tup xs) := rfl
@[simp] theorem tuple_t {xs : List D} : b1 .tuple [.tup xs] = some (.tup xs) := rfl
@[simp] theorem flat_i {x : Int} : flat (.int x) = true := rfl
@[simp] theorem flat_b {x : Bool} : flat (.bl x) = true := rfl
@[simp] theorem flat_s {x : Txt} : flat (.str x) = true := rfl
@[simp] theorem ix_l {xs : List D} {i : Int} : opIx (.lst xs) (.int i) = getI xs i := rfl
@[simp] theorem ix_t {xs : List D} {i : Int} : opIx (.tup xs) (.int i) = getI xs i := rfl
@[simp] theorem getP_nil {d : D} : getP [] d = some d := by simp [getP]
@[simp] theorem ends_rt {fn : Fn} {d : D} {e : Env} (h : fn.io = []) : ends fn (.rt d e) = .ok d [] e.o := by simp [ends, h, outsOf]
@[simp] theorem ends_nx {fn : Fn} {e : Env} (h : fn.io = []) : ends fn (.nx e) = .ok .non [] e.o := by simp [ends, h, outsOf]
@[simp] theorem putBack_nil {as : List C} {e : Env} : putBack as [] e = e := by
  induction as generalizing e with
  | nil => simp [putBack]
  | cons a as ih => cases a <;> simp only [putBack, ih]
theorem callR_ok {k : Oracle} {f : Nat} {as : List C} {xs : List D} {e : Env} {r : D} {o : List Ob} (h : k f xs e.o = .ok r [] o) : callR k f as xs e = .ok r { e with o := o } := by
  unfold callR; rw [h]; simp
theorem guardL_le {α : Type} {n : Nat} {a : α} (h : n ≤ LIM) : guardL n a = some a := if_pos h
theorem lim_of {n : Nat} (h : n ≤ 100000) : n ≤ LIM := Nat.le_trans h (by decide)
@[simp] theorem isInt_n : b1 .isInt [D.non] = some (.bl false) := rfl
@[simp] theorem isInt_b {x : Bool} : b1 .isInt [(D.bl x)] = some (.bl true) := rfl
@[simp] theorem isInt_i {x : Int} : b1 .isInt [(D.int x)] = some (.bl true) := rfl
@[simp] theorem isInt_s {x : Txt} : b1 .isInt [(D.str x)] = some (.bl false) := rfl
@[simp] theorem isInt_l {x : List D} : b1 .isInt [(D.lst x)] = some (.bl false) := rfl
@[simp] theorem isInt_t {x : List D} : b1 .isInt [(D.tup x)] = some (.bl false) := rfl
@[simp] theorem isBool_n : b1 .isBool [D.non] = some (.bl false) := rfl
@[simp] theorem isBool_b {x : Bool} : b1 .isBool [(D.bl x)] = some (.bl true) := rfl
@[simp] theorem isBool_i {x : Int} : b1 .isBool [(D.int x)] = some (.bl false) := rfl
@[simp] theorem isBool_s {x : Txt} : b1 .isBool [(D.str x)] = some (.bl false) := rfl
@[simp] theorem isBool_l {x : List D} : b1 .isBool [(D.lst x)] = some (.bl false) := rfl
@[simp] theorem isBool_t {x : List D} : b1 .isBool [(D.tup x)] = some (.bl false) := rfl
@[simp] theorem isStr_n : b1 .isStr [D.non] = some (.bl false) := rfl
@[simp] theorem isStr_b {x : Bool} : b1 .isStr [(D.bl x)] = some (.bl false) := rfl
@[simp] theorem isStr_i {x : Int} : b1 .isStr [(D.int x)] = some (.bl false) := rfl
@[simp] theorem isStr_s {x : Txt} : b1 .isStr [(D.str x)] = some (.bl true) := rfl
@[simp] theorem isStr_l {x : List D} : b1 .isStr [(D.lst x)] = some (.bl false) := rfl
@[simp] theorem isStr_t {x : List D} : b1 .isStr [(D.tup x)] = some (.bl false) := rfl
@[simp] theorem isList_n : b1 .isList [D.non] = some (.bl false) := rfl
@[simp] theorem isList_b {x : Bool} : b1 .isList [(D.bl x)] = some (.bl false) := rfl
@[simp] theorem isList_i {x : Int} : b1 .isList [(D.int x)] = some (.bl false) := rfl
@[simp] theorem isList_s {x : Txt} : b1 .isList [(D.str x)] = some (.bl false) := rfl
@[simp] theorem isList_l {x : List D} : b1 .isList [(D.lst x)] = some (.bl true) := rfl
@[simp] theorem isList_t {x : List D} : b1 .isList [(D.tup x)] = some (.bl false) := rfl
@[simp] theorem isTuple_n : b1 .isTuple [D.non] = some (.bl false) := rfl
@[simp] theorem isTuple_b {x : Bool} : b1 .isTuple [(D.bl x)] = some (.bl false) := rfl
@[simp] theorem isTuple_i {x : Int} : b1 .isTuple [(D.int x)] = some (.bl false) := rfl
@[simp] theorem isTuple_s {x : Txt} : b1 .isTuple [(D.str x)] = some (.bl false) := rfl
@[simp] theorem isTuple_l {x : List D} : b1 .isTuple [(D.lst x)] = some (.bl false) := rfl
@[simp] theorem isTuple_t {x : List D} : b1 .isTuple [(D.tup x)] = some (.bl true) := rfl
@[simp] theorem is_non_n : cp .is D.non .non = some true := rfl
@[simp] theorem isn_non_n : cp .isn D.non .non = some false := rfl
@[simp] theorem is_non_b {x : Bool} : cp .is (D.bl x) .non = some false := rfl
@[simp] theorem isn_non_b {x : Bool} : cp .isn (D.bl x) .non = some true := rfl
@[simp] theorem is_non_i {x : Int} : cp .is (D.int x) .non = some false := rfl
@[simp] theorem isn_non_i {x : Int} : cp .isn (D.int x) .non = some true := rfl
@[simp] theorem is_non_s {x : Txt} : cp .is (D.str x) .non = some false := rfl
@[simp] theorem isn_non_s {x : Txt} : cp .isn (D.str x) .non = some true := rfl
@[simp] theorem is_non_l {x : List D} : cp .is (D.lst x) .non = some false := rfl
@[simp] theorem isn_non_l {x : List D} : cp .isn (D.lst x) .non = some true := rfl
@[simp] theorem is_non_t {x : List D} : cp .is (D.tup x) .non = some false := rfl
@[simp] theorem isn_non_t {x : List D} : cp .isn (D.tup x) .non = some true := rfl
@[simp] theorem is_bl {x y : Bool} : cp .is (.bl x) (.bl y) = some (x == y) := rfl
@[simp] theorem cp_ne_b {x y : Bool} : cp .ne (.bl x) (.bl y) = some (!(x == y)) := rfl
@[simp] theorem cp_eq_b {x y : Bool} : cp .eq (.bl x) (.bl y) = some (x == y) := rfl
end Z

/-! Z27: more on how the evaluator computes. Plain Lean. -/
namespace Z
/-- a for that goes through, item by item -/
theorem for_run {α : Type} {t : T} {b : Env → RS} {F : α → D} (P : List α → Env → Prop) : ∀ {l pre : List α} {e : Env}, P pre e → (∀ pre a e, P pre e → a ∈ l → ∃ e1 e2, asgT t (F a) e = some e1 ∧ b e1 = .nx e2 ∧ P (pre ++ [a]) e2) →
    ∃ e', forL t b (l.map F) e = .nx e' ∧ P (pre ++ l) e'
  | [], pre, e, h0, _ => ⟨e, by simp [forL], by simpa using h0⟩
  | a :: l, pre, e, h0, h => by
    obtain ⟨e1, e2, h1, h2, h3⟩ := h pre a e h0 List.mem_cons_self
    obtain ⟨e', g1, g2⟩ := for_run P h3 fun pre y e hp hy => h pre y e hp (List.mem_cons_of_mem _ hy)
    exact ⟨e', by simp only [List.map_cons, forL, h1, h2, g1], by simpa using g2⟩
theorem for_runN {α : Type} {t : T} {b : Env → RS} {F : α → D} {N : Nat} (P : List α → Env → Prop) : ∀ {l pre : List α} {e : Env}, P pre e → pre.length + l.length ≤ N → (∀ pre a e, P pre e → a ∈ l → pre.length < N → ∃ e1 e2, asgT t (F a) e = some e1 ∧ b e1 = .nx e2 ∧ P (pre ++ [a]) e2) →
    ∃ e', forL t b (l.map F) e = .nx e' ∧ P (pre ++ l) e'
  | [], pre, e, h0, _, _ => ⟨e, by simp [forL], by simpa using h0⟩
  | a :: l, pre, e, h0, hN, h => by
    simp only [List.length_cons] at hN
    obtain ⟨e1, e2, h1, h2, h3⟩ := h pre a e h0 List.mem_cons_self (by omega)
    obtain ⟨e', g1, g2⟩ := for_runN P h3 (by simp only [List.length_append, List.length_cons, List.length_nil]; omega) fun pre y e hp hy => h pre y e hp (List.mem_cons_of_mem _ hy)
    exact ⟨e', by simp only [List.map_cons, forL, h1, h2, g1], by simpa using g2⟩
/-- a for that goes through or hands back r at the first item that fails -/
theorem for_chk {α : Type} {t : T} {b : Env → RS} {F : α → D} {chk : α → Bool} {o : List Ob} {r : D} (P : List α → Env → Prop) : ∀ {l pre : List α} {e : Env}, P pre e →
    (∀ pre a e, P pre e → a ∈ l → ∃ e1, asgT t (F a) e = some e1 ∧ (chk a = true → ∃ e2, b e1 = .nx e2 ∧ P (pre ++ [a]) e2) ∧ (chk a = false → ∃ e2, b e1 = .rt r e2 ∧ e2.o = o)) →
    (l.all chk = true ∧ ∃ e', forL t b (l.map F) e = .nx e' ∧ P (pre ++ l) e') ∨ (l.all chk = false ∧ ∃ e', forL t b (l.map F) e = .rt r e' ∧ e'.o = o)
  | [], pre, e, h0, _ => .inl ⟨rfl, e, by simp [forL], by simpa using h0⟩
  | a :: l, pre, e, h0, h => by
    obtain ⟨e1, h1, h2, h3⟩ := h pre a e h0 List.mem_cons_self
    cases hc : chk a with
    | false =>
      obtain ⟨e2, g1, g2⟩ := h3 hc
      exact .inr ⟨by simp [hc], e2, by simp only [List.map_cons, forL, h1, g1], g2⟩
    | true =>
      obtain ⟨e2, g1, g2⟩ := h2 hc
      rcases for_chk P g2 fun pre y e hp hy => h pre y e hp (List.mem_cons_of_mem _ hy) with ⟨k1, e', k2, k3⟩ | ⟨k1, e', k2, k3⟩
      · exact .inl ⟨by simp [hc, k1], e', by simp only [List.map_cons, forL, h1, g1, k2], by simpa using k3⟩
      · exact .inr ⟨by simp [k1], e', by simp only [List.map_cons, forL, h1, g1, k2], k3⟩
theorem app_ok {i : Nat} {s : List D} {o : List Ob} {xs : List D} {v : D} (h : s[i]? = some (.lst xs)) (hl : xs.length < LIM) : chg i [] (appD v) ⟨s, o⟩ = .nx ⟨s.set i (.lst (xs ++ [v])), o⟩ := by
  simp [chg, h, updAt, appD, hl]
theorem six_ok {i : Nat} {s : List D} {o : List Ob} {xs : List D} {v : D} {j : Int} (h : s[i]? = some (.lst xs)) (h0 : 0 ≤ j) (hl : j < xs.length) : chg i [] (setIx (.int j) v) ⟨s, o⟩ = .nx ⟨s.set i (.lst (xs.set j.toNat v)), o⟩ := by
  have : ixn xs.length j = some j.toNat := by
    have := ixn_nat (n := xs.length) (k := j.toNat) (by omega)
    rwa [show ((j.toNat : Nat) : Int) = j by omega] at this
  simp [chg, h, updAt, setIx, this]
theorem rg_ok {n : Int} (h : n ≤ 100000) (h0 : 0 ≤ n) : rgD (.int n) = some (.itr (rangeD 0 n.toNat)) := by
  have : n ≤ (LIM : Int) ∧ -(LIM : Int) ≤ n := by unfold LIM; omega
  simp only [rgD, if_pos this]
theorem rg_nat {n : Nat} (h : n ≤ 100000) : rgD (.int (n : Int)) = some (.itr ((List.range n).map fun (k : Nat) => D.int (k : Int))) := by
  rw [rg_ok (by omega) (by omega)]; simp [rangeD]
theorem rangeD_get {lo : Int} {n i : Nat} {x : D} (h : (rangeD lo n)[i]? = some x) : x = .int (lo + (i : Nat)) ∧ i < n := by
  unfold rangeD at h
  rw [List.getElem?_map, Option.map_eq_some_iff] at h
  obtain ⟨j, hj, rfl⟩ := h
  obtain ⟨h1, h2⟩ := List.getElem?_eq_some_iff.mp hj
  simp at h1 h2
  subst h2
  exact ⟨rfl, h1⟩
theorem get_nat {α : Type} {F : α → D} {l : List α} {k : Nat} {d : α} (h : k < l.length) : getI (l.map F) (k : Int) = some (F (l.getD k d)) := by
  have := getI_nat (xs := l.map F) (k := k) (by simpa using h)
  rw [this]; simp [h]
theorem get_Int {α : Type} {F : α → D} {l : List α} {j : Int} {d : α} (h0 : 0 ≤ j) (h : j < l.length) : getI (l.map F) j = some (F (l.getD j.toNat d)) := by
  have := get_nat (F := F) (l := l) (k := j.toNat) (d := d) (by omega)
  rwa [show ((j.toNat : Nat) : Int) = j by omega] at this
theorem pow18 : op2 .pow (.int 10) (.int 18) = some (.int 1000000000000000000) := by
  have h : (0 : Int) ≤ 18 ∧ (18 : Int) ≤ 1000000 ∧ (10 : Int).natAbs < 2 ^ 64 := by decide
  simp only [op2, opPow, if_pos h]; rfl
theorem cut_map {α : Type} {F : α → D} (l : List α) (lo hi : Option Int) : cut (l.map F) lo hi = (cut l lo hi).map F := by
  simp [cut, List.map_drop, List.map_take]
theorem cut_take {α : Type} {l : List α} {k : Int} (h0 : 0 ≤ k) : cut l none (some k) = l.take k.toNat := by
  have : ¬ k < 0 := by omega
  simp only [cut, sIx, if_neg this, List.drop_zero, Nat.sub_zero]
  rw [← List.take_take, List.take_length]
theorem cut_drop {α : Type} {l : List α} {k : Int} (h0 : 0 ≤ k) : cut l (some k) none = l.drop k.toNat := by
  have : ¬ k < 0 := by omega
  simp only [cut, sIx, if_neg this]
  rcases Nat.le_total k.toNat l.length with h | h
  · rw [Nat.min_eq_left h, List.take_of_length_le (by simp)]
  · rw [Nat.min_eq_right h, List.drop_eq_nil_of_le h]; simp
@[simp] theorem opSlT_l {lo hi : Option Int} {xs : List D} : opSlT lo hi (.lst xs) = some (.lst (cut xs lo hi)) := rfl
@[simp] theorem opSlT_t {lo hi : Option Int} {xs : List D} : opSlT lo hi (.tup xs) = some (.tup (cut xs lo hi)) := rfl
@[simp] theorem optI_i {i : Int} : optI (.int i) = some (some i) := rfl
theorem cat_ok {a b : List D} (h : a.length + b.length ≤ 100000) : opCat (.lst a) (.lst b) = some (.lst (a ++ b)) := guardL_le (lim_of h)
theorem catT_t {a b : List D} (h : a.length + b.length ≤ 100000) : opCatT (.tup a) (.tup b) = some (.tup (a ++ b)) := guardL_le (lim_of h)
theorem zip_range {α β : Type} {a : List α} {b : List β} (da : α) (db : β) (h : b.length = a.length) : List.zip a b = (List.range a.length).map fun k => (a.getD k da, b.getD k db) := by
  refine List.ext_getElem (by simp; omega) fun i h1 h2 => ?_
  have ha : i < a.length := by simpa using h2
  have hb : i < b.length := by omega
  simp [ha, hb]
theorem zip_map {α β : Type} {F : α → D} {G : β → D} : ∀ (a : List α) (b : List β), zipD (a.map F) (b.map G) = (List.zip a b).map fun p => D.tup [F p.1, G p.2]
  | [], b => by simp [zipD]
  | _ :: _, [] => by simp [zipD]
  | x :: a, y :: b => by simp [zipD, zip_map a b]
theorem mod_rng {x m : Int} (h : 0 < m) : 0 ≤ x.fmod m ∧ x.fmod m < m := ⟨Int.fmod_nonneg_of_pos x h, Int.fmod_lt_of_pos x h⟩
theorem cut_mid {α : Type} {l : List α} {a b : Nat} (h : a ≤ b) (hb : b ≤ l.length) : cut l (some (a : Int)) (some (b : Int)) = (l.drop a).take (b - a) := by
  have h1 : ¬ (a : Int) < 0 := by omega
  have h2 : ¬ (b : Int) < 0 := by omega
  simp only [cut, sIx, if_neg h1, if_neg h2, Int.toNat_natCast, Nat.min_eq_left hb, Nat.min_eq_left (Nat.le_trans h hb)]
theorem exs_app {G : List D} {k : Oracle} {sub : Nat → Nat → Bool} : ∀ {a b : List S} {e : Env}, exs G k sub (a ++ b) e = (exs G k sub a e).seq (exs G k sub b)
  | [], b, e => by simp
  | x :: a, b, e => by
    rw [List.cons_append, exs_cons, exs_cons]
    cases h : ex G k sub x e <;> simp only [RS.seq_nx, RS.seq_bk, RS.seq_ct, RS.seq_rt, RS.seq_exc, RS.seq_bad]
    exact exs_app
theorem exs_one {G : List D} {k : Oracle} {sub : Nat → Nat → Bool} {a : S} {e : Env} : exs G k sub [a] e = ex G k sub a e := by
  rw [exs_cons]
  cases h : ex G k sub a e <;> simp
theorem callFn_eq {P : Prog} {k : Oracle} {fn : Fn} {args : List D} {o : List Ob} (h : args.length = fn.np) : callFn P k fn args o = ends fn (exs P.gl k P.sub fn.body ⟨args ++ List.replicate (fn.ns - fn.np) .non, o⟩) := if_pos h
theorem fmod_nat (x : Int) {m : Nat} (h : 0 < m) : ∃ c : Nat, x.fmod (m : Int) = (c : Int) ∧ c < m := by
  obtain ⟨h1, h2⟩ := mod_rng (x := x) (m := (m : Int)) (by omega)
  exact ⟨(x.fmod m).toNat, by omega, by omega⟩
/-! comprehensions -/
theorem evv {G : List D} {k : Oracle} {i : Nat} {e : Env} {d : D} (h : e.s[i]? = some d) : ev G k (.v i) e = .ok d e := by
  have : e.get i = some d := h
  rw [ev_v, this, R.lift_some]
theorem evpk {G : List D} {k : Oracle} {i : Nat} {e : Env} {d : D} (h : e.s[i]? = some d) : ev G k (.pk i) e = .ok d e := by
  have : e.get i = some d := h
  rw [ev_pk, this, R.lift_some]
/-- range of a local -/
theorem evrg {G : List D} {k : Oracle} {i n : Nat} {e : Env} (h : e.s[i]? = some (.int (n : Int))) (hn : n ≤ 100000) : ev G k (.rg (.pk i)) e = .ok (.itr ((List.range n).map fun (k : Nat) => D.int (k : Int))) e := by
  rw [ev_rg, evpk h, R.bind_ok, rg_nat hn, R.lift_some]
/-- range(len(a local)) -/
theorem evrgl {G : List D} {k : Oracle} {i : Nat} {e : Env} {xs : List D} (h : e.s[i]? = some (.lst xs)) (hn : xs.length ≤ 100000) : ev G k (.rg (.bi .len [.pk i])) e = .ok (.itr ((List.range xs.length).map fun (k : Nat) => D.int (k : Int))) e := by
  rw [ev_rg, ev_bi, evL_cons, evpk h]
  simp only [R.bind_ok, evL_nil, len_l, R.lift_some, rg_nat hn]
/-- zip of two locals -/
theorem evzp {α β : Type} {G : List D} {k : Oracle} {i j : Nat} {e : Env} {F : α → D} {H : β → D} {a : List α} {b : List β} (h : e.s[i]? = some (.lst (a.map F))) (h2 : e.s[j]? = some (.lst (b.map H))) : ev G k (.zp (.v i) (.v j)) e = .ok (.itr ((List.zip a b).map fun p => D.tup [F p.1, H p.2])) e := by
  rw [ev_zp, evv h, R.bind_ok, evv h2, R.bind_ok]
  simp only [items_lst, Option.bind_some, Option.map_some, zip_map, R.lift_some]
theorem lc_n {α : Type} {G : List D} {k : Oracle} {c it : C} {i : Nat} {e : Env} {x : D} {l : List α} {F g : α → D} (hit : ev G k it e = .ok x e) (hx : items x = some (l.map F)) (hi : i < e.s.length)
    (h : ∀ a ∈ l, ev G k c (e.set i (F a)) = .ok (g a) (e.set i (F a))) (hl : l.length ≤ 100000) : ev G k (.lc c (.n i) it []) e = .ok (.lst (l.map g)) e := by
  rw [ev_lc, hit, R.bind_ok, hx]
  dsimp only
  rw [lc_map (g := g) fun a ha => turn_n hi (by rw [evT_nil, R.bind_ok, if_pos rfl, h a ha, R.bind_ok])]
  rw [R.nox_ok, R.bind_ok, guardL_le (by rw [List.length_map]; exact lim_of hl), R.lift_some]
theorem lcf_n {α : Type} {G : List D} {k : Oracle} {c it q : C} {i : Nat} {e : Env} {x : D} {l : List α} {F g : α → D} {p : α → Bool} (hit : ev G k it e = .ok x e) (hx : items x = some (l.map F)) (hi : i < e.s.length)
    (hq : ∀ a ∈ l, ev G k q (e.set i (F a)) = .ok (.bl (p a)) (e.set i (F a))) (h : ∀ a ∈ l, p a = true → ev G k c (e.set i (F a)) = .ok (g a) (e.set i (F a))) (hl : l.length ≤ 100000) : ev G k (.lc c (.n i) it [q]) e = .ok (.lst ((l.filter p).map g)) e := by
  rw [ev_lc, hit, R.bind_ok, hx]
  dsimp only
  rw [lc_filter (p := p) (g := g) fun a ha => turn_n hi ?_]
  · rw [R.nox_ok, R.bind_ok, guardL_le (by rw [List.length_map]; exact lim_of (Nat.le_trans (List.length_filter_le _ _) hl)), R.lift_some]
  · rw [evT_cons, hq a ha, R.bind_ok, truth_bl]
    cases hp : p a with
    | true =>
      dsimp only
      rw [evT_nil, R.bind_ok, if_pos rfl, h a ha hp, R.bind_ok, if_pos rfl]
    | false =>
      dsimp only
      rw [R.bind_ok, if_neg (by decide), if_neg (by decide)]
theorem lc_2 {α : Type} {G : List D} {k : Oracle} {c it : C} {i j : Nat} {e : Env} {x : D} {l : List α} {F1 F2 g : α → D} (hit : ev G k it e = .ok x e) (hx : items x = some (l.map fun a => .tup [F1 a, F2 a])) (hi : i < e.s.length) (hj : j < e.s.length) (hij : i ≠ j)
    (h : ∀ a ∈ l, ev G k c ((e.set i (F1 a)).set j (F2 a)) = .ok (g a) ((e.set i (F1 a)).set j (F2 a))) (hl : l.length ≤ 100000) : ev G k (.lc c (.tp [i, j]) it []) e = .ok (.lst (l.map g)) e := by
  rw [ev_lc, hit, R.bind_ok, hx]
  dsimp only
  rw [lc_map (g := g) fun a ha => turn_2 hi hj hij (by rw [evT_nil, R.bind_ok, if_pos rfl, h a ha, R.bind_ok])]
  rw [R.nox_ok, R.bind_ok, guardL_le (by rw [List.length_map]; exact lim_of hl), R.lift_some]
mutual
theorem eqD_self : ∀ (d : D) (n : Nat), isDataN d n = true → eqD d d = true
  | .non, _, _ => by simp [eqD]
  | .bl _, _, _ => by simp [eqD]
  | .int _, _, _ => by simp [eqD]
  | .str _, _, _ => by simp [eqD]
  | .tup xs, n, h => by simp only [isDataN, Bool.and_eq_true] at h; simp only [eqD]; exact eqDL_self xs _ h.2
  | .lst xs, n, h => by simp only [isDataN, Bool.and_eq_true] at h; simp only [eqD]; exact eqDL_self xs _ h.2
  | .set _, _, h => by simp [isDataN] at h
  | .itr _, _, h => by simp [isDataN] at h
  | .dct _ _, _, h => by simp [isDataN] at h
  | .ob _, _, h => by simp [isDataN] at h
  | .exc _ _, _, h => by simp [isDataN] at h
theorem eqDL_self : ∀ (xs : List D) (n : Nat), isDataL xs n = true → eqDL xs xs = true
  | [], _, _ => by simp [eqDL]
  | x :: xs, n, h => by
    simp only [isDataL, Bool.and_eq_true] at h
    simp only [eqDL, eqD_self x n h.1, eqDL_self xs n h.2, Bool.and_self]
end
theorem dataL_map {α : Type} {F : α → D} {n : Nat} : ∀ {l : List α}, (∀ a ∈ l, isDataN (F a) n = true) → isDataL (l.map F) n = true
  | [], _ => by simp [isDataL]
  | x :: l, h => by simp only [List.map_cons, isDataL, h x List.mem_cons_self, dataL_map fun a ha => h a (List.mem_cons_of_mem _ ha), Bool.and_self]
theorem cp_eq_self {d : D} (h : isData d = true) : cp .eq d d = some true := by
  simp only [cp, h, Bool.and_self, Bool.or_true, if_true, eqD_self d 60 h]
theorem cp_ne_self {d : D} (h : isData d = true) : cp .ne d d = some false := by
  simp only [cp, h, Bool.and_self, Bool.or_true, if_true, eqD_self d 60 h]; rfl
theorem data_ints (l : List Int) (n : Nat) : isDataL (l.map D.int) n = true := dataL_map fun _ _ => by simp [isDataN]
theorem data_lint (l : List Int) : isData (.lst (l.map .int)) = true := by simp [isData, isDataN, data_ints]
@[simp] theorem max_i {x y : Int} : b1 .max [.int x, .int y] = some (.int (if y > x then y else x)) := rfl
@[simp] theorem min_i {x y : Int} : b1 .min [.int x, .int y] = some (.int (if y < x then y else x)) := rfl
@[simp] theorem ev_mt {G : List D} {k : Oracle} {m : M1} {c : C} {as : List C} {e : Env} : ev G k (.mt m c as) e = (ev G k c e).bind fun x e1 => if mtOk m x = true then (evL G k as e1).bind fun xs e2 => R.lift (m1 m x xs) e2 else .bad := by simp only [ev, evL, evT, evO, evP, ex, exs, hnd] <;> rfl
theorem bls_map (l : List Bool) : bls? (l.map D.bl) = some l := by
  induction l with
  | nil => rfl
  | cons x l ih => simp [bls?, ih]
@[simp] theorem all_l {l : List Bool} : b1 .all [.lst (l.map .bl)] = some (.bl (l.all id)) := by simp [b1, bls_map]
@[simp] theorem any_l {l : List Bool} : b1 .any [.lst (l.map .bl)] = some (.bl (l.any id)) := by simp [b1, bls_map]
/-- numbers below 2 ^ 64 -/
def small (x : Int) : Prop := x.natAbs < 2 ^ 64
theorem small_of {x : Int} (h1 : -(1000000000 : Int) ≤ x) (h2 : x ≤ 1000000000) : small x := by unfold small; omega
def dot (a b : List Int) : Int := (List.zipWith (· * ·) a b).sum
theorem dot_bound {A B : Nat} : ∀ (a b : List Int), (∀ x ∈ a, x.natAbs ≤ A) → (∀ y ∈ b, y.natAbs ≤ B) → (dot a b).natAbs ≤ A * B * a.length
  | [], b, _, _ => by simp [dot]
  | x :: a, [], ha, hb => by simp [dot]
  | x :: a, y :: b, ha, hb => by
    have h1 := dot_bound a b (fun z hz => ha z (List.mem_cons_of_mem _ hz)) fun z hz => hb z (List.mem_cons_of_mem _ hz)
    have e : dot (x :: a) (y :: b) = x * y + dot a b := by simp [dot]
    rw [e]
    have h2 : (x * y).natAbs ≤ A * B := by rw [Int.natAbs_mul]; exact Nat.mul_le_mul (ha x List.mem_cons_self) (hb y List.mem_cons_self)
    have h3 := Int.natAbs_add_le (x * y) (dot a b)
    have h4 : A * B * (x :: a).length = A * B + A * B * a.length := by simp [Nat.mul_add, Nat.add_comm]
    omega
end Z

/-! Z28: raise, try, texts, two clauses: how the evaluator computes. Plain Lean. -/
namespace Z
section
variable {G : List D} {k : Oracle} {sub : Nat → Nat → Bool}
/-- what the first clause makes of an item -/
def lc2F (G : List D) (k : Oracle) (cs : List C) (t2 : T) (it2 : C) (cs2 : List C) (x : C) : Env → R (List D) := fun e3 => (evT G k cs e3).bind fun b e4 => if b = true then (ev G k it2 e4).bind fun x2 e5 => match items x2 with
          | none => .bad
          | some xs2 => compL (turnD t2 fun e7 => (evT G k cs2 e7).bind fun b2 e8 => if b2 = true then (ev G k x e8).bind fun z e9 => .ok [z] e9 else .ok [] e8) xs2 e5
          else .ok [] e4
@[simp] theorem ev_lc2 {x it it2 : C} {t t2 : T} {cs cs2 : List C} {env : Env} : ev G k (.lc2 x t it cs t2 it2 cs2) env = (ev G k it env).bind fun x1 e1 => match items x1 with
    | none => .bad
    | some xs => (compL (turnD t (lc2F G k cs t2 it2 cs2 x)) xs e1).nox.bind fun zs e6 => R.lift (guardL zs.length (.lst zs)) e6 := by simp only [ev] <;> rfl
@[simp] theorem ev_fx {i f : Nat} {e : Env} : ev G k (.fx i f) e = match e.get i with
    | some (.exc _ xs) => (match xs[f]? with
      | some x => if flat x = true then .ok x e else .bad
      | none => .bad)
    | _ => .bad := by simp only [ev] <;> rfl
@[simp] theorem ev_pop {i : Nat} {e : Env} : ev G k (.pop i) e = match e.get i with
    | some (.lst xs) => (match xs.getLast? with
      | some x => if flat x = true then .ok x (e.set i (.lst xs.dropLast)) else .bad
      | none => .bad)
    | _ => .bad := by simp only [ev] <;> rfl
@[simp] theorem ex_rs {c : Nat} {m : Bool} {as : List C} {e : Env} : ex G k sub (.rs c m as) e = (evL G k as e).st fun xs e1 => if msgOk m xs = true then .exc (.exc c xs) e1 else .bad := by simp only [ex] <;> rfl
@[simp] theorem ex_tr {b : List S} {h : S} {e : Env} : ex G k sub (.tr b h) e = match exs G k sub b e with
    | .exc x e1 => hnd G k sub h x e1
    | r => r := by simp only [ex] <;> rfl
@[simp] theorem hnd_hc {c c' i : Nat} {b : List S} {nx : S} {xs : List D} {e : Env} : hnd G k sub (.hc c i b nx) (.exc c' xs) e = if sub c' c = true then exs G k sub b (e.set i (.exc c' xs)) else hnd G k sub nx (.exc c' xs) e := by simp only [hnd] <;> rfl
@[simp] theorem hnd_pass {x : D} {e : Env} : hnd G k sub .pass x e = .exc x e := by simp only [hnd] <;> rfl
theorem callR_exc {f : Nat} {as : List C} {xs : List D} {e : Env} {r : D} {o : List Ob} (h : k f xs e.o = .exc r o) : callR k f as xs e = .exc r { e with o := o } := by
  unfold callR; rw [h]
/-! texts -/
theorem len_s {s : Txt} (h : s.length ≤ 100000) : b1 .len [.str s] = some (.int s.length) := by simp only [b1, if_pos (lim_of h)]
theorem ix_s {s : Txt} {i : Int} (h : s.length ≤ 100000) : opIx (.str s) (.int i) = (getI s i).map fun c => .str [c] := by simp only [opIx, if_pos (lim_of h)]
theorem ix_sn {s : Txt} {i : Nat} {d : Nat} (h : s.length ≤ 100000) (hi : i < s.length) : opIx (.str s) (.int (i : Int)) = some (.str [s.getD i d]) := by
  rw [ix_s h, getI_nat hi]; simp [hi]
theorem opSlT_s {lo hi : Option Int} {s : Txt} (h : s.length ≤ 100000) : opSlT lo hi (.str s) = some (.str (cut s lo hi)) := by simp only [opSlT, if_pos (lim_of h)]
theorem items_s {s : Txt} (h : s.length ≤ 100000) : items (.str s) = some (s.map fun c => .str [c]) := by simp only [items, if_pos (lim_of h)]
theorem op_add_s {a b : Txt} (h : a.length + b.length ≤ 100000) : op2 .add (.str a) (.str b) = some (.str (a ++ b)) := by simp only [op2, opAdd, guardL_le (lim_of h)]
theorem op_mul_s {a : Txt} {n : Int} (h : n ≤ 100000) (h0 : 0 ≤ n) (hl : a.length * n.toNat ≤ 100000) : op2 .mul (.str a) (.int n) = some (.str (List.replicate n.toNat a).flatten) := by
  have : n ≤ (LIM : Int) ∧ -(LIM : Int) ≤ n ∧ a.length * n.toNat ≤ LIM := ⟨by unfold LIM; omega, by unfold LIM; omega, lim_of hl⟩
  simp only [op2, opMul, if_pos this]
@[simp] theorem isin_s {c : Nat} {t : Txt} : cp .isin (.str [c]) (.str t) = some (t.contains c) := rfl
@[simp] theorem nin_s {c : Nat} {t : Txt} : cp .nin (.str [c]) (.str t) = some (!t.contains c) := rfl
theorem count_s {s : Txt} {c : Nat} (h : s.length ≤ 100000) : m1 .count (.str s) [.str [c]] = some (.int (s.count c)) := by simp only [m1, if_pos (lim_of h)]
@[simp] theorem truth_l {xs : List D} : truth (.lst xs) = some (!xs.isEmpty) := rfl
@[simp] theorem truth_t {xs : List D} : truth (.tup xs) = some (!xs.isEmpty) := rfl
end
/-! enumerate, by places -/
theorem enum_range {α : Type} {F : α → D} (d : α) : ∀ (l : List α) (k : Nat), enumD k (l.map F) = (List.range l.length).map fun (i : Nat) => D.tup [.int ((k + i : Nat) : Int), F (l.getD i d)]
  | [], _ => rfl
  | x :: l, k => by
    simp only [List.map_cons, enumD, enum_range d l (k + 1), List.length_cons, List.range_succ_eq_map, List.map_map]
    congr 1
    refine List.map_congr_left fun i _ => ?_
    simp only [Function.comp, List.getD_cons_succ]
    rw [show k + 1 + i = k + i.succ by omega]
theorem enum0 {α : Type} {F : α → D} (d : α) (l : List α) : enumD 0 (l.map F) = (List.range l.length).map fun (i : Nat) => D.tup [.int (i : Int), F (l.getD i d)] := by
  rw [enum_range d l 0]; simp
/-- a for that goes through or ends at the first item that fails -/
theorem for_find {α : Type} {t : T} {b : Env → RS} {F : α → D} {chk : α → Bool} {mk : α → List D → RS} (P : Env → Prop) (hm : ∀ i s, (∃ d e, mk i s = .rt d e) ∨ ∃ d e, mk i s = .exc d e) : ∀ {l : List α} {e : Env}, P e →
    (∀ a e, P e → a ∈ l → ∃ e1, asgT t (F a) e = some e1 ∧ (chk a = true → ∃ e2, b e1 = .nx e2 ∧ P e2) ∧ (chk a = false → ∃ s, b e1 = mk a s)) →
    (l.find? (fun a => !chk a) = none ∧ ∃ e', forL t b (l.map F) e = .nx e' ∧ P e') ∨ ∃ a s, l.find? (fun a => !chk a) = some a ∧ forL t b (l.map F) e = mk a s
  | [], e, h0, _ => .inl ⟨rfl, e, by simp [forL], h0⟩
  | a :: l, e, h0, h => by
    obtain ⟨e1, h1, h2, h3⟩ := h a e h0 List.mem_cons_self
    cases hc : chk a with
    | false =>
      obtain ⟨s, g1⟩ := h3 hc
      refine .inr ⟨a, s, by simp [List.find?_cons, hc], ?_⟩
      simp only [List.map_cons, forL, h1, g1]
      rcases hm a s with ⟨d, e', z⟩ | ⟨d, e', z⟩ <;> rw [z]
    | true =>
      obtain ⟨e2, g1, g2⟩ := h2 hc
      rcases for_find P hm g2 fun a e hp hy => h a e hp (List.mem_cons_of_mem _ hy) with ⟨k1, e', k2, k3⟩ | ⟨i, s, k1, k2⟩
      · exact .inl ⟨by simp [List.find?_cons, hc, k1], e', by simp only [List.map_cons, forL, h1, g1, k2], k3⟩
      · exact .inr ⟨i, s, by simp [List.find?_cons, hc, k1], by simp only [List.map_cons, forL, h1, g1, k2]⟩
theorem lc_flat {α : Type} {t : T} {f : Env → R (List D)} {F : α → D} {g : α → List D} {l : List α} {e : Env} (h : ∀ a ∈ l, turnD t f (F a) e = .ok (g a) e) : compL (turnD t f) (l.map F) e = .ok (l.flatMap g) e := by
  induction l with
  | nil => rfl
  | cons x l ih => simp only [List.map_cons, compL, h x List.mem_cons_self, R.bind_ok, ih fun y hy => h y (List.mem_cons_of_mem _ hy), List.flatMap_cons]
/-- data that _law_alike goes through: no deeper than n -/
theorem len_flat {α β : Type} {N M : Nat} {f : α → List β} : ∀ {l : List α}, l.length ≤ N → (∀ a ∈ l, (f a).length ≤ M) → (l.flatMap f).length ≤ N * M
  | [], _, _ => by simp
  | a :: l, h, h2 => by
    cases N with
    | zero => simp at h
    | succ N =>
      simp only [List.length_cons] at h
      have := len_flat (N := N) (l := l) (f := f) (by omega) fun x hx => h2 x (List.mem_cons_of_mem _ hx)
      have := h2 a List.mem_cons_self
      simp only [List.flatMap_cons, List.length_append, Nat.add_mul, Nat.one_mul]
      omega
end Z

/-! Z29: lists of whole numbers, chains of comparisons, arguments that are changed: how the evaluator computes. Plain Lean. -/
namespace Z
section
variable {G : List D} {k : Oracle} {sub : Nat → Nat → Bool}
@[simp] theorem eqD_ii {x y : Int} : eqD (.int x) (.int y) = (x == y) := by simp [eqD]
theorem flat_ints (l : List Int) : (l.map D.int).all flat = true := by
  rw [List.all_eq_true]
  intro d hd
  obtain ⟨x, _, rfl⟩ := List.mem_map.mp hd
  rfl
theorem any_ints (l : List Int) (x : Int) : ((l.map D.int).any fun y => eqD y (.int x)) = l.contains x := by
  induction l with
  | nil => rfl
  | cons y l ih =>
    simp only [List.map_cons, List.any_cons, ih, eqD_ii, List.contains_cons]
    congr 1
    exact Bool.eq_iff_iff.mpr ⟨fun h => by simpa using (of_decide_eq_true h).symm, fun h => by simpa using (of_decide_eq_true h).symm⟩
theorem isin_ints {l : List Int} {x : Int} : cp .isin (.int x) (.lst (l.map .int)) = some (l.contains x) := by
  simp only [cp, opIn, flat_ints, flat_i, Bool.and_self, if_true, any_ints]
theorem nin_ints {l : List Int} {x : Int} : cp .nin (.int x) (.lst (l.map .int)) = some (!l.contains x) := by
  simp only [cp, opIn, flat_ints, flat_i, Bool.and_self, if_true, any_ints, Option.map_some]
@[simp] theorem ev_cmp2 {o o' : Cp} {a b c : C} {e : Env} : ev G k (.cmp2 o o' a b c) e = (ev G k a e).bind fun x e1 => (ev G k b e1).bind fun y e2 => match cp o x y with
    | some true => (ev G k c e2).bind fun z e3 => R.lift ((cp o' y z).map .bl) e3
    | some false => .ok (.bl false) e2
    | none => .bad := by simp only [ev] <;> rfl
theorem rep_ok {xs : List D} {n : Nat} (h : n ≤ 100000) (h2 : xs.length * n ≤ 100000) : opRep (.lst xs) (.int (n : Int)) = some (.lst (List.replicate n xs).flatten) := by
  have : (n : Int) ≤ (LIM : Int) ∧ -(LIM : Int) ≤ (n : Int) ∧ xs.length * (n : Int).toNat ≤ LIM := ⟨by unfold LIM; omega, by unfold LIM; omega, lim_of (by simpa using h2)⟩
  simp only [opRep, if_pos this]; simp
theorem set_ints {l : List Int} (h : l.length ≤ 4000) : b1 .set [.lst (l.map .int)] = some (.int (distI l).length) := by
  simp only [b1, ints_map, Option.bind_some, if_pos h]
end
theorem dist_go (l : List Int) : ∀ s : List Int, s.Nodup → (l.foldl (fun s v => if s.any (· == v) then s else s ++ [v]) s).length ≤ s.length + l.length ∧ ((l.foldl (fun s v => if s.any (· == v) then s else s ++ [v]) s).length = s.length + l.length ↔ (s ++ l).Nodup) := by
  induction l with
  | nil => intro s hs; simpa using hs
  | cons v l ih =>
    intro s hs
    simp only [List.foldl_cons, List.length_cons]
    by_cases h : s.any (· == v) = true
    · rw [if_pos h]
      have := ih s hs
      refine ⟨by omega, ⟨fun e => by omega, fun e => ?_⟩⟩
      exfalso
      have hv : v ∈ s := by simpa using h
      exact (List.nodup_append.mp e).2.2 v hv v List.mem_cons_self rfl
    · rw [if_neg h]
      have hv : v ∉ s := by simpa using h
      have := ih (s ++ [v]) (by
        rw [List.nodup_append]
        refine ⟨hs, by simp, fun a ha b hb => ?_⟩
        rw [List.mem_singleton] at hb
        subst hb
        exact fun e => hv (e ▸ ha))
      simp only [List.length_append, List.length_cons, List.length_nil, List.append_assoc, List.cons_append, List.nil_append] at this
      exact ⟨by omega, ⟨fun e => this.2.mp (by omega), fun e => by have := this.2.mpr e; omega⟩⟩
theorem dist_nodup {l : List Int} : (distI l).length = l.length ↔ l.Nodup := by
  have := (dist_go l [] List.nodup_nil).2
  simpa [distI] using this
theorem idx_ints (x : Int) : ∀ (l : List Int) (k : Nat), x ∈ l → idxD (.int x) k (l.map .int) = some (k + l.idxOf x)
  | [], _, h => by simp at h
  | y :: l, k, h => by
    simp only [List.map_cons, idxD, eqD_ii, List.idxOf_cons]
    by_cases e : y = x
    · subst e; simp
    · have : (y == x) = false := by simpa using e
      rw [this, idx_ints x l (k + 1) (by
        rcases List.mem_cons.mp h with h | h
        · exact absurd h.symm e
        · exact h)]
      simp; omega
theorem index_ints {l : List Int} {x : Int} (h : x ∈ l) : m1 .index (.lst (l.map .int)) [.int x] = some (.int (l.idxOf x : Nat)) := by
  simp only [m1, flat_ints, flat_i, Bool.and_self, if_true, idx_ints x l 0 h, Option.map_some, Nat.zero_add]
end Z
namespace Z
/-- a for over range, by places: it goes through, or ends at the first place that fails -/
theorem for_rchk {t : T} {b : Env → RS} {chk : Nat → Bool} {r : D} {o : List Ob} (P : Nat → Env → Prop) : ∀ (m k : Nat) {e : Env}, P k e →
    (∀ i e, k ≤ i → i < k + m → P i e → ∃ e1, asgT t (.int (i : Int)) e = some e1 ∧ (chk i = true → ∃ e2, b e1 = .nx e2 ∧ P (i + 1) e2) ∧ (chk i = false → ∃ e2, e2.o = o ∧ b e1 = .rt r e2)) →
    ((∀ i, k ≤ i → i < k + m → chk i = true) ∧ ∃ e', forL t b ((List.range m).map fun (j : Nat) => D.int ((k + j : Nat) : Int)) e = .nx e' ∧ P (k + m) e') ∨ ((∃ i, k ≤ i ∧ i < k + m ∧ chk i = false) ∧ ∃ e', e'.o = o ∧ forL t b ((List.range m).map fun (j : Nat) => D.int ((k + j : Nat) : Int)) e = .rt r e')
  | 0, k, e, h0, _ => .inl ⟨fun i _ _ => by omega, e, by simp [forL], h0⟩
  | m + 1, k, e, h0, h => by
    obtain ⟨e1, h1, h2, h3⟩ := h k e (Nat.le_refl _) (by omega) h0
    have hl : ((List.range (m + 1)).map fun (j : Nat) => D.int ((k + j : Nat) : Int)) = D.int (k : Int) :: (List.range m).map fun (j : Nat) => D.int ((k + 1 + j : Nat) : Int) := by
      rw [List.range_succ_eq_map]
      simp only [List.map_cons, List.map_map, Nat.add_zero]
      congr 1
      refine List.map_congr_left fun j _ => ?_
      simp only [Function.comp]
      rw [show k + (j + 1) = k + 1 + j by omega]
    rw [hl]
    cases hc : chk k with
    | false =>
      obtain ⟨e2, g0, g1⟩ := h3 hc
      refine .inr ⟨⟨k, Nat.le_refl _, by omega, hc⟩, e2, g0, ?_⟩
      simp only [forL, h1, g1]
    | true =>
      obtain ⟨e2, g1, g2⟩ := h2 hc
      rcases for_rchk P m (k + 1) g2 fun i e a b => h i e (by omega) (by omega) with ⟨z1, e', z2, z3⟩ | ⟨⟨i, z1, z2, z3⟩, e', z4, z5⟩
      · refine .inl ⟨fun i a b => ?_, e', by simp only [forL, h1, g1, z2], by rw [show k + (m + 1) = k + 1 + m by omega]; exact z3⟩
        by_cases e : i = k
        · subst e; exact hc
        · exact z1 i (by omega) (by omega)
      · exact .inr ⟨⟨i, by omega, by omega, z3⟩, e', z4, by simp only [forL, h1, g1, z5]⟩
theorem eqDL_ints : ∀ (a b : List Int), eqDL (a.map .int) (b.map .int) = (a == b)
  | [], [] => by simp [eqDL]
  | [], _ :: _ => by simp [eqDL]
  | _ :: _, [] => by simp [eqDL]
  | x :: a, y :: b => by simp [eqDL, eqDL_ints a b]
theorem cp_ne_ints {a b : List Int} : cp .ne (.lst (a.map .int)) (.lst (b.map .int)) = some (!(a == b)) := by
  simp only [cp, data_lint, Bool.and_self, Bool.or_true, if_true, eqD, eqDL_ints]
theorem cp_eq_ints {a b : List Int} : cp .eq (.lst (a.map .int)) (.lst (b.map .int)) = some (a == b) := by
  simp only [cp, data_lint, Bool.and_self, Bool.or_true, if_true, eqD, eqDL_ints]
end Z

/-! Z30: items of short lists. Plain Lean. -/
namespace Z
@[simp] theorem getI_0 {α : Type} {x : α} {l : List α} : getI (x :: l) 0 = some x := getI_nat (xs := x :: l) (k := 0) (by simp)
@[simp] theorem getI_1 {α : Type} {x y : α} {l : List α} : getI (x :: y :: l) 1 = some y := getI_nat (xs := x :: y :: l) (k := 1) (by simp)
@[simp] theorem getI_2 {α : Type} {x y z : α} {l : List α} : getI (x :: y :: z :: l) 2 = some z := getI_nat (xs := x :: y :: z :: l) (k := 2) (by simp)
@[simp] theorem getI_3 {α : Type} {x y z u : α} {l : List α} : getI (x :: y :: z :: u :: l) 3 = some u := getI_nat (xs := x :: y :: z :: u :: l) (k := 3) (by simp)
@[simp] theorem getI_4 {α : Type} {x y z u v : α} {l : List α} : getI (x :: y :: z :: u :: v :: l) 4 = some v := getI_nat (xs := x :: y :: z :: u :: v :: l) (k := 4) (by simp)
/-- how the evaluator computes, all in one; one statement's end -/
theorem zz : type_of% (And.intro @ev_non (And.intro @ev_bl (And.intro @ev_int (And.intro @ev_str (And.intro @ev_v (And.intro @ev_mv (And.intro @ev_pk (And.intro @ev_io (And.intro @ev_bo (And.intro @ev_gl (And.intro @ev_op (And.intro @ev_cat (And.intro @ev_catT (And.intro @ev_rep (And.intro @ev_neg (And.intro @ev_nt (And.intro @ev_and (And.intro @ev_or (And.intro @ev_cmp (And.intro @ev_ife (And.intro @ev_call (And.intro @ev_bi (And.intro @ev_ix (And.intro @ev_sl (And.intro @ev_slT (And.intro @ev_lst (And.intro @ev_tup (And.intro @ev_rg (And.intro @ev_rg2 (And.intro @ev_en (And.intro @ev_zp (And.intro @ev_fl (And.intro @evL_nil (And.intro @evL_cons (And.intro @evT_nil (And.intro @evT_cons (And.intro @evO_none (And.intro @evO_some (And.intro @evP_pk (And.intro @evP_ix (And.intro @ex_pass (And.intro @ex_brk (And.intro @ex_ct (And.intro @ex_asg (And.intro @ex_aug (And.intro @ex_six (And.intro @ex_app (And.intro @ex_ext (And.intro @ex_ex (And.intro @ex_ite (And.intro @ex_fr (And.intro @ex_wl (And.intro @ex_ret (And.intro @ex_retN (And.intro @exs_nil (And.intro @exs_cons (And.intro @get_mk (And.intro @set_mk (And.intro @asg_n (And.intro @asg_2 (And.intro @truth_bl (And.intro @items_lst (And.intro @items_tup (And.intro @items_itr (And.intro @op_add_i (And.intro @op_sub_i (And.intro @cp_lt_i (And.intro @cp_le_i (And.intro @cp_gt_i (And.intro @cp_ge_i (And.intro @cp_eq_i (And.intro @cp_ne_i (And.intro @cp_eq_s (And.intro @cp_ne_s (And.intro @len_l (And.intro @len_t (And.intro @abs_i (And.intro @int_i (And.intro @sum_l (And.intro @list_l (And.intro @list_t (And.intro @tuple_l (And.intro @tuple_t (And.intro @flat_i (And.intro @flat_b (And.intro @flat_s (And.intro @ix_l (And.intro @ix_t (And.intro @getP_nil (And.intro @putBack_nil (And.intro @isInt_n (And.intro @isInt_b (And.intro @isInt_i (And.intro @isInt_s (And.intro @isInt_l (And.intro @isInt_t (And.intro @isBool_n (And.intro @isBool_b (And.intro @isBool_i (And.intro @isBool_s (And.intro @isBool_l (And.intro @isBool_t (And.intro @isStr_n (And.intro @isStr_b (And.intro @isStr_i (And.intro @isStr_s (And.intro @isStr_l (And.intro @isStr_t (And.intro @isList_n (And.intro @isList_b (And.intro @isList_i (And.intro @isList_s (And.intro @isList_l (And.intro @isList_t (And.intro @isTuple_n (And.intro @isTuple_b (And.intro @isTuple_i (And.intro @isTuple_s (And.intro @isTuple_l (And.intro @isTuple_t (And.intro @is_non_n (And.intro @isn_non_n (And.intro @is_non_b (And.intro @isn_non_b (And.intro @is_non_i (And.intro @isn_non_i (And.intro @is_non_s (And.intro @isn_non_s (And.intro @is_non_l (And.intro @isn_non_l (And.intro @is_non_t (And.intro @isn_non_t (And.intro @is_bl (And.intro @cp_ne_b (And.intro @cp_eq_b (And.intro @opSlT_l (And.intro @opSlT_t (And.intro @optI_i (And.intro @max_i (And.intro @min_i (And.intro @ev_mt (And.intro @all_l (And.intro @any_l (And.intro @ev_fx (And.intro @ev_pop (And.intro @ex_rs (And.intro @hnd_pass (And.intro @isin_s (And.intro @nin_s (And.intro @truth_l (And.intro @truth_t (And.intro @eqD_ii (And.intro @ev_cmp2 (And.intro @getI_0 (And.intro @getI_1 (And.intro @getI_2 (And.intro @getI_3 (And.intro @getI_4 (And.intro @R.bind_ok (And.intro @R.bind_exc (And.intro @R.bind_bad (And.intro @R.lift_some (And.intro @R.lift_none (And.intro @R.st_ok (And.intro @R.st_exc (And.intro @R.st_bad (And.intro @R.nox_ok (And.intro @R.nox_exc (And.intro @RS.seq_nx (And.intro @RS.seq_bk (And.intro @RS.seq_ct (And.intro @RS.seq_rt (And.intro @RS.seq_exc (And.intro @RS.seq_bad (And.intro @Bool.not_true (And.intro @Bool.not_false (And.intro @decide_true (And.intro @decide_false (@Bool.false_eq_true))))))))))))))))))))))))))))))))))))))))))))))))))))))))))))))))))))))))))))))))))))))))))))))))))))))))))))))))))))))))))))))))))))))))))))))))))))))))))))))))))))))))))))))))))) := And.intro @ev_non (And.intro @ev_bl (And.intro @ev_int (And.intro @ev_str (And.intro @ev_v (And.intro @ev_mv (And.intro @ev_pk (And.intro @ev_io (And.intro @ev_bo (And.intro @ev_gl (And.intro @ev_op (And.intro @ev_cat (And.intro @ev_catT (And.intro @ev_rep (And.intro @ev_neg (And.intro @ev_nt (And.intro @ev_and (And.intro @ev_or (And.intro @ev_cmp (And.intro @ev_ife (And.intro @ev_call (And.intro @ev_bi (And.intro @ev_ix (And.intro @ev_sl (And.intro @ev_slT (And.intro @ev_lst (And.intro @ev_tup (And.intro @ev_rg (And.intro @ev_rg2 (And.intro @ev_en (And.intro @ev_zp (And.intro @ev_fl (And.intro @evL_nil (And.intro @evL_cons (And.intro @evT_nil (And.intro @evT_cons (And.intro @evO_none (And.intro @evO_some (And.intro @evP_pk (And.intro @evP_ix (And.intro @ex_pass (And.intro @ex_brk (And.intro @ex_ct (And.intro @ex_asg (And.intro @ex_aug (And.intro @ex_six (And.intro @ex_app (And.intro @ex_ext (And.intro @ex_ex (And.intro @ex_ite (And.intro @ex_fr (And.intro @ex_wl (And.intro @ex_ret (And.intro @ex_retN (And.intro @exs_nil (And.intro @exs_cons (And.intro @get_mk (And.intro @set_mk (And.intro @asg_n (And.intro @asg_2 (And.intro @truth_bl (And.intro @items_lst (And.intro @items_tup (And.intro @items_itr (And.intro @op_add_i (And.intro @op_sub_i (And.intro @cp_lt_i (And.intro @cp_le_i (And.intro @cp_gt_i (And.intro @cp_ge_i (And.intro @cp_eq_i (And.intro @cp_ne_i (And.intro @cp_eq_s (And.intro @cp_ne_s (And.intro @len_l (And.intro @len_t (And.intro @abs_i (And.intro @int_i (And.intro @sum_l (And.intro @list_l (And.intro @list_t (And.intro @tuple_l (And.intro @tuple_t (And.intro @flat_i (And.intro @flat_b (And.intro @flat_s (And.intro @ix_l (And.intro @ix_t (And.intro @getP_nil (And.intro @putBack_nil (And.intro @isInt_n (And.intro @isInt_b (And.intro @isInt_i (And.intro @isInt_s (And.intro @isInt_l (And.intro @isInt_t (And.intro @isBool_n (And.intro @isBool_b (And.intro @isBool_i (And.intro @isBool_s (And.intro @isBool_l (And.intro @isBool_t (And.intro @isStr_n (And.intro @isStr_b (And.intro @isStr_i (And.intro @isStr_s (And.intro @isStr_l (And.intro @isStr_t (And.intro @isList_n (And.intro @isList_b (And.intro @isList_i (And.intro @isList_s (And.intro @isList_l (And.intro @isList_t (And.intro @isTuple_n (And.intro @isTuple_b (And.intro @isTuple_i (And.intro @isTuple_s (And.intro @isTuple_l (And.intro @isTuple_t (And.intro @is_non_n (And.intro @isn_non_n (And.intro @is_non_b (And.intro @isn_non_b (And.intro @is_non_i (And.intro @isn_non_i (And.intro @is_non_s (And.intro @isn_non_s (And.intro @is_non_l (And.intro @isn_non_l (And.intro @is_non_t (And.intro @isn_non_t (And.intro @is_bl (And.intro @cp_ne_b (And.intro @cp_eq_b (And.intro @opSlT_l (And.intro @opSlT_t (And.intro @optI_i (And.intro @max_i (And.intro @min_i (And.intro @ev_mt (And.intro @all_l (And.intro @any_l (And.intro @ev_fx (And.intro @ev_pop (And.intro @ex_rs (And.intro @hnd_pass (And.intro @isin_s (And.intro @nin_s (And.intro @truth_l (And.intro @truth_t (And.intro @eqD_ii (And.intro @ev_cmp2 (And.intro @getI_0 (And.intro @getI_1 (And.intro @getI_2 (And.intro @getI_3 (And.intro @getI_4 (And.intro @R.bind_ok (And.intro @R.bind_exc (And.intro @R.bind_bad (And.intro @R.lift_some (And.intro @R.lift_none (And.intro @R.st_ok (And.intro @R.st_exc (And.intro @R.st_bad (And.intro @R.nox_ok (And.intro @R.nox_exc (And.intro @RS.seq_nx (And.intro @RS.seq_bk (And.intro @RS.seq_ct (And.intro @RS.seq_rt (And.intro @RS.seq_exc (And.intro @RS.seq_bad (And.intro @Bool.not_true (And.intro @Bool.not_false (And.intro @decide_true (And.intro @decide_false (@Bool.false_eq_true))))))))))))))))))))))))))))))))))))))))))))))))))))))))))))))))))))))))))))))))))))))))))))))))))))))))))))))))))))))))))))))))))))))))))))))))))))))))))))))))))))))))))))))))))
theorem zt : type_of% (And.intro @R.st_ok (And.intro @R.bind_ok (And.intro @R.lift_some (And.intro @truth_bl (And.intro @asg_n (And.intro @asg_2 (And.intro @set_mk (And.intro @RS.seq_nx (And.intro @RS.seq_rt (And.intro @exs_nil (And.intro @Bool.not_true (@Bool.not_false)))))))))))) := And.intro @R.st_ok (And.intro @R.bind_ok (And.intro @R.lift_some (And.intro @truth_bl (And.intro @asg_n (And.intro @asg_2 (And.intro @set_mk (And.intro @RS.seq_nx (And.intro @RS.seq_rt (And.intro @exs_nil (And.intro @Bool.not_true (@Bool.not_false)))))))))))
end Z

namespace LW
/-- least_scale -/
def f0 : Z.Fn := ⟨2, 6, [], [], 2, [
  .asg (.n 2) (.rep (.lst [(.int 0)]) (.pk 0)),
  .asg (.n 3) (.rep (.lst [.non]) (.pk 0)),
  .asg (.n 4) .non,
  .fr (.n 5) (.rg (.pk 0)) [.asg (.n 4) (.call 2 [(.io 2), (.io 3), (.v 1)]), .ite (.cmp .is (.pk 4) .non) [.brk] []],
  .ite (.cmp .is (.pk 4) .non) [.ret (.tup [(.str [115, 99, 97, 108, 101]), (.v 2)])] [],
  .ret (.tup [(.str [114, 105, 110, 103]), (.call 3 [(.v 3), (.v 1), (.v 4)])])]⟩
/-- is_ring -/
def f1 : Z.Fn := ⟨2, 5, [], [], 100, [
  .ite (.or (.nt (.pk 1)) (.nt (.bi .all [(.lc (.cmp2 .le .lt (.int 0) (.pk 4) (.bi .len [(.pk 0)])) (.n 4) (.v 1) [])]))) [.ret (.bl false)] [],
  .asg (.n 2) (.lc (.ix (.ix (.v 0) (.pk 4)) (.int 0)) (.n 4) (.v 1) []),
  .asg (.n 3) (.lc (.ix (.ix (.v 0) (.pk 4)) (.int 1)) (.n 4) (.v 1) []),
  .ite (.or (.cmp .ne (.pk 3) (.cat (.slT (.v 2) (some (.int 1)) none) (.slT (.v 2) none (some (.int 1))))) (.cmp .ne (.bi .set [(.pk 2)]) (.bi .len [(.pk 2)]))) [.ret (.bl false)] [],
  .ret (.cmp .gt (.bi .sum [(.lc (.ix (.ix (.v 0) (.pk 4)) (.int 2)) (.n 4) (.v 1) [])]) (.int 0))]⟩
/-- _round -/
def f2 : Z.Fn := ⟨3, 9, [0, 1], [2, 2], 1, [
  .asg (.n 3) .non,
  .fr (.tp [4, 5]) (.en (.v 2)) [.asg (.tp [6, 7, 8]) (.v 5), .ite (.cmp .lt (.ix (.pk 0) (.pk 6)) (.op .add (.ix (.pk 0) (.pk 7)) (.pk 8))) [.six (.pk 0) (.pk 6) (.op .add (.ix (.pk 0) (.pk 7)) (.pk 8)), .six (.pk 1) (.pk 6) (.v 4), .asg (.n 3) (.v 6)] []],
  .ret (.v 3)]⟩
/-- _ring -/
def f3 : Z.Fn := ⟨3, 6, [], [], 2, [
  .asg (.n 3) (.lst []),
  .asg (.n 4) (.v 2),
  .wl (.cmp .nin (.pk 4) (.pk 3)) [.app (.pk 3) (.v 4), .asg (.n 4) (.ix (.ix (.v 1) (.ix (.pk 0) (.pk 4))) (.int 1))],
  .ret (.lc (.ix (.v 0) (.pk 5)) (.n 5) (.slT (.v 3) (some (.mt .index (.v 3) [(.pk 4)])) none) [])]⟩
/-- _law_is_whole -/
def f4 : Z.Fn := ⟨1, 1, [], [], 100, [
  .ret (.and (.bi .isInt [(.pk 0)]) (.nt (.bi .isBool [(.pk 0)])))]⟩
/-- _law_cell -/
def f5 : Z.Fn := ⟨2, 2, [], [], 1, [
  .ite (.cmp .lt (.pk 1) (.bi .len [(.pk 0)])) [.ret (.ix (.v 0) (.pk 1))] [],
  .ret (.int 0)]⟩
/-- _law_many -/
def f6 : Z.Fn := ⟨4, 9, [], [], 2, [
  .asg (.n 4) (.call 5 [(.v 0), (.v 1)]),
  .asg (.n 5) (.bi .abs [(.pk 4)]),
  .asg (.n 6) (.lst []),
  .fr (.n 7) (.rg (.pk 2)) [.ite (.and (.cmp .ge (.bi .abs [(.pk 4)]) (.op .pow (.int 10) (.int 18))) (.cmp .gt (.pk 5) (.int 0))) [.app (.pk 6) (.op .mod (.bi .int [(.pk 5)]) (.pk 3)), .asg (.n 5) (.op .fdiv (.pk 5) (.pk 3))] [.asg (.n 8) (.op .mod (.bi .int [(.op .add (.op .add (.op .add (.op .mul (.pk 4) (.int 48271)) (.op .mul (.pk 7) (.int 69621))) (.op .mul (.int 17) (.pk 1))) (.int 11))]) (.int 2147483647)), .asg (.n 8) (.op .mod (.bi .int [(.op .add (.op .add (.op .mul (.pk 8) (.pk 8)) (.op .mul (.pk 7) (.int 40692))) (.int 3))]) (.int 2147483399)), .asg (.n 8) (.op .mod (.bi .int [(.op .add (.op .add (.op .mul (.pk 8) (.pk 8)) (.op .mul (.pk 7) (.int 7))) (.pk 1))]) (.int 2147483579)), .app (.pk 6) (.op .mod (.bi .int [(.op .fdiv (.pk 8) (.int 64))]) (.pk 3))]],
  .ret (.mv 6)]⟩
/-- _law_whole_list -/
def f7 : Z.Fn := ⟨1, 2, [], [], 100, [
  .ite (.nt (.bi .isList [(.pk 0)])) [.ret (.bl false)] [],
  .ret (.cmp .eq (.bi .len [(.lc (.v 1) (.n 1) (.v 0) [(.call 4 [(.v 1)])])]) (.bi .len [(.pk 0)]))]⟩
/-- _law_longest -/
def f8 : Z.Fn := ⟨2, 6, [], [], 2, [
  .asg (.n 2) (.lc (.int 0) (.n 3) (.rg (.pk 0)) []),
  .fr (.n 3) (.rg (.op .add (.pk 0) (.int 1))) [.asg (.n 4) (.bl false), .fr (.n 5) (.v 1) [.ite (.cmp .lt (.ix (.pk 2) (.ix (.pk 5) (.int 0))) (.op .add (.ix (.pk 2) (.ix (.pk 5) (.int 1))) (.ix (.pk 5) (.int 2)))) [.six (.pk 2) (.ix (.v 5) (.int 0)) (.op .add (.ix (.pk 2) (.ix (.pk 5) (.int 1))) (.ix (.pk 5) (.int 2))), .asg (.n 4) (.bl true)] []], .ite (.nt (.pk 4)) [.ret (.mv 2)] []],
  .ret .non]⟩
/-- _law_ring -/
def f9 : Z.Fn := ⟨2, 7, [], [], 100, [
  .ite (.or (.nt (.call 7 [(.v 1)])) (.cmp .eq (.bi .len [(.pk 1)]) (.int 0))) [.ret (.bl false)] [],
  .asg (.n 2) (.int 0),
  .asg (.n 3) (.lst []),
  .fr (.n 4) (.rg (.bi .len [(.pk 1)])) [.ite (.or (.cmp .lt (.ix (.pk 1) (.pk 4)) (.int 0)) (.cmp .ge (.ix (.pk 1) (.pk 4)) (.bi .len [(.pk 0)]))) [.ret (.bl false)] [], .asg (.n 5) (.ix (.v 0) (.ix (.pk 1) (.pk 4))), .asg (.n 6) (.ix (.v 1) (.int 0)), .ite (.cmp .lt (.op .add (.pk 4) (.int 1)) (.bi .len [(.pk 1)])) [.asg (.n 6) (.ix (.v 1) (.op .add (.pk 4) (.int 1)))] [], .ite (.or (.cmp .lt (.pk 6) (.int 0)) (.or (.cmp .ge (.pk 6) (.bi .len [(.pk 0)])) (.or (.cmp .ne (.ix (.ix (.pk 0) (.pk 6)) (.int 0)) (.ix (.pk 5) (.int 1))) (.cmp .isin (.ix (.pk 5) (.int 0)) (.pk 3))))) [.ret (.bl false)] [], .app (.pk 3) (.ix (.v 5) (.int 0)), .asg (.n 2) (.op .add (.pk 2) (.ix (.pk 5) (.int 2)))],
  .ret (.cmp .gt (.pk 2) (.int 0))]⟩
/-- _law_judged -/
def f10 : Z.Fn := ⟨2, 4, [], [], 100, [
  .ite (.nt (.call 1 [(.bi .list [(.v 0)]), (.bi .list [(.v 1)])])) [.ret (.bl false)] [],
  .fr (.n 2) (.lst [(.lst []), (.cat (.v 1) (.lst [(.ix (.v 1) (.int 0))])), (.slT (.v 1) (some (.int 1)) none), (.cat (.slT (.v 1) (some (.int 1)) none) (.lst [(.bi .len [(.pk 0)])])), (.cat (.lst [(.neg (.int 1))]) (.slT (.v 1) (some (.int 1)) none))]) [.asg (.n 3) (.call 1 [(.bi .list [(.v 0)]), (.bi .list [(.v 2)])]), .ite (.call 9 [(.v 0), (.v 2)]) [.ite (.cmp .isn (.pk 3) (.bl true)) [.ret (.bl false)] []] [.ite (.cmp .isn (.pk 3) (.bl false)) [.ret (.bl false)] []]],
  .ret (.bl true)]⟩
/-- _law_bounds -/
def f11 : Z.Fn := ⟨5, 12, [], [], 3, [
  .asg (.n 5) (.call 6 [(.v 0), (.int 1), (.v 2), (.v 1)]),
  .asg (.n 6) (.call 6 [(.v 0), (.int 2), (.v 2), (.v 1)]),
  .asg (.n 7) (.lc (.op .sub (.pk 10) (.pk 3)) (.n 10) (.call 6 [(.v 0), (.int 3), (.v 2), (.op .mul (.int 2) (.pk 3))]) []),
  .asg (.n 8) (.call 6 [(.v 0), (.int 4), (.v 1), (.int 10)]),
  .asg (.n 9) (.call 6 [(.v 0), (.int 5), (.v 2), (.int 3)]),
  .ite (.pk 4) [.asg (.n 7) (.lc (.op .sub (.op .sub (.ix (.pk 8) (.ix (.pk 5) (.pk 11))) (.ix (.pk 8) (.ix (.pk 6) (.pk 11)))) (.ix (.pk 9) (.pk 11))) (.n 11) (.rg (.pk 2)) [])] [],
  .ret (.lc (.tup [(.ix (.v 5) (.pk 11)), (.ix (.v 6) (.pk 11)), (.ix (.v 7) (.pk 11))]) (.n 11) (.rg (.pk 2)) [])]⟩
/-- law -/
def f12 : Z.Fn := ⟨1, 11, [], [], 100, [
  .asg (.n 1) (.call 5 [(.v 0), (.int 0)]),
  .asg (.n 2) (.op .mod (.bi .int [(.pk 1)]) (.int 8)),
  .asg (.n 3) (.op .mod (.bi .int [(.op .fdiv (.pk 1) (.int 8))]) (.int 15)),
  .ite (.cmp .eq (.op .mod (.bi .int [(.op .fdiv (.pk 1) (.int 120))]) (.int 16)) (.int 5)) [.asg (.n 2) (.int 16), .asg (.n 3) (.int 60)] [],
  .ite (.cmp .eq (.pk 2) (.int 0)) [.asg (.n 3) (.int 0)] [],
  .asg (.n 4) (.int 4),
  .ite (.cmp .eq (.op .mod (.bi .int [(.op .fdiv (.pk 1) (.int 1920))]) (.int 8)) (.int 3)) [.asg (.n 4) (.int 999999)] [],
  .asg (.n 5) (.call 11 [(.v 0), (.v 2), (.v 3), (.v 4), (.cmp .eq (.op .mod (.bi .int [(.op .fdiv (.pk 1) (.int 15360))]) (.int 2)) (.int 0))]),
  .ite (.and (.cmp .gt (.pk 3) (.int 0)) (.and (.cmp .lt (.pk 3) (.int 60)) (.and (.cmp .gt (.pk 2) (.int 1)) (.cmp .eq (.op .mod (.bi .int [(.op .fdiv (.pk 1) (.int 30720))]) (.int 4)) (.int 0))))) [.asg (.n 9) (.op .mod (.bi .int [(.call 5 [(.v 0), (.int 6)])]) (.pk 3)), .asg (.n 10) (.tup [(.ix (.ix (.v 5) (.pk 9)) (.int 1)), (.ix (.ix (.v 5) (.pk 9)) (.int 0)), (.op .sub (.op .mod (.bi .int [(.op .fdiv (.pk 1) (.int 122880))]) (.int 2)) (.ix (.ix (.pk 5) (.pk 9)) (.int 2)))]), .asg (.n 5) (.cat (.cat (.slT (.v 5) none (some (.op .add (.pk 9) (.int 1)))) (.lst [(.v 10)])) (.slT (.v 5) (some (.op .add (.pk 9) (.int 1))) none))] [],
  .asg (.n 6) (.bi .list [(.v 5)]),
  .asg (.n 7) (.call 0 [(.v 2), (.v 6)]),
  .ite (.or (.cmp .ne (.pk 6) (.pk 5)) (.or (.nt (.bi .isTuple [(.pk 7)])) (.or (.cmp .ne (.bi .len [(.pk 7)]) (.int 2)) (.nt (.call 7 [(.ix (.v 7) (.int 1))]))))) [.ret (.bl false)] [],
  .asg (.n 8) (.call 8 [(.v 2), (.v 5)]),
  .ite (.cmp .isn (.pk 8) .non) [.ret (.and (.cmp .eq (.ix (.pk 7) (.int 0)) (.str [115, 99, 97, 108, 101])) (.cmp .eq (.ix (.pk 7) (.int 1)) (.pk 8)))] [],
  .ret (.and (.cmp .eq (.ix (.pk 7) (.int 0)) (.str [114, 105, 110, 103])) (.and (.call 9 [(.v 5), (.ix (.v 7) (.int 1))]) (.call 10 [(.v 5), (.ix (.v 7) (.int 1))])))]⟩
def prog : Z.Prog := ⟨[f0, f1, f2, f3, f4, f5, f6, f7, f8, f9, f10, f11, f12], [], fun a b => a == b⟩
end LW

namespace LW
open PySem PySem.Spec L2 PyProof.Rows
def top (i : Nat) : Stmt := PySem.Challenge.pw_scalesfound_k08_least_scale_or_ring.main.body.getD i (.Pass ⟨0, 0, 0, 0⟩)
def ds : List Z.Df := [
  ⟨⟨("least_scale", none), "least_scale", "least_scale", defArgs (top 1), defBody (top 1), defScope (top 1), [], []⟩, ["count", "bounds", "numbers", "marks", "changed", "_"], ["count", "bounds"], f0⟩,
  ⟨⟨("is_ring", none), "is_ring", "is_ring", defArgs (top 2), defBody (top 2), defScope (top 2), [], []⟩, ["bounds", "ring", "uppers", "lowers", "place"], ["bounds", "ring"], f1⟩,
  ⟨⟨("_round", none), "_round", "_round", defArgs (top 3), defBody (top 3), defScope (top 3), [], []⟩, ["numbers", "marks", "bounds", "changed", "place", "bound", "upper", "lower", "gap"], ["numbers", "marks", "bounds"], f2⟩,
  ⟨⟨("_ring", none), "_ring", "_ring", defArgs (top 4), defBody (top 4), defScope (top 4), [], []⟩, ["marks", "bounds", "start", "seen", "at", "unknown"], ["marks", "bounds", "start"], f3⟩,
  ⟨⟨("_law_is_whole", none), "_law_is_whole", "_law_is_whole", defArgs (top 6), defBody (top 6), defScope (top 6), [], []⟩, ["x"], ["x"], f4⟩,
  ⟨⟨("_law_cell", none), "_law_cell", "_law_cell", defArgs (top 7), defBody (top 7), defScope (top 7), [], []⟩, ["script", "k"], ["script", "k"], f5⟩,
  ⟨⟨("_law_many", none), "_law_many", "_law_many", defArgs (top 8), defBody (top 8), defScope (top 8), [], []⟩, ["script", "k", "many", "limit", "cell", "left", "found", "turn", "mixed"], ["script", "k", "many", "limit"], f6⟩,
  ⟨⟨("_law_whole_list", none), "_law_whole_list", "_law_whole_list", defArgs (top 9), defBody (top 9), defScope (top 9), [], []⟩, ["actual", "x"], ["actual"], f7⟩,
  ⟨⟨("_law_longest", none), "_law_longest", "_law_longest", defArgs (top 10), defBody (top 10), defScope (top 10), [], []⟩, ["count", "bounds", "numbers", "turn", "changed", "bound"], ["count", "bounds"], f8⟩,
  ⟨⟨("_law_ring", none), "_law_ring", "_law_ring", defArgs (top 11), defBody (top 11), defScope (top 11), [], []⟩, ["bounds", "ring", "total", "seen", "at", "bound", "after"], ["bounds", "ring"], f9⟩,
  ⟨⟨("_law_judged", none), "_law_judged", "_law_judged", defArgs (top 12), defBody (top 12), defScope (top 12), [], []⟩, ["bounds", "ring", "wrong", "told"], ["bounds", "ring"], f10⟩,
  ⟨⟨("_law_bounds", none), "_law_bounds", "_law_bounds", defArgs (top 13), defBody (top 13), defScope (top 13), [], []⟩, ["script", "count", "many", "wide", "kept", "uppers", "lowers", "gaps", "hidden", "slack", "x", "at"], ["script", "count", "many", "wide", "kept"], f11⟩,
  ⟨⟨("law", none), "law", "law", defArgs (top 14), defBody (top 14), defScope (top 14), [], []⟩, ["script", "size", "count", "many", "wide", "bounds", "handed", "answer", "due", "at", "turned"], ["script"], f12⟩]
def rs : List Z.XRow := []
def file : Str := (PySem.Challenge.pw_scalesfound_k08_least_scale_or_ring).main.file
def lw (K : PySem.W.Frag) : Z.Lw := ⟨⟨K, prog, Z.caOf K rs, Z.cfOf rs⟩, ["least_scale", "is_ring", "_round", "_ring", "_law_is_whole", "_law_cell", "_law_many", "_law_whole_list", "_law_longest", "_law_ring", "_law_judged", "_law_bounds", "law"], [], rs.map (·.x), rs.map (·.m), Z.tbOf rs⟩
def fa : List He.Fa := ds.map (fun D => .glo D.d.name) ++ Z.blt.map .free
abbrev loose : List Str := (["least_scale", "is_ring", "_round", "_ring", "_law_is_whole", "_law_cell", "_law_many", "_law_whole_list", "_law_longest", "_law_ring", "_law_judged", "_law_bounds"] : List Str)
abbrev vw : List Nat := [14]
theorem sc : ds.all (fun D => Z.scB D.N D.ps D.d.scope) = true := by kernel_rfl
theorem ck (K : PySem.W.Frag) : ds.all (Z.ckD (lw K) 200) = true := by kernel_rfl
theorem pl : ds.all Z.plainD = true := by kernel_rfl
theorem pl2 : ds.all (fun D => decide (D.d.at_.1 = D.d.name)) = true := by kernel_rfl
theorem bd : ∀ D ∈ ds, Z.BindB D := by
  intro D hD
  simp only [ds, List.mem_cons, List.not_mem_nil, or_false] at hD
  rcases hD with rfl | rfl | rfl | rfl | rfl | rfl | rfl | rfl | rfl | rfl | rfl | rfl | rfl
  · exact fun _ _ _ _ _ _ us hl => match us, hl with | [_, _], _ => rfl
  · exact fun _ _ _ _ _ _ us hl => match us, hl with | [_, _], _ => rfl
  · exact fun _ _ _ _ _ _ us hl => match us, hl with | [_, _, _], _ => rfl
  · exact fun _ _ _ _ _ _ us hl => match us, hl with | [_, _, _], _ => rfl
  · exact fun _ _ _ _ _ _ us hl => match us, hl with | [_], _ => rfl
  · exact fun _ _ _ _ _ _ us hl => match us, hl with | [_, _], _ => rfl
  · exact fun _ _ _ _ _ _ us hl => match us, hl with | [_, _, _, _], _ => rfl
  · exact fun _ _ _ _ _ _ us hl => match us, hl with | [_], _ => rfl
  · exact fun _ _ _ _ _ _ us hl => match us, hl with | [_, _], _ => rfl
  · exact fun _ _ _ _ _ _ us hl => match us, hl with | [_, _], _ => rfl
  · exact fun _ _ _ _ _ _ us hl => match us, hl with | [_, _], _ => rfl
  · exact fun _ _ _ _ _ _ us hl => match us, hl with | [_, _, _, _, _], _ => rfl
  · exact fun _ _ _ _ _ _ us hl => match us, hl with | [_], _ => rfl
end LW

/-! The plain law of k08: rounds over bounds. -/
namespace LW
structure Bd where
  u : Nat
  l : Nat
  g : Int
deriving Inhabited
structure S8 where
  N : Nat → Int
  M : Nat → Option Nat
  L : Nat → Nat
  c : Option Nat
def updF {α : Type} (f : Nat → α) (u : Nat) (x : α) : Nat → α := fun v => if v = u then x else f v
theorem updF_same {α : Type} {f : Nat → α} {u : Nat} {x : α} : updF f u x u = x := if_pos rfl
theorem updF_ne {α : Type} {f : Nat → α} {u v : Nat} {x : α} (h : v ≠ u) : updF f u x v = f v := if_neg h
def relax (k p : Nat) (b : Bd) (s : S8) : S8 := if s.N b.u < s.N b.l + b.g then ⟨updF s.N b.u (s.N b.l + b.g), updF s.M b.u (some p), updF s.L b.u k, some b.u⟩ else s
def rdF (k : Nat) : List Bd → Nat → S8 → S8
  | [], _, s => s
  | b :: r, p, s => rdF k r (p + 1) (relax k p b s)
def round (k : Nat) (B : List Bd) (s : S8) : S8 := rdF k B 0 { s with c := none }
def s0 : S8 := ⟨fun _ => 0, fun _ => none, fun _ => 0, none⟩
def its (B : List Bd) : Nat → S8
  | 0 => s0
  | k + 1 => round (k + 1) B (its B k)
section
variable {B : List Bd}
/-- a walk along the marks -/
inductive Wk (B : List Bd) (M : Nat → Option Nat) : Nat → Nat → Int → Prop
  | one {v p : Nat} (h : M v = some p) : Wk B M v (B.getD p default).l (B.getD p default).g
  | step {v p w : Nat} {t : Int} (h : M v = some p) (r : Wk B M (B.getD p default).l w t) : Wk B M v w ((B.getD p default).g + t)
/-- what is known in round k behind q bounds -/
structure Inv (B : List Bd) (k q : Nat) (s : S8) : Prop where
  i1 : ∀ v p, s.M v = some p → p < B.length ∧ (B.getD p default).u = v ∧ s.N v ≤ s.N (B.getD p default).l + (B.getD p default).g ∧ s.L v ≤ s.L (B.getD p default).l + 1 ∧ 1 ≤ s.L v
  i2 : ∀ v, s.M v = none → s.L v = 0
  i3 : ∀ e, e < B.length → s.L (B.getD e default).l < (if e < q then k else k - 1) → s.N (B.getD e default).l + (B.getD e default).g ≤ s.N (B.getD e default).u
  i4 : ∀ v, s.L v ≤ k
  i5 : ∀ v t, Wk B s.M v v t → 0 < t
  i6 : ∀ v, s.c = some v → s.L v = k ∧ ∃ p, s.M v = some p
theorem wk_old {s : S8} {M' : Nat → Option Nat} {u : Nat} (h1 : ∀ v p, s.M v = some p → s.N v ≤ s.N (B.getD p default).l + (B.getD p default).g) (h2 : ∀ v, v ≠ u → M' v = s.M v) (h3 : ∀ p, M' u = some p → s.N u < s.N (B.getD p default).l + (B.getD p default).g) :
    ∀ {v w : Nat} {t : Int}, Wk B M' v w t → s.N v < s.N w + t ∨ (s.N v ≤ s.N w + t ∧ Wk B s.M v w t) := by
  intro v w t h
  induction h with
  | @one v p h =>
    by_cases hv : v = u
    · subst hv; exact .inl (h3 p h)
    · rw [h2 v hv] at h
      exact .inr ⟨h1 v p h, .one h⟩
  | @step v p w t h r ih =>
    by_cases hv : v = u
    · subst hv
      have := h3 p h
      rcases ih with ih | ⟨ih, _⟩ <;> exact .inl (by omega)
    · rw [h2 v hv] at h
      have := h1 v p h
      rcases ih with ih | ⟨ih, ow⟩
      · exact .inl (by omega)
      · exact .inr ⟨by omega, .step h ow⟩
theorem inv_relax {k q : Nat} {s : S8} (hk : 1 ≤ k) (hq : q < B.length) (I : Inv B k q s) : Inv B k (q + 1) (relax k q (B.getD q default) s) := by
  unfold relax
  by_cases hr : s.N (B.getD q default).u < s.N (B.getD q default).l + (B.getD q default).g
  · rw [if_pos hr]
    generalize hb : B.getD q default = b at hr
    have hL : k - 1 ≤ s.L b.l := by
      refine Classical.byContradiction fun n => ?_
      have := I.i3 q hq (by rw [if_neg (Nat.lt_irrefl q), hb]; omega)
      rw [hb] at this
      omega
    have hN : ∀ v, s.N v ≤ updF s.N b.u (s.N b.l + b.g) v := fun v => by
      by_cases hv : v = b.u
      · subst hv; rw [updF_same]; omega
      · rw [updF_ne hv]; exact Int.le_refl _
    have hLL : ∀ v, s.L v ≤ updF s.L b.u k v := fun v => by
      by_cases hv : v = b.u
      · subst hv; rw [updF_same]; exact I.i4 _
      · rw [updF_ne hv]; exact Nat.le_refl _
    refine ⟨fun v p hp => ?_, fun v hv => ?_, fun e he hlt => ?_, fun v => ?_, fun v t w => ?_, fun v hv => ?_⟩
    · dsimp only at hp ⊢
      by_cases hv : v = b.u
      · subst hv
        rw [updF_same] at hp
        cases hp
        rw [hb, updF_same, updF_same]
        refine ⟨hq, rfl, ?_, ?_, hk⟩
        · have := hN b.l
          omega
        · have := hLL b.l
          omega
      · rw [updF_ne hv] at hp
        obtain ⟨a1, a2, a3, a4, a5⟩ := I.i1 v p hp
        rw [updF_ne hv, updF_ne hv]
        have := hN (B.getD p default).l
        have := hLL (B.getD p default).l
        exact ⟨a1, a2, by omega, by omega, a5⟩
    · dsimp only at hv ⊢
      by_cases he : v = b.u
      · subst he; rw [updF_same] at hv; cases hv
      · rw [updF_ne he] at hv ⊢; exact I.i2 v hv
    · dsimp only at hlt ⊢
      by_cases hl : (B.getD e default).l = b.u
      · rw [hl, updF_same] at hlt
        split at hlt <;> omega
      · rw [updF_ne hl] at hlt ⊢
        by_cases heq : e = q
        · subst heq
          rw [hb, updF_same]
          exact Int.le_refl _
        · have : s.L (B.getD e default).l < if e < q then k else k - 1 := by
            by_cases h2 : e < q
            · rw [if_pos h2]; rw [if_pos (by omega)] at hlt; exact hlt
            · rw [if_neg h2]; rw [if_neg (by omega)] at hlt; exact hlt
          have := I.i3 e he this
          have := hN (B.getD e default).u
          omega
    · dsimp only
      by_cases hv : v = b.u
      · subst hv; rw [updF_same]; exact Nat.le_refl _
      · rw [updF_ne hv]; exact I.i4 v
    · rcases wk_old (B := B) (s := s) (u := b.u) (fun v p h => (I.i1 v p h).2.2.1) (fun v hv => updF_ne hv) (fun p hp => by
        rw [updF_same] at hp; cases hp; rw [hb]; exact hr) w with h | ⟨_, h⟩
      · omega
      · exact I.i5 v t h
    · dsimp only at hv ⊢
      cases hv
      exact ⟨updF_same, q, updF_same⟩
  · rw [if_neg hr]
    refine ⟨I.i1, I.i2, fun e he hlt => ?_, I.i4, I.i5, I.i6⟩
    by_cases heq : e = q
    · subst heq; omega
    · refine I.i3 e he ?_
      by_cases h2 : e < q
      · rw [if_pos h2]; rw [if_pos (by omega)] at hlt; exact hlt
      · rw [if_neg h2]; rw [if_neg (by omega)] at hlt; exact hlt
theorem inv_rdF {k : Nat} (hk : 1 ≤ k) : ∀ (r : List Bd) (q : Nat) (s : S8), B = B.take q ++ r → q ≤ B.length → Inv B k q s → Inv B k B.length (rdF k r q s)
  | [], q, s, h, hq, I => by
    have : q = B.length := by
      have := congrArg List.length h
      rw [List.append_nil, List.length_take] at this
      omega
    subst this
    exact I
  | b :: r, q, s, h, hq, I => by
    have hlt : q < B.length := by
      have := congrArg List.length h
      rw [List.length_append, List.length_take, List.length_cons] at this
      omega
    have hb : B.getD q default = b := by
      rw [h, List.getD_eq_getElem?_getD, List.getElem?_append_right (by rw [List.length_take]; omega)]
      rw [List.length_take, Nat.min_eq_left hq, Nat.sub_self]; rfl
    have I2 := inv_relax hk hlt I
    rw [hb] at I2
    refine inv_rdF hk r (q + 1) _ ?_ hlt I2
    have hg : B[q]? = some b := by
      rw [h, List.getElem?_append_right (by rw [List.length_take]; omega), List.length_take, Nat.min_eq_left hq, Nat.sub_self]; rfl
    rw [List.take_succ, hg]
    simp only [Option.toList_some, List.append_assoc, List.cons_append, List.nil_append]
    exact h
theorem inv_its : ∀ k, Inv B k B.length (its B k)
  | 0 => ⟨fun v p h => (by cases h), fun v h => rfl, fun e he h => (by simp only [its, s0] at h; split at h <;> omega), fun v => Nat.le_refl _, fun v t w => (by
      cases w with
      | one h => cases h
      | step h _ => cases h), fun v h => (by cases h)⟩
  | k + 1 => by
    have I := inv_its k
    refine inv_rdF (k := k + 1) (Nat.succ_pos k) B 0 _ (by simp) (Nat.zero_le _) ⟨I.i1, I.i2, fun e he h => I.i3 e he ?_, fun v => Nat.le_succ_of_le (I.i4 v), I.i5, fun v h => by cases h⟩
    rw [if_neg (Nat.not_lt_zero e)] at h
    rw [if_pos he]
    exact h
/-- a round without a change: every bound is kept -/
theorem rdF_none {k : Nat} : ∀ (r : List Bd) (q : Nat) (s : S8), (rdF k r q s).c = none → rdF k r q s = s ∧ ∀ b ∈ r, s.N b.l + b.g ≤ s.N b.u
  | [], q, s, h => ⟨rfl, fun b hb => by simp at hb⟩
  | b :: r, q, s, h => by
    have key : ∀ (r : List Bd) (q : Nat) (s : S8), s.c ≠ none → (rdF k r q s).c ≠ none := by
      intro r
      induction r with
      | nil => intro q s h; exact h
      | cons b r ih =>
        intro q s h
        refine ih (q + 1) _ ?_
        unfold relax
        split
        · simp
        · exact h
    simp only [rdF] at h ⊢
    by_cases hr : s.N b.u < s.N b.l + b.g
    · exact absurd h (key r (q + 1) _ (by unfold relax; rw [if_pos hr]; simp))
    · have e : relax k q b s = s := by unfold relax; rw [if_neg hr]
      rw [e] at h ⊢
      obtain ⟨h1, h2⟩ := rdF_none r (q + 1) s h
      refine ⟨h1, fun x hx => ?_⟩
      rcases List.mem_cons.mp hx with rfl | hx
      · omega
      · exact h2 x hx
/-- the way along the marks from u -/
def way (B : List Bd) (M : Nat → Option Nat) (u : Nat) : Nat → Nat
  | 0 => u
  | i + 1 => (B.getD ((M (way B M u i)).getD 0) default).l
theorem way_last {k : Nat} {s : S8} (I : Inv B k B.length s) {u : Nat} (hu : s.L u = k) : ∀ i, i ≤ k → k ≤ s.L (way B s.M u i) + i
  | 0, _ => by simp only [way]; omega
  | i + 1, h => by
    have ih := way_last I hu i (by omega)
    cases hm : s.M (way B s.M u i) with
    | none => have := I.i2 _ hm; omega
    | some p =>
      have := (I.i1 _ p hm).2.2.2.1
      simp only [way, hm, Option.getD_some]
      omega
theorem way_mark {k : Nat} {s : S8} (I : Inv B k B.length s) {u : Nat} (hu : s.L u = k) {i : Nat} (h : i < k) : ∃ p, s.M (way B s.M u i) = some p ∧ p < B.length ∧ (B.getD p default).u = way B s.M u i ∧ (B.getD p default).l = way B s.M u (i + 1) := by
  have := way_last I hu i (by omega)
  cases hm : s.M (way B s.M u i) with
  | none => have := I.i2 _ hm; omega
  | some p =>
    obtain ⟨a1, a2, _⟩ := I.i1 _ p hm
    refine ⟨p, rfl, a1, a2, ?_⟩
    simp only [way, hm, Option.getD_some]
/-- the way as a walk -/
theorem way_wk {k : Nat} {s : S8} (I : Inv B k B.length s) {u : Nat} (hu : s.L u = k) : ∀ (d r : Nat), r + d + 1 ≤ k → Wk B s.M (way B s.M u r) (way B s.M u (r + d + 1)) (((List.range (d + 1)).map fun j => (B.getD ((s.M (way B s.M u (r + j))).getD 0) default).g).sum)
  | 0, r, h => by
    obtain ⟨p, h1, h2, h3, h4⟩ := way_mark I hu (i := r) (by omega)
    have e : ((List.range (0 + 1)).map fun j => (B.getD ((s.M (way B s.M u (r + j))).getD 0) default).g).sum = (B.getD p default).g := by
      simp [h1]
    rw [e]
    have := Wk.one (B := B) h1
    rw [h4] at this
    exact this
  | d + 1, r, h => by
    obtain ⟨p, h1, h2, h3, h4⟩ := way_mark I hu (i := r) (by omega)
    have ih := way_wk I hu d (r + 1) (by omega)
    rw [show r + 1 + d + 1 = r + (d + 1) + 1 by omega] at ih
    rw [← h4] at ih
    have := Wk.step (B := B) h1 ih
    have e : ((List.range (d + 1 + 1)).map fun j => (B.getD ((s.M (way B s.M u (r + j))).getD 0) default).g).sum = (B.getD p default).g + ((List.range (d + 1)).map fun j => (B.getD ((s.M (way B s.M u (r + 1 + j))).getD 0) default).g).sum := by
      rw [List.range_succ_eq_map (n := d + 1)]
      simp only [List.map_cons, List.map_map, List.sum_cons, Nat.add_zero, h1, Option.getD_some]
      congr 2
      refine List.map_congr_left fun j _ => ?_
      simp only [Function.comp]
      rw [show r + (j + 1) = r + 1 + j by omega]
    rw [e]
    exact this
/-- no walk rises where every bound is kept -/
theorem wk_kept {s : S8} (h1 : ∀ v p, s.M v = some p → p < B.length ∧ (B.getD p default).u = v) (h2 : ∀ b ∈ B, s.N b.l + b.g ≤ s.N b.u) : ∀ {v w : Nat} {t : Int}, Wk B s.M v w t → s.N w + t ≤ s.N v := by
  have get : ∀ p, p < B.length → B.getD p default ∈ B := fun p hp => by
    have : B.getD p default = B[p] := by simp [hp]
    rw [this]; exact List.getElem_mem hp
  intro v w t h
  induction h with
  | @one v p h =>
    obtain ⟨a, b⟩ := h1 v p h
    have := h2 _ (get p a)
    rw [b] at this
    exact this
  | @step v p w t h r ih =>
    obtain ⟨a, b⟩ := h1 v p h
    have := h2 _ (get p a)
    rw [b] at this
    omega
/-- all marks and ways below n -/
theorem way_lt {n k : Nat} {s : S8} (hB : ∀ b ∈ B, b.u < n ∧ b.l < n) (I : Inv B k B.length s) {u : Nat} (hu : s.L u = k) (hun : u < n) : ∀ i, i ≤ k → way B s.M u i < n
  | 0, _ => hun
  | i + 1, h => by
    obtain ⟨p, h1, h2, h3, h4⟩ := way_mark I hu (i := i) (by omega)
    rw [← h4]
    have : B.getD p default = B[p] := by simp [h2]
    rw [this]
    exact (hB _ (List.getElem_mem h2)).2
theorem rel_lt {n k : Nat} (hB : ∀ b ∈ B, b.u < n ∧ b.l < n) : ∀ (r : List Bd) (q : Nat) (s : S8), (∀ b ∈ r, b ∈ B) → (∀ v, s.c = some v → v < n) → ∀ v, (rdF k r q s).c = some v → v < n
  | [], q, s, _, h, v, hv => h v hv
  | b :: r, q, s, hr, h, v, hv => by
    refine rel_lt hB r (q + 1) _ (fun x hx => hr x (List.mem_cons_of_mem _ hx)) (fun w hw => ?_) v hv
    unfold relax at hw
    split at hw
    · cases hw; exact (hB b (hr b List.mem_cons_self)).1
    · exact h w hw
end
end LW

namespace LW
open Z
theorem r_cell {n : Nat} {o : List Ob} {ns : List Int} {k : Int} (hk : 0 ≤ k) : ∃ c, run prog (n + 1) 5 [.lst (ns.map .int), .int k] o = .ok (.int c) [] o := by
  rw [run_eq (fn := f5) rfl]
  simp only [callFn, f5]
  by_cases h1 : k < (ns.length : Int)
  · have : getI (ns.map D.int) k = some (D.int (ns[k.toNat]'(by omega))) := by
      have := getI_nat (xs := ns.map D.int) (k := k.toNat) (by simp; omega)
      rw [show ((k.toNat : Nat) : Int) = k by omega] at this
      rw [this]; simp
    simp [h1, this, ends, outsOf]
  · simp [h1, ends, outsOf]
def bA : List Z.S := [.app (.pk 6) (.op .mod (.bi .int [(.pk 5)]) (.pk 3)), .asg (.n 5) (.op .fdiv (.pk 5) (.pk 3))]
def bB : List Z.S := [.asg (.n 8) (.op .mod (.bi .int [(.op .add (.op .add (.op .add (.op .mul (.pk 4) (.int 48271)) (.op .mul (.pk 7) (.int 69621))) (.op .mul (.int 17) (.pk 1))) (.int 11))]) (.int 2147483647)), .asg (.n 8) (.op .mod (.bi .int [(.op .add (.op .add (.op .mul (.pk 8) (.pk 8)) (.op .mul (.pk 7) (.int 40692))) (.int 3))]) (.int 2147483399)), .asg (.n 8) (.op .mod (.bi .int [(.op .add (.op .add (.op .mul (.pk 8) (.pk 8)) (.op .mul (.pk 7) (.int 7))) (.pk 1))]) (.int 2147483579)), .app (.pk 6) (.op .mod (.bi .int [(.op .fdiv (.pk 8) (.int 64))]) (.pk 3))]
def bC : C := .and (.cmp .ge (.bi .abs [(.pk 4)]) (.op .pow (.int 10) (.int 18))) (.cmp .gt (.pk 5) (.int 0))
theorem r_many {n : Nat} {o : List Ob} {ns : List Int} {k many limit : Int} (hk : 0 ≤ k) (hk2 : k ≤ 1000) (hm : 0 ≤ many) (hm2 : many ≤ 1000) (hl : 0 < limit) (hl2 : limit < 1073741824) :
    ∃ l : List Int, run prog (n + 2) 6 [.lst (ns.map .int), .int k, .int many, .int limit] o = .ok (.lst (l.map .int)) [] o ∧ l.length = many.toNat ∧ ∀ x ∈ l, 0 ≤ x ∧ x < limit := by
  obtain ⟨c, hc⟩ := r_cell (n := n) (o := o) (ns := ns) hk
  rw [run_eq (fn := f6) rfl]
  have hcall : ∀ e : Env, e.o = o → callR (run prog (n + 1)) 5 [C.v 0, C.v 1] [D.lst (ns.map .int), D.int k] e = .ok (.int c) e := fun e he => by
    rw [callR_ok (by rw [he]; exact hc)]
    cases e; simp_all
  have hrg := rg_ok (n := many) (by omega) hm
  have hlim : limit ≠ 0 := by omega
  have hlim2 : limit.natAbs < 1073741824 := by omega
  have inv := for_inv (t := .n 7) (b := exs prog.gl (run prog (n + 1)) prog.sub [.ite bC bA bB])
    (fun i e => ∃ (left : Int) (l : List Int) (d7 d8 : D), e = ⟨[.lst (ns.map .int), .int k, .int many, .int limit, .int c, .int left, .lst (l.map .int), d7, d8], o⟩ ∧ 0 ≤ left ∧ l.length = i ∧ ∀ x ∈ l, 0 ≤ x ∧ x < limit) (xs := rangeD 0 many.toNat) (k := 0) (e := ⟨[.lst (ns.map .int), .int k, .int many, .int limit, .int c, .int (if c < 0 then -c else c), .lst [], .non, .non], o⟩)
    ⟨_, [], _, _, rfl, by split <;> omega, rfl, by simp⟩ ?_
  · obtain ⟨e', h1, left, l, d7, d8, rfl, h2, h3, h4⟩ := inv
    refine ⟨l, ?_, by simpa [rangeD] using h3, h4⟩
    unfold bA bB bC at h1
    simp [callFn, f6, hcall, hrg]
    rw [h1]
    simp [ends, outsOf]
  · rintro i x e hx ⟨left, l, d7, d8, rfl, h2, h3, h4⟩
    obtain ⟨rfl, hi⟩ := rangeD_get hx
    have hll : (l.map D.int).length < LIM := by simp; exact Nat.lt_of_lt_of_le (by omega : l.length < 1001) (by decide)
    -- the branches
    have A : ∀ d7 d8, exs prog.gl (run prog (n + 1)) prog.sub bA ⟨[.lst (ns.map .int), .int k, .int many, .int limit, .int c, .int left, .lst (l.map .int), d7, d8], o⟩ = .nx ⟨[.lst (ns.map .int), .int k, .int many, .int limit, .int c, .int (left.fdiv limit), .lst ((l ++ [left.fmod limit]).map .int), d7, d8], o⟩ := fun d7 d8 => by
      simp [bA, op_mod_i hlim]
      rw [app_ok (by simp) hll]
      simp [op_div_i hlim hlim2]
    have B : ∀ (j : Int) d8, j.natAbs < 2 ^ 64 → ∃ (y m : Int), (0 ≤ y ∧ y < limit) ∧ exs prog.gl (run prog (n + 1)) prog.sub bB ⟨[.lst (ns.map .int), .int k, .int many, .int limit, .int c, .int left, .lst (l.map .int), .int j, d8], o⟩ = .nx ⟨[.lst (ns.map .int), .int k, .int many, .int limit, .int c, .int left, .lst ((l ++ [y]).map .int), .int j, .int m], o⟩ := fun j d8 hj => by
      have e1 : (48271 : Int).natAbs < 2 ^ 64 := by decide
      have e2 : (69621 : Int).natAbs < 2 ^ 64 := by decide
      have e3 : (17 : Int).natAbs < 2 ^ 64 := by decide
      have e4 : (40692 : Int).natAbs < 2 ^ 64 := by decide
      have e5 : (7 : Int).natAbs < 2 ^ 64 := by decide
      have f1 : ∀ y : Int, (y.fmod 2147483647).natAbs < 2 ^ 64 := fun y => by
        have := Int.fmod_nonneg_of_pos y (show (0 : Int) < 2147483647 by decide)
        have := Int.fmod_lt_of_pos y (show (0 : Int) < 2147483647 by decide)
        omega
      have f2 : ∀ y : Int, (y.fmod 2147483399).natAbs < 2 ^ 64 := fun y => by
        have := Int.fmod_nonneg_of_pos y (show (0 : Int) < 2147483399 by decide)
        have := Int.fmod_lt_of_pos y (show (0 : Int) < 2147483399 by decide)
        omega
      have e6 : (64 : Int).natAbs < 1073741824 := by decide
      let m1 := (c * 48271 + j * 69621 + 17 * k + 11).fmod 2147483647
      let m2 := (m1 * m1 + j * 40692 + 3).fmod 2147483399
      let m3 := (m2 * m2 + j * 7 + k).fmod 2147483579
      refine ⟨(m3.fdiv 64).fmod limit, m3, ⟨Int.fmod_nonneg_of_pos _ hl, Int.fmod_lt_of_pos _ hl⟩, ?_⟩
      simp only [bB, exs_cons, ex_asg, ev_op, ev_bi, evL_cons, evL_nil, ev_pk, ev_int, get_mk, List.getElem?_cons_zero, List.getElem?_cons_succ, R.lift_some, R.bind_ok, R.st_ok, op_mul_r e1, op_mul_r e2, op_mul_l e3, op_mul_r e4, op_mul_r e5, op_add_i, int_i, op_mod_i (show (2147483647 : Int) ≠ 0 by decide), op_mod_i (show (2147483399 : Int) ≠ 0 by decide), op_mod_i (show (2147483579 : Int) ≠ 0 by decide), asg_n, set_mk, List.set_cons_zero, List.set_cons_succ, RS.seq_nx, op_mul_l (f1 _), op_mul_l (f2 _), ex_app, evP_pk, Option.bind_some, getP_nil, op_div_i (show (64 : Int) ≠ 0 by decide) e6, op_mod_i hlim, exs_nil]
      rw [app_ok rfl hll]
      simp only [List.set_cons_zero, List.set_cons_succ, RS.seq_nx, exs_nil, List.map_append, List.map_cons, List.map_nil, m1, m2, m3]
    have hj : ((0 : Int) + (i : Nat)).natAbs < 2 ^ 64 := by omega
    by_cases g : (1000000000000000000 : Int) ≤ (if c < 0 then -c else c) ∧ 0 < left
    · refine ⟨_, _, rfl, .inl ?_, left.fdiv limit, l ++ [left.fmod limit], .int (0 + (i : Nat)), d8, rfl, Int.fdiv_nonneg h2 (by omega), by simp [h3], ?_⟩
      · obtain ⟨g1, g2⟩ := g
        simp only [exs_cons, ex_ite, bC, set_mk, List.set_cons_zero, List.set_cons_succ]
        simp [pow18, g1, g2]
        have := A (.int i) d8
        simp at this
        rw [this]
        simp
      · intro x hx
        rcases List.mem_append.mp hx with h | h
        · exact h4 x h
        · simp at h; subst h
          exact ⟨Int.fmod_nonneg_of_pos _ hl, Int.fmod_lt_of_pos _ hl⟩
    · obtain ⟨y, m, hy, hB⟩ := B (0 + (i : Nat)) d8 hj
      refine ⟨_, _, rfl, .inl ?_, left, l ++ [y], .int (0 + (i : Nat)), .int m, rfl, h2, by simp [h3], ?_⟩
      · have hc' : ev prog.gl (run prog (n + 1)) bC ⟨[.lst (ns.map .int), .int k, .int many, .int limit, .int c, .int left, .lst (l.map .int), .int (0 + (i : Nat)), d8], o⟩ = .ok (.bl false) ⟨[.lst (ns.map .int), .int k, .int many, .int limit, .int c, .int left, .lst (l.map .int), .int (0 + (i : Nat)), d8], o⟩ := by
          by_cases g1 : (1000000000000000000 : Int) ≤ (if c < 0 then -c else c)
          · have g2 : ¬ 0 < left := fun z => g ⟨g1, z⟩
            simp [bC, pow18, g1, g2]
          · simp [bC, pow18, g1]
        simp only [exs_cons, ex_ite, set_mk, List.set_cons_zero, List.set_cons_succ, hc', R.st_ok, truth_bl, hB, RS.seq_nx, exs_nil]
      · intro x hx
        rcases List.mem_append.mp hx with h | h
        · exact h4 x h
        · simp at h; subst h; exact hy
theorem r_many0 {n : Nat} {o : List Ob} {ns : List Int} {k limit : Int} (hk : 0 ≤ k) : run prog (n + 2) 6 [.lst (ns.map .int), .int k, .int 0, .int limit] o = .ok (.lst []) [] o := by
  obtain ⟨c, hc⟩ := r_cell (n := n) (o := o) (ns := ns) hk
  rw [run_eq (fn := f6) rfl]
  have hcall : ∀ e : Env, e.o = o → callR (run prog (n + 1)) 5 [C.v 0, C.v 1] [D.lst (ns.map .int), D.int k] e = .ok (.int c) e := fun e he => by
    rw [callR_ok (by rw [he]; exact hc)]
    cases e; simp_all
  simp [callFn, f6, hcall, rg_ok (n := 0) (by decide) (by decide), rangeD, forL, ends, outsOf]
theorem r_whole {n : Nat} {o : List Ob} {x : Int} : run prog (n + 1) 4 [.int x] o = .ok (.bl true) [] o := by
  rw [run_eq (fn := f4) rfl]
  simp [callFn, f4, b1, truth, ends, outsOf]
end LW

namespace LW
open Z
def optD : Option Nat → D
  | none => .non
  | some p => .int (p : Int)
def bdD (b : Bd) : D := .tup [.int (b.u : Int), .int (b.l : Int), .int b.g]
def BL (B : List Bd) : D := .lst (B.map bdD)
def NL (n : Nat) (s : S8) : List D := (List.range n).map fun v => D.int (s.N v)
def ML (n : Nat) (s : S8) : List D := (List.range n).map fun v => optD (s.M v)
theorem rng_set {α : Type} {F : α → D} {f : Nat → α} {n u : Nat} {x : α} : ((List.range n).map fun v => F (f v)).set u (F x) = (List.range n).map fun v => F (updF f u x v) := by
  refine List.ext_getElem (by simp) fun i h1 h2 => ?_
  simp only [List.getElem_set, List.getElem_map, List.getElem_range]
  by_cases e : u = i
  · subst e; simp [updF_same]
  · rw [if_neg e, updF_ne (fun h => e h.symm)]
theorem rng_get {F : Nat → D} {n u : Nat} (h : u < n) : getI ((List.range n).map F) (u : Int) = some (F u) := by
  rw [getI_nat (by simpa using h)]; simp
abbrev rb1 : List Z.S := [.asg (.tp [6, 7, 8]) (.v 5), .ite (.cmp .lt (.ix (.pk 0) (.pk 6)) (.op .add (.ix (.pk 0) (.pk 7)) (.pk 8))) [.six (.pk 0) (.pk 6) (.op .add (.ix (.pk 0) (.pk 7)) (.pk 8)), .six (.pk 1) (.pk 6) (.v 4), .asg (.n 3) (.v 6)] []]
abbrev rst (n : Nat) (B : List Bd) (s : S8) (d4 d5 d6 d7 d8 : D) (o : List Ob) : Env := ⟨[.lst (NL n s), .lst (ML n s), BL B, optD s.c, d4, d5, d6, d7, d8], o⟩
theorem r_rb {k : Oracle} {n p : Nat} {B : List Bd} {s : S8} {kk : Nat} {b : Bd} {d6 d7 d8 : D} {o : List Ob} (hu : b.u < n) (hl : b.l < n) :
    ∃ e6 e7 e8, exs prog.gl k prog.sub rb1 (rst n B s (.int (p : Int)) (bdD b) d6 d7 d8 o) = .nx (rst n B (relax kk p b s) (.int (p : Int)) (bdD b) e6 e7 e8 o) := by
  refine ⟨.int b.u, .int b.l, .int b.g, ?_⟩
  have e1 : exs prog.gl k prog.sub rb1 (rst n B s (.int (p : Int)) (bdD b) d6 d7 d8 o) = exs prog.gl k prog.sub [.ite (.cmp .lt (.ix (.pk 0) (.pk 6)) (.op .add (.ix (.pk 0) (.pk 7)) (.pk 8))) [.six (.pk 0) (.pk 6) (.op .add (.ix (.pk 0) (.pk 7)) (.pk 8)), .six (.pk 1) (.pk 6) (.v 4), .asg (.n 3) (.v 6)] []] (rst n B s (.int (p : Int)) (bdD b) (.int b.u) (.int b.l) (.int b.g) o) := by
    rfl
  rw [e1]
  have g1 : getI (NL n s) (b.u : Int) = some (.int (s.N b.u)) := rng_get hu
  have g2 : getI (NL n s) (b.l : Int) = some (.int (s.N b.l)) := rng_get hl
  unfold relax
  have hc : ∀ t : D, ev prog.gl k (.op .add (.ix (.pk 0) (.pk 7)) (.pk 8)) ⟨[.lst (NL n s), .lst (ML n s), BL B, t, .int (p : Int), bdD b, .int b.u, .int b.l, .int b.g], o⟩ = .ok (.int (s.N b.l + b.g)) ⟨[.lst (NL n s), .lst (ML n s), BL B, t, .int (p : Int), bdD b, .int b.u, .int b.l, .int b.g], o⟩ := fun t => by
    simp [g2]
  by_cases h : s.N b.u < s.N b.l + b.g
  · rw [if_pos h]
    have l1 : (b.u : Int) < (NL n s).length := by simp [NL]; omega
    have l2 : (b.u : Int) < (ML n s).length := by simp [ML]; omega
    have s1 : (NL n s).set b.u (.int (s.N b.l + b.g)) = (List.range n).map fun v => D.int (updF s.N b.u (s.N b.l + b.g) v) := rng_set
    have s2 : (ML n s).set b.u (.int (p : Int)) = (List.range n).map fun v => optD (updF s.M b.u (some p) v) := rng_set (x := some p)
    rw [exs_one, ex_ite, ev_cmp]
    simp only [ev_ix, ev_pk, get_mk, List.getElem?_cons_zero, List.getElem?_cons_succ, R.lift_some, R.bind_ok, ix_l, g1, cp_lt_i, h, decide_true, Option.map_some, R.st_ok, truth_bl, exs_cons, ex_six, hc, evP_pk, Option.bind_some, getP_nil]
    rw [six_ok rfl (by omega) l1]
    simp only [Int.toNat_natCast, s1, List.set_cons_zero, RS.seq_nx, exs_cons, ex_six, ev_v, get_mk, List.getElem?_cons_zero, List.getElem?_cons_succ, R.lift_some, R.st_ok, evP_pk, Option.bind_some, getP_nil, ev_pk]
    rw [six_ok rfl (by omega) l2]
    simp only [Int.toNat_natCast, s2, List.set_cons_zero, List.set_cons_succ, RS.seq_nx, exs_cons, ex_asg, ev_v, get_mk, List.getElem?_cons_zero, List.getElem?_cons_succ, R.lift_some, R.st_ok, asg_n, set_mk, exs_nil]
    rfl
  · rw [if_neg h]
    rw [exs_one, ex_ite, ev_cmp]
    simp only [ev_ix, ev_pk, get_mk, hc, List.getElem?_cons_zero, List.getElem?_cons_succ, R.lift_some, R.bind_ok, ix_l, g1, cp_lt_i, h, decide_false, Option.map_some, R.st_ok, truth_bl, exs_nil]
theorem r_loop {k : Oracle} {n : Nat} {B : List Bd} {kk : Nat} {o : List Ob} : ∀ (r : List Bd) (p : Nat) (s : S8) (d4 d5 d6 d7 d8 : D), (∀ b ∈ r, b.u < n ∧ b.l < n) →
    ∃ e4 e5 e6 e7 e8, forL (.tp [4, 5]) (exs prog.gl k prog.sub rb1) (enumD p (r.map bdD)) (rst n B s d4 d5 d6 d7 d8 o) = .nx (rst n B (rdF kk r p s) e4 e5 e6 e7 e8 o)
  | [], p, s, d4, d5, d6, d7, d8, _ => ⟨d4, d5, d6, d7, d8, rfl⟩
  | b :: r, p, s, d4, d5, d6, d7, d8, h => by
    obtain ⟨e6, e7, e8, h1⟩ := r_rb (k := k) (n := n) (p := p) (B := B) (s := s) (kk := kk) (b := b) (d6 := d6) (d7 := d7) (d8 := d8) (o := o) (h b List.mem_cons_self).1 (h b List.mem_cons_self).2
    obtain ⟨a4, a5, a6, a7, a8, h2⟩ := r_loop r (p + 1) (relax kk p b s) (.int (p : Int)) (bdD b) e6 e7 e8 fun x hx => h x (List.mem_cons_of_mem _ hx)
    refine ⟨a4, a5, a6, a7, a8, ?_⟩
    simp only [List.map_cons, enumD, forL, asg_2, set_mk, List.set_cons_zero, List.set_cons_succ]
    rw [h1]
    exact h2
theorem r_round {m n kk : Nat} {o : List Ob} {B : List Bd} {s : S8} (h : ∀ b ∈ B, b.u < n ∧ b.l < n) :
    run prog (m + 1) 2 [.lst (NL n s), .lst (ML n s), BL B] o = .ok (optD (round kk B s).c) [.lst (NL n (round kk B s)), .lst (ML n (round kk B s))] o := by
  rw [run_eq (fn := f2) rfl, callFn_eq rfl]
  obtain ⟨a4, a5, a6, a7, a8, h2⟩ := r_loop (k := run prog m) (n := n) (B := B) (kk := kk) (o := o) B 0 { s with c := none } .non .non .non .non .non h
  have e : exs prog.gl (run prog m) prog.sub f2.body ⟨[.lst (NL n s), .lst (ML n s), BL B] ++ List.replicate (f2.ns - f2.np) .non, o⟩ = (forL (.tp [4, 5]) (exs prog.gl (run prog m) prog.sub rb1) (enumD 0 (B.map bdD)) (rst n B { s with c := none } .non .non .non .non .non o)).seq (exs prog.gl (run prog m) prog.sub [.ret (.v 3)]) := by
    simp only [f2, exs_cons, ex_asg, ev_non, R.st_ok, asg_n, RS.seq_nx, ex_fr, ev_en, ev_v]
    rfl
  rw [e, h2]
  rfl
end LW

namespace LW
open Z
theorem its_c {B : List Bd} {k : Nat} : its B (k + 1) = round (k + 1) B (its B k) := rfl
theorem nl0 {n : Nat} : (List.replicate n [D.int 0]).flatten = NL n s0 := by
  simp [NL, s0, List.flatten_replicate_singleton, List.map_const']
theorem ml0 {n : Nat} : (List.replicate n [D.non]).flatten = ML n s0 := by
  simp [ML, s0, optD, List.flatten_replicate_singleton, List.map_const']
abbrev lb1 : List Z.S := [.asg (.n 4) (.call 2 [(.io 2), (.io 3), (.v 1)]), .ite (.cmp .is (.pk 4) .non) [.brk] []]
abbrev lst0 (n : Nat) (B : List Bd) (s : S8) (d5 : D) (o : List Ob) : Env := ⟨[.int (n : Int), BL B, .lst (NL n s), .lst (ML n s), optD s.c, d5], o⟩
theorem is_optD {c : Option Nat} : cp .is (optD c) .non = some (c.isNone) := by cases c <;> rfl
theorem isn_optD {c : Option Nat} : cp .isn (optD c) .non = some (c.isSome) := by cases c <;> rfl
theorem r_lb {m n k : Nat} {B : List Bd} {d5 : D} {o : List Ob} (h : ∀ b ∈ B, b.u < n ∧ b.l < n) :
    exs prog.gl (run prog (m + 1)) prog.sub lb1 (lst0 n B (its B k) d5 o) = if (its B (k + 1)).c.isNone = true then .bk (lst0 n B (its B (k + 1)) d5 o) else .nx (lst0 n B (its B (k + 1)) d5 o) := by
  have h1 := r_round (m := m) (kk := k + 1) (o := o) (s := its B k) h
  rw [← its_c] at h1
  simp only [lb1, exs_cons, ex_asg, ev_call, evL_cons, evL_nil, ev_io, ev_v, get_mk, List.getElem?_cons_zero, List.getElem?_cons_succ, R.lift_some, R.bind_ok, callR, h1, putBack, set_mk, List.set_cons_zero, List.set_cons_succ, R.st_ok, asg_n, RS.seq_nx, ex_ite, ev_cmp, ev_pk, ev_non, is_optD, Option.map_some, truth_bl, exs_nil]
  cases (its B (k + 1)).c.isNone <;> simp
theorem r_lloop {m n : Nat} {B : List Bd} {o : List Ob} (h : ∀ b ∈ B, b.u < n ∧ b.l < n) : ∀ (j k : Nat) (xs : List D) (d5 : D), xs.length = j →
    (∃ i d, k < i ∧ i ≤ k + j ∧ (its B i).c = none ∧ (∀ a, k < a → a < i → (its B a).c ≠ none) ∧ forL (.n 5) (exs prog.gl (run prog (m + 1)) prog.sub lb1) xs (lst0 n B (its B k) d5 o) = .nx (lst0 n B (its B i) d o)) ∨
    ((∀ a, k < a → a ≤ k + j → (its B a).c ≠ none) ∧ ∃ d, forL (.n 5) (exs prog.gl (run prog (m + 1)) prog.sub lb1) xs (lst0 n B (its B k) d5 o) = .nx (lst0 n B (its B (k + j)) d o))
  | 0, k, xs, d5, hx => by
    have : xs = [] := List.length_eq_zero_iff.mp hx
    subst this
    exact .inr ⟨fun a h1 h2 => by omega, d5, rfl⟩
  | j + 1, k, xs, d5, hx => by
    cases xs with
    | nil => simp at hx
    | cons x xs =>
      have h1 := r_lb (m := m) (k := k) (d5 := x) (o := o) h
      have e : forL (.n 5) (exs prog.gl (run prog (m + 1)) prog.sub lb1) (x :: xs) (lst0 n B (its B k) d5 o) = (match exs prog.gl (run prog (m + 1)) prog.sub lb1 (lst0 n B (its B k) x o) with
        | .nx e2 => forL (.n 5) (exs prog.gl (run prog (m + 1)) prog.sub lb1) xs e2
        | .ct e2 => forL (.n 5) (exs prog.gl (run prog (m + 1)) prog.sub lb1) xs e2
        | .bk e2 => .nx e2
        | r => r) := by
        simp only [forL, asg_n, set_mk, List.set_cons_zero, List.set_cons_succ]
        all_goals (rw [show (⟨[.int (n : Int), BL B, .lst (NL n (its B k)), .lst (ML n (its B k)), optD (its B k).c, x], o⟩ : Env) = lst0 n B (its B k) x o from rfl, h1]; cases (its B (k + 1)).c.isNone <;> rfl)
      rw [e, h1]
      cases hc : (its B (k + 1)).c with
      | none =>
        simp only [Option.isNone_none, if_true]
        exact .inl ⟨k + 1, x, by omega, by omega, hc, fun a h1 h2 => by omega, rfl⟩
      | some u =>
        simp only [Option.isNone_some, Bool.false_eq_true, if_false]
        rcases r_lloop h j (k + 1) xs x (by simpa using hx) with ⟨i, d, a1, a2, a3, a4, a5⟩ | ⟨a1, d, a2⟩
        · refine .inl ⟨i, d, by omega, by omega, a3, fun a h1 h2 => ?_, a5⟩
          by_cases e : a = k + 1
          · subst e; rw [hc]; simp
          · exact a4 a (by omega) h2
        · rw [show k + (j + 1) = k + 1 + j by omega]
          refine .inr ⟨fun a h1 h2 => ?_, d, a2⟩
          by_cases e : a = k + 1
          · subst e; rw [hc]; simp
          · exact a1 a (by omega) h2
def scaleS : Txt := [115, 99, 97, 108, 101]
def ringS : Txt := [114, 105, 110, 103]
/-- which round is the first without a change -/
def First (B : List Bd) (i : Nat) : Prop := (its B i).c = none ∧ ∀ a, 0 < a → a < i → (its B a).c ≠ none
theorem r_least {m n : Nat} {B : List Bd} {o : List Ob} (hn : n ≤ 1000) (h : ∀ b ∈ B, b.u < n ∧ b.l < n) :
    (∃ i, (0 < i ∨ n = 0) ∧ i ≤ n ∧ First B i ∧ run prog (m + 2) 0 [.int (n : Int), BL B] o = .ok (.tup [.str scaleS, .lst (NL n (its B i))]) [] o) ∨
    ((∀ a, 0 < a → a ≤ n → (its B a).c ≠ none) ∧ ∃ u, (its B n).c = some u ∧ ∀ r, run prog (m + 1) 3 [.lst (ML n (its B n)), BL B, .int (u : Int)] o = .ok r [] o → run prog (m + 2) 0 [.int (n : Int), BL B] o = .ok (.tup [.str ringS, r]) [] o) := by
  have hr : items (.itr ((List.range n).map fun (k : Nat) => D.int (k : Int))) = some ((List.range n).map fun (k : Nat) => D.int (k : Int)) := rfl
  have e : exs prog.gl (run prog (m + 1)) prog.sub f0.body ⟨[.int (n : Int), BL B] ++ List.replicate (f0.ns - f0.np) .non, o⟩ = (forL (.n 5) (exs prog.gl (run prog (m + 1)) prog.sub lb1) ((List.range n).map fun (k : Nat) => D.int (k : Int)) (lst0 n B (its B 0) .non o)).seq (exs prog.gl (run prog (m + 1)) prog.sub [.ite (.cmp .is (.pk 4) .non) [.ret (.tup [(.str scaleS), (.v 2)])] [], .ret (.tup [(.str ringS), (.call 3 [(.v 3), (.v 1), (.v 4)])])]) := by
    have e1 : opRep (.lst [.int 0]) (.int (n : Int)) = some (.lst (NL n s0)) := by rw [rep_ok (by omega) (by simp; omega), nl0]
    have e2 : opRep (.lst [.non]) (.int (n : Int)) = some (.lst (ML n s0)) := by rw [rep_ok (by omega) (by simp; omega), ml0]
    simp only [f0, exs_cons, ex_asg, ev_rep, ev_lst, evL_cons, evL_nil, ev_int, ev_pk, ev_non, get_mk, List.cons_append, List.nil_append, List.getElem?_cons_zero, R.lift_some, R.bind_ok, e1, e2, R.st_ok, asg_n, set_mk, List.replicate, List.set_cons_zero, List.set_cons_succ, RS.seq_nx, ex_fr, ev_rg, rg_nat (show n ≤ 100000 by omega), hr]
    rfl
  rw [run_eq (fn := f0) rfl, callFn_eq rfl, e]
  rcases r_lloop (m := m) (o := o) h n 0 ((List.range n).map fun (k : Nat) => D.int (k : Int)) .non (by simp) with ⟨i, d, a1, a2, a3, a4, a5⟩ | ⟨a1, d, a2⟩
  · refine .inl ⟨i, .inl a1, by omega, ⟨a3, a4⟩, ?_⟩
    rw [a5]
    simp only [RS.seq_nx, exs_cons, ex_ite, ev_cmp, ev_pk, ev_non, get_mk, List.getElem?_cons_zero, List.getElem?_cons_succ, R.lift_some, R.bind_ok, is_optD, a3, Option.isNone_none, Option.map_some, R.st_ok, truth_bl, ex_ret, ev_tup, evL_cons, evL_nil, ev_str, ev_v]
    rfl
  · rw [Nat.zero_add] at a1 a2
    rw [a2]
    cases hc : (its B n).c with
    | none =>
      have hn0 : n = 0 := by
        refine Classical.byContradiction fun z => a1 n (by omega) (Nat.le_refl _) hc
      subst hn0
      refine .inl ⟨0, .inr rfl, Nat.le_refl _, ⟨rfl, fun a h1 h2 => by omega⟩, ?_⟩
      rfl
    | some u =>
      refine .inr ⟨a1, u, rfl, fun r hr => ?_⟩
      simp only [RS.seq_nx, exs_cons, ex_ite, ev_cmp, ev_pk, ev_non, get_mk, List.getElem?_cons_zero, List.getElem?_cons_succ, R.lift_some, R.bind_ok, is_optD, hc, Option.isNone_some, Option.map_some, R.st_ok, truth_bl, exs_nil, ex_ret, ev_tup, evL_cons, evL_nil, ev_str, ev_v, ev_call]
      rw [callR_ok (show run prog (m + 1) 3 [.lst (ML n (its B n)), BL B, optD (some u)] o = _ from hr)]
      rfl
end LW

namespace LW
open Z
theorem wh_steps {c : Env → R D} {b : Env → RS} (st : Nat → Env) (m : Nat) (h1 : ∀ i, i < m → c (st i) = .ok (.bl true) (st i) ∧ b (st i) = .nx (st (i + 1))) (h2 : c (st m) = .ok (.bl false) (st m)) : ∀ d i fuel, i + d = m → d < fuel → whL c b fuel (st i) = .nx (st m)
  | 0, i, fuel, h, hf => by
    obtain ⟨f, rfl⟩ : ∃ f, fuel = f + 1 := ⟨fuel - 1, by omega⟩
    have : i = m := by omega
    subst this
    simp [whL, h2]
  | d + 1, i, fuel, h, hf => by
    obtain ⟨f, rfl⟩ : ∃ f, fuel = f + 1 := ⟨fuel - 1, by omega⟩
    obtain ⟨a, b'⟩ := h1 i (by omega)
    have := wh_steps st m h1 h2 d (i + 1) f (by omega) (by omega)
    simp [whL, a, b', this]
theorem nodup_le : ∀ (n : Nat) (l : List Nat), l.Nodup → (∀ x ∈ l, x < n) → l.length ≤ n
  | 0, [], _, _ => Nat.le_refl _
  | 0, x :: l, _, h => absurd (h x List.mem_cons_self) (Nat.not_lt_zero x)
  | n + 1, l, hd, h => by
    have h1 := nodup_le n (l.erase n) (hd.erase n) (fun x hx => by
      have hm := List.mem_of_mem_erase hx
      have hne : x ≠ n := fun e => by subst e; exact absurd hx (hd.not_mem_erase)
      have := h x hm
      omega)
    have h2 : l.length ≤ (l.erase n).length + 1 := by
      by_cases hm : n ∈ l
      · rw [List.length_erase_of_mem hm]; omega
      · rw [List.erase_of_not_mem hm]; omega
    omega
theorem least_ex {p : Nat → Prop} : ∀ n, (∃ i, i ≤ n ∧ p i) → ∃ i, i ≤ n ∧ p i ∧ ∀ j, j < i → ¬ p j
  | 0, ⟨i, h1, h2⟩ => ⟨i, h1, h2, fun j hj => by omega⟩
  | n + 1, ⟨i, h1, h2⟩ => by
    by_cases h : ∃ i, i ≤ n ∧ p i
    · obtain ⟨j, a, b, c⟩ := least_ex n h
      exact ⟨j, by omega, b, c⟩
    · refine ⟨i, h1, h2, fun j hj hp => h ⟨j, by omega, hp⟩⟩
/-- the first place of the way that stands a second time -/
theorem way_rep {B : List Bd} {M : Nat → Option Nat} {n u : Nat} (h : ∀ i, i ≤ n → way B M u i < n) : ∃ j r, j ≤ n ∧ r < j ∧ way B M u r = way B M u j ∧ ∀ a b, a < b → b < j → way B M u a ≠ way B M u b := by
  have : ∃ j, j ≤ n ∧ ∃ r, r < j ∧ way B M u r = way B M u j := by
    refine Classical.byContradiction fun hn => ?_
    have hd : ((List.range (n + 1)).map (way B M u)).Nodup := by
      rw [List.Nodup, List.pairwise_map]
      refine List.Pairwise.imp_of_mem ?_ (List.pairwise_lt_range (n := n + 1))
      intro a b ha hb hab e
      rw [List.mem_range] at ha hb
      exact hn ⟨b, by omega, a, hab, e⟩
    have := nodup_le n _ hd (fun x hx => by
      obtain ⟨i, hi, rfl⟩ := List.mem_map.mp hx
      rw [List.mem_range] at hi
      exact h i (by omega))
    simp at this
    omega
  obtain ⟨j, h1, ⟨r, h2, h3⟩, h4⟩ := least_ex n this
  exact ⟨j, r, h1, h2, h3, fun a b hab hb e => h4 b hb ⟨a, hab, e⟩⟩
abbrev wl1 : List Z.S := [.app (.pk 3) (.v 4), .asg (.n 4) (.ix (.ix (.v 1) (.ix (.pk 0) (.pk 4))) (.int 1))]
abbrev wc1 : C := .cmp .nin (.pk 4) (.pk 3)
def wayI (B : List Bd) (M : Nat → Option Nat) (u i : Nat) : List Int := (List.range i).map fun j => ((way B M u j : Nat) : Int)
abbrev wst (n : Nat) (B : List Bd) (s : S8) (u : Nat) (o : List Ob) (i : Nat) : Env := ⟨[.lst (ML n s), BL B, .int (u : Int), .lst ((wayI B s.M u i).map .int), .int ((way B s.M u i : Nat) : Int), .non], o⟩
theorem wayI_mem {B : List Bd} {M : Nat → Option Nat} {u i k : Nat} : ((k : Int) ∈ wayI B M u i) ↔ ∃ j, j < i ∧ way B M u j = k := by
  unfold wayI
  rw [List.mem_map]
  constructor
  · rintro ⟨j, hj, e⟩
    exact ⟨j, List.mem_range.mp hj, by omega⟩
  · rintro ⟨j, hj, e⟩
    exact ⟨j, List.mem_range.mpr hj, by omega⟩
theorem wayI_succ {B : List Bd} {M : Nat → Option Nat} {u i : Nat} : wayI B M u (i + 1) = wayI B M u i ++ [((way B M u i : Nat) : Int)] := by
  simp [wayI, List.range_succ]
theorem ml_get {n : Nat} {s : S8} {v : Nat} (h : v < n) : getI (ML n s) (v : Int) = some (optD (s.M v)) := rng_get h
theorem bl_get {B : List Bd} {p : Nat} (h : p < B.length) : getI (B.map bdD) (p : Int) = some (bdD (B.getD p default)) := by
  rw [getI_nat (by simpa using h)]; simp [h]
theorem r_wcond {k : Oracle} {n : Nat} {B : List Bd} {s : S8} {u : Nat} {o : List Ob} {i : Nat} : ev prog.gl k wc1 (wst n B s u o i) = .ok (.bl (!(wayI B s.M u i).contains ((way B s.M u i : Nat) : Int))) (wst n B s u o i) := by
  simp only [wc1, ev_cmp, ev_pk, get_mk, List.getElem?_cons_zero, List.getElem?_cons_succ, R.lift_some, R.bind_ok, nin_ints, Option.map_some]
theorem r_wbody {k : Oracle} {n : Nat} {B : List Bd} {s : S8} {u : Nat} {o : List Ob} {i p : Nat} (hi : i ≤ 1000) (hw : way B s.M u i < n) (hm : s.M (way B s.M u i) = some p) (hp : p < B.length) :
    exs prog.gl k prog.sub wl1 (wst n B s u o i) = .nx (wst n B s u o (i + 1)) := by
  have e1 : (B.getD p default).l = way B s.M u (i + 1) := by simp only [way, hm, Option.getD_some]
  have hl : ((wayI B s.M u i).map D.int).length < LIM := by simp [wayI]; exact Nat.lt_of_lt_of_le (by omega : i < 1001) (by decide)
  have g1 := ml_get (s := s) hw
  have g2 := bl_get (B := B) hp
  rw [hm] at g1
  simp only [wl1, exs_cons, ex_app, evP_pk, R.st_ok, get_mk, List.getElem?_cons_zero, List.getElem?_cons_succ, Option.bind_some, getP_nil, ev_v, R.lift_some]
  rw [app_ok rfl hl]
  simp only [List.set_cons_zero, List.set_cons_succ, RS.seq_nx, exs_cons, ex_asg, ev_ix, ev_v, ev_pk, get_mk, List.getElem?_cons_zero, List.getElem?_cons_succ, R.lift_some, R.bind_ok, ix_l, g1, optD, BL, g2, ev_int]
  simp only [bdD, ix_t, e1, wayI_succ, List.map_append, getI_1, R.lift_some, R.st_ok, asg_n, set_mk, List.set_cons_zero, List.set_cons_succ, RS.seq_nx, exs_nil, wst, List.map_cons, List.map_nil]
  rfl
/-- the places of the ring -/
def rgP (B : List Bd) (M : Nat → Option Nat) (u r j : Nat) : List Int := (List.range (j - r)).map fun t => (((M (way B M u (r + t))).getD 0 : Nat) : Int)
theorem r_ring {m n : Nat} {B : List Bd} {s : S8} {u j r : Nat} {o : List Ob} (hn : n ≤ 1000) (hj : j ≤ n) (hrj : r < j) (hr : way B s.M u r = way B s.M u j) (hd : ∀ a b, a < b → b < j → way B s.M u a ≠ way B s.M u b)
    (hw : ∀ i, i ≤ n → way B s.M u i < n) (hm : ∀ i, i < n → ∃ p, s.M (way B s.M u i) = some p ∧ p < B.length) :
    run prog (m + 1) 3 [.lst (ML n s), BL B, .int (u : Int)] o = .ok (.lst ((rgP B s.M u r j).map .int)) [] o := by
  rw [run_eq (fn := f3) rfl, callFn_eq rfl]
  have e : exs prog.gl (run prog m) prog.sub f3.body ⟨[.lst (ML n s), BL B, .int (u : Int)] ++ List.replicate (f3.ns - f3.np) .non, o⟩ = (whL (ev prog.gl (run prog m) wc1) (exs prog.gl (run prog m) prog.sub wl1) BIG (wst n B s u o 0)).seq (exs prog.gl (run prog m) prog.sub [.ret (.lc (.ix (.v 0) (.pk 5)) (.n 5) (.slT (.v 3) (some (.mt .index (.v 3) [(.pk 4)])) none) [])]) := by
    simp only [f3, exs_cons, ex_asg, ev_lst, evL_nil, R.bind_ok, R.st_ok, asg_n, RS.seq_nx, ev_v, ex_wl]
    rfl
  have wl := wh_steps (c := ev prog.gl (run prog m) wc1) (b := exs prog.gl (run prog m) prog.sub wl1) (wst n B s u o) j (fun i hi => ⟨by
      rw [r_wcond]
      have : (wayI B s.M u i).contains ((way B s.M u i : Nat) : Int) = false := by
        rw [Bool.eq_false_iff, Ne, List.contains_iff_mem, wayI_mem]
        rintro ⟨a, ha, e⟩
        exact hd a i ha hi e
      rw [this]; rfl, by
      obtain ⟨p, h1, h2⟩ := hm i (by omega)
      exact r_wbody (by omega) (hw i (by omega)) h1 h2⟩) (by
      rw [r_wcond]
      have : (wayI B s.M u j).contains ((way B s.M u j : Nat) : Int) = true := by
        rw [List.contains_iff_mem, wayI_mem]
        exact ⟨r, hrj, hr⟩
      rw [this]; rfl) j 0 BIG (by omega) (Nat.lt_of_lt_of_le (by omega : j < 1001) (by decide))
  rw [e, wl]
  have hidx : (wayI B s.M u j).idxOf ((way B s.M u j : Nat) : Int) = r := by
    have hnd : (wayI B s.M u j).Nodup := by
      unfold wayI
      rw [List.Nodup, List.pairwise_map]
      refine List.Pairwise.imp_of_mem ?_ (List.pairwise_lt_range (n := j))
      intro a b ha hb hab e
      rw [List.mem_range] at ha hb
      exact hd a b hab hb (by omega)
    have := hnd.idxOf_getElem r (by simp [wayI]; exact hrj)
    rw [← this]
    congr 1
    simp [wayI, hr]
  have hmem : ((way B s.M u j : Nat) : Int) ∈ wayI B s.M u j := wayI_mem.mpr ⟨r, hrj, hr⟩
  have hsl : ev prog.gl (run prog m) (.slT (.v 3) (some (.mt .index (.v 3) [(.pk 4)])) none) (wst n B s u o j) = .ok (.lst (((wayI B s.M u j).drop r).map .int)) (wst n B s u o j) := by
    simp only [ev_slT, ev_v, get_mk, List.getElem?_cons_zero, List.getElem?_cons_succ, R.lift_some, R.bind_ok, evO_some, evO_none, ev_mt, mtOk, if_true, evL_cons, evL_nil, ev_pk, index_ints hmem, hidx, optI_i, opSlT_l, cut_map, cut_drop (Int.natCast_nonneg r), Int.toNat_natCast]
  have hlen : ((wayI B s.M u j).drop r).length ≤ 100000 := by simp [wayI]; omega
  have hd2 : (wayI B s.M u j).drop r = (List.range (j - r)).map fun t => ((way B s.M u (r + t) : Nat) : Int) := by
    refine List.ext_getElem (by simp [wayI]) fun i h1 h2 => ?_
    simp [wayI]
  rw [hd2] at hsl hlen
  simp only [RS.seq_nx, exs_cons, ex_ret]
  rw [lc_n (l := List.range (j - r)) (F := fun t => .int ((way B s.M u (r + t) : Nat) : Int)) (g := fun t => .int (((s.M (way B s.M u (r + t))).getD 0 : Nat) : Int)) hsl (by simp [List.map_map, Function.comp_def]) (by simp) (fun t ht => ?_) (by simp; omega)]
  · simp [rgP, List.map_map, Function.comp_def, ends, outsOf, f3]
  · rw [List.mem_range] at ht
    obtain ⟨p, h1, h2⟩ := hm (r + t) (by omega)
    have g1 := ml_get (s := s) (hw (r + t) (by omega))
    rw [h1] at g1
    simp only [ev_ix, ev_v, ev_pk, get_mk, set_mk, List.set_cons_zero, List.set_cons_succ, List.getElem?_cons_zero, List.getElem?_cons_succ, R.lift_some, R.bind_ok, ix_l, g1, optD, h1, Option.getD_some]
end LW

namespace LW
open Z
def rU (B : List Bd) (p : Int) : Int := ((B.getD p.toNat default).u : Int)
def rL (B : List Bd) (p : Int) : Int := ((B.getD p.toNat default).l : Int)
def rG (B : List Bd) (p : Int) : Int := (B.getD p.toNat default).g
def okP (B : List Bd) (p : Int) : Bool := decide (0 ≤ p) && decide (p < B.length)
def isR (B : List Bd) (x : List Int) : Bool := !x.isEmpty && x.all (okP B) && (x.map (rL B) == (x.map (rU B)).drop 1 ++ (x.map (rU B)).take 1) && decide ((x.map (rU B)).Nodup) && decide (0 < (x.map (rG B)).sum)
theorem bl_getI {B : List Bd} {p : Int} (h : okP B p = true) : getI (B.map bdD) p = some (bdD (B.getD p.toNat default)) := by
  unfold okP at h
  simp only [Bool.and_eq_true, decide_eq_true_eq] at h
  have := bl_get (B := B) (p := p.toNat) (by omega)
  rwa [show ((p.toNat : Nat) : Int) = p by omega] at this
theorem bl_len {B : List Bd} : (B.map bdD).length = B.length := by simp
theorem r_isring {m : Nat} {B : List Bd} {x : List Int} {o : List Ob} (hx : x.length ≤ 4000) : run prog (m + 1) 1 [BL B, .lst (x.map .int)] o = .ok (.bl (isR B x)) [] o := by
  rw [run_eq (fn := f1) rfl, callFn_eq rfl]
  have hl : x.length ≤ 100000 := by omega
  have ha : ∀ s : List D, s.length = 3 → ev prog.gl (run prog m) (.bi .all [(.lc (.cmp2 .le .lt (.int 0) (.pk 4) (.bi .len [(.pk 0)])) (.n 4) (.v 1) [])]) ⟨BL B :: .lst (x.map .int) :: s, o⟩ = .ok (.bl (x.all (okP B))) ⟨BL B :: .lst (x.map .int) :: s, o⟩ := fun s hs => by
    rw [ev_bi, evL_cons, lc_n (l := x) (F := .int) (g := fun p => .bl (okP B p)) (evv rfl) rfl (by simp; omega) ?_ hl]
    · have : (x.map fun p => D.bl (okP B p)) = (x.map (okP B)).map D.bl := by simp
      rw [R.bind_ok, evL_nil, R.bind_ok, R.bind_ok, this, all_l, R.lift_some]
      simp
    · intro p hp
      obtain ⟨d2, d3, d4, rfl⟩ : ∃ a b c, s = [a, b, c] := by
        match s, hs with
        | [a, b, c], _ => exact ⟨a, b, c, rfl⟩
      simp only [ev_cmp2, ev_int, R.bind_ok, ev_pk, set_mk, get_mk, List.set_cons_succ, List.set_cons_zero, List.getElem?_cons_succ, List.getElem?_cons_zero, R.lift_some, cp_le_i, okP]
      by_cases h0 : 0 ≤ p
      · simp only [h0, decide_true, ev_bi, evL_cons, evL_nil, ev_pk, get_mk, List.getElem?_cons_zero, R.lift_some, R.bind_ok, BL, len_l, bl_len, cp_lt_i, Option.map_some, Bool.true_and]
      · simp only [h0, decide_false, Bool.false_and]
  have hc : ∀ (c : C) (F : Int → D) (s : List D), s.length = 3 → x.all (okP B) = true → (∀ p, ∀ s : List D, okP B p = true → s.length = 2 → ev prog.gl (run prog m) c ⟨BL B :: .lst (x.map .int) :: (s ++ [.int p]), o⟩ = .ok (F p) ⟨BL B :: .lst (x.map .int) :: (s ++ [.int p]), o⟩) →
      ev prog.gl (run prog m) (.lc c (.n 4) (.v 1) []) ⟨BL B :: .lst (x.map .int) :: s, o⟩ = .ok (.lst (x.map F)) ⟨BL B :: .lst (x.map .int) :: s, o⟩ := fun c F s hs hok h => by
    refine lc_n (l := x) (F := .int) (g := F) (evv rfl) rfl (by simp; omega) ?_ hl
    intro p hp
    obtain ⟨d2, d3, d4, rfl⟩ : ∃ a b c, s = [a, b, c] := by
      match s, hs with
      | [a, b, c], _ => exact ⟨a, b, c, rfl⟩
    exact h p [d2, d3] (List.all_eq_true.mp hok p hp) rfl
  have hcU := fun s hs hok => hc (.ix (.ix (.v 0) (.pk 4)) (.int 0)) (fun p => .int (rU B p)) s hs hok (fun p s hp hs => by
    obtain ⟨a, b, rfl⟩ : ∃ a b, s = [a, b] := by
      match s, hs with
      | [a, b], _ => exact ⟨a, b, rfl⟩
    simp [BL, bl_getI hp, bdD, rU])
  have hcL := fun s hs hok => hc (.ix (.ix (.v 0) (.pk 4)) (.int 1)) (fun p => .int (rL B p)) s hs hok (fun p s hp hs => by
    obtain ⟨a, b, rfl⟩ : ∃ a b, s = [a, b] := by
      match s, hs with
      | [a, b], _ => exact ⟨a, b, rfl⟩
    simp [BL, bl_getI hp, bdD, rL])
  have hcG := fun s hs hok => hc (.ix (.ix (.v 0) (.pk 4)) (.int 2)) (fun p => .int (rG B p)) s hs hok (fun p s hp hs => by
    obtain ⟨a, b, rfl⟩ : ∃ a b, s = [a, b] := by
      match s, hs with
      | [a, b], _ => exact ⟨a, b, rfl⟩
    simp [BL, bl_getI hp, bdD, rG])
  have hmm : ∀ f : Int → Int, (x.map fun p => D.int (f p)) = (x.map f).map D.int := fun f => by simp
  have e0 : (⟨[BL B, .lst (x.map .int)] ++ List.replicate (f1.ns - f1.np) .non, o⟩ : Env) = ⟨[BL B, .lst (x.map .int), .non, .non, .non], o⟩ := rfl
  rw [e0]
  simp only [f1]
  cases hemp : x.isEmpty with
  | true =>
    have : x = [] := List.isEmpty_iff.mp hemp
    subst this
    simp [isR, ends, outsOf]
  | false =>
    have ht : truth (.lst (x.map D.int)) = some true := by
      have : x ≠ [] := by simpa using hemp
      simp [this]
    have e1 : ∀ b : Bool, x.all (okP B) = b → ev prog.gl (run prog m) (.or (.nt (.pk 1)) (.nt (.bi .all [(.lc (.cmp2 .le .lt (.int 0) (.pk 4) (.bi .len [(.pk 0)])) (.n 4) (.v 1) [])]))) ⟨[BL B, .lst (x.map .int), .non, .non, .non], o⟩ = .ok (.bl (!b)) ⟨[BL B, .lst (x.map .int), .non, .non, .non], o⟩ := fun b hb => by
      rw [ev_or, ev_nt, evpk rfl, R.bind_ok, ht]
      simp only [Option.map_some, R.lift_some, R.bind_ok, truth_bl, Bool.not_true]
      rw [ev_nt, ha [.non, .non, .non] rfl, R.bind_ok, truth_bl, hb]
      rfl
    cases hok : x.all (okP B) with
    | false =>
      have := e1 false hok
      rw [exs_cons, ex_ite, this]
      simp [isR, hok, ends, outsOf]
    | true =>
      have := e1 true hok
      rw [exs_cons, ex_ite, this]
      simp only [Bool.not_true, R.st_ok, truth_bl, exs_nil, RS.seq_nx]
      rw [exs_cons, ex_asg, hcU _ rfl hok]
      simp only [R.st_ok, asg_n, set_mk, List.set_cons_zero, List.set_cons_succ, RS.seq_nx]
      rw [exs_cons, ex_asg, hcL _ rfl hok]
      simp only [R.st_ok, asg_n, set_mk, List.set_cons_zero, List.set_cons_succ, RS.seq_nx, hmm (rU B), hmm (rL B)]
      have hcut : ev prog.gl (run prog m) (.cat (.slT (.v 2) (some (.int 1)) none) (.slT (.v 2) none (some (.int 1)))) ⟨[BL B, .lst (x.map .int), .lst ((x.map (rU B)).map .int), .lst ((x.map (rL B)).map .int), .non], o⟩ = .ok (.lst (((x.map (rU B)).drop 1 ++ (x.map (rU B)).take 1).map .int)) ⟨[BL B, .lst (x.map .int), .lst ((x.map (rU B)).map .int), .lst ((x.map (rL B)).map .int), .non], o⟩ := by
        simp only [ev_cat, ev_slT, ev_v, get_mk, List.getElem?_cons_zero, List.getElem?_cons_succ, R.lift_some, R.bind_ok, evO_some, evO_none, ev_int, optI_i, opSlT_l, cut_map, cut_drop (show (0 : Int) ≤ 1 by decide), cut_take (show (0 : Int) ≤ 1 by decide)]
        rw [cat_ok (by simp; omega), R.lift_some, List.map_append, List.map_drop, List.map_take]
        rfl
      have hset : ev prog.gl (run prog m) (.cmp .ne (.bi .set [(.pk 2)]) (.bi .len [(.pk 2)])) ⟨[BL B, .lst (x.map .int), .lst ((x.map (rU B)).map .int), .lst ((x.map (rL B)).map .int), .non], o⟩ = .ok (.bl (!decide ((x.map (rU B)).Nodup))) ⟨[BL B, .lst (x.map .int), .lst ((x.map (rU B)).map .int), .lst ((x.map (rL B)).map .int), .non], o⟩ := by
        simp only [ev_cmp, ev_bi, evL_cons, evL_nil, ev_pk, get_mk, List.getElem?_cons_zero, List.getElem?_cons_succ, R.lift_some, R.bind_ok, len_l, set_ints (show (x.map (rU B)).length ≤ 4000 by simpa using hx), cp_ne_i, Option.map_some]
        congr 2
        have := dist_nodup (l := x.map (rU B))
        by_cases hn : (x.map (rU B)).Nodup
        · have e := this.mpr hn
          rw [e, decide_eq_true hn]
          simp
        · have e : ¬ (distI (x.map (rU B))).length = (x.map (rU B)).length := fun h => hn (this.mp h)
          rw [decide_eq_false hn]
          simp only [List.length_map] at e ⊢
          have : ((((distI (x.map (rU B))).length : Nat) : Int) == ((x.length : Nat) : Int)) = false := by
            rw [beq_eq_false_iff_ne]; omega
          rw [this]
      rw [exs_cons, ex_ite, ev_or, ev_cmp, evpk rfl, R.bind_ok, hcut, R.bind_ok, cp_ne_ints]
      simp only [Option.map_some, R.lift_some, R.bind_ok, truth_bl]
      cases h1 : (x.map (rL B) == (x.map (rU B)).drop 1 ++ (x.map (rU B)).take 1) with
      | false =>
        have hR : isR B x = false := by unfold isR; rw [h1]; simp
        rw [hR]; simp [ends, outsOf]
      | true =>
        simp only [Bool.not_true]
        rw [hset]
        simp only [R.st_ok, truth_bl]
        by_cases h2 : (x.map (rU B)).Nodup
        · rw [decide_eq_true h2]
          simp only [Bool.not_true, exs_nil, RS.seq_nx]
          rw [exs_one, ex_ret, ev_cmp, ev_bi, evL_cons, hcG _ rfl hok]
          simp only [R.bind_ok, evL_nil, hmm (rG B), sum_l, R.lift_some, ev_int, cp_gt_i, Option.map_some, R.st_ok]
          have hR : isR B x = decide (0 < (x.map (rG B)).sum) := by unfold isR; rw [h1, hemp, hok, decide_eq_true h2]; simp
          rw [hR]; simp [ends, outsOf]
        · rw [decide_eq_false h2]
          have hR : isR B x = false := by unfold isR; rw [decide_eq_false h2]; simp
          rw [hR]; simp [ends, outsOf]
end LW

namespace LW
open Z
theorem r_wlist {m : Nat} {x : List Int} {o : List Ob} (hx : x.length ≤ 100000) : run prog (m + 2) 7 [.lst (x.map .int)] o = .ok (.bl true) [] o := by
  rw [run_eq (fn := f7) rfl, callFn_eq rfl]
  have h : ev prog.gl (run prog (m + 1)) (.lc (.v 1) (.n 1) (.v 0) [(.call 4 [(.v 1)])]) ⟨[.lst (x.map .int), .non], o⟩ = .ok (.lst ((x.filter fun _ => true).map .int)) ⟨[.lst (x.map .int), .non], o⟩ := by
    refine lcf_n (l := x) (F := .int) (g := .int) (p := fun _ => true) (evv rfl) rfl (by simp) ?_ ?_ hx
    · intro a ha
      simp only [ev_call, evL_cons, evL_nil, ev_v, set_mk, get_mk, List.set_cons_succ, List.set_cons_zero, List.getElem?_cons_succ, List.getElem?_cons_zero, R.lift_some, R.bind_ok]
      rw [callR_ok (r_whole (n := m) (x := a) (o := o))]
    · intro a ha _
      simp
  have e0 : (⟨[.lst (x.map .int)] ++ List.replicate (f7.ns - f7.np) .non, o⟩ : Env) = ⟨[.lst (x.map .int), .non], o⟩ := rfl
  rw [e0]
  simp only [f7]
  rw [exs_cons, ex_ite, ev_nt, ev_bi, evL_cons, evpk rfl]
  simp only [R.bind_ok, evL_nil, isList_l, R.lift_some, truth_bl, Option.map_some, Bool.not_true, R.st_ok, exs_nil, RS.seq_nx]
  have hf : x.filter (fun _ => true) = x := List.filter_eq_self.mpr (by simp)
  rw [exs_one, ex_ret, ev_cmp, ev_bi, evL_cons, h, hf]
  simp [ends, outsOf]
def nxt (x : List Int) (i : Nat) : Int := if i + 1 < x.length then x.getD (i + 1) 0 else x.getD 0 0
def chkR (B : List Bd) (x : List Int) (i : Nat) : Bool := okP B (x.getD i 0) && (okP B (nxt x i) && ((rU B (nxt x i) == rL B (x.getD i 0)) && !((x.take i).map (rU B)).contains (rU B (x.getD i 0))))
theorem nodup_take (l : List Int) : l.Nodup ↔ ∀ i, i < l.length → l.getD i 0 ∉ l.take i := by
  rw [List.Nodup, List.pairwise_iff_getElem]
  constructor
  · intro h i hi hm
    rw [List.mem_take_iff_getElem] at hm
    obtain ⟨j, hj, e⟩ := hm
    have := h j i (by omega) hi (by omega)
    rw [e] at this
    exact this (by simp [hi])
  · intro h i j hi hj hij e
    refine h j hj ?_
    rw [List.mem_take_iff_getElem]
    exact ⟨i, by omega, by rw [e]; simp [hj]⟩
theorem getD_map {f : Int → Int} {x : List Int} {i : Nat} (h : i < x.length) : (x.map f).getD i 0 = f (x.getD i 0) := by simp [h]
theorem isR_chk {B : List Bd} {x : List Int} : isR B x = (!x.isEmpty && decide (∀ i, i < x.length → chkR B x i = true) && decide (0 < (x.map (rG B)).sum)) := by
  rw [Bool.eq_iff_iff]
  unfold isR
  simp only [Bool.and_eq_true, decide_eq_true_eq, beq_iff_eq, List.all_eq_true]
  have key : ((∀ p ∈ x, okP B p = true) ∧ x.map (rL B) = (x.map (rU B)).drop 1 ++ (x.map (rU B)).take 1 ∧ (x.map (rU B)).Nodup) ↔ ∀ i, i < x.length → chkR B x i = true := by
    have hn : ∀ i, i < x.length → nxt x i ∈ x := fun i hi => by
      unfold nxt
      split
      · next h => simp [h]
      · have : 0 < x.length := by omega
        simp [this]
    have hg : ∀ i, i < x.length → x.getD i 0 ∈ x := fun i hi => by simp [hi]
    have hlen : (x.map (rL B)).length = ((x.map (rU B)).drop 1 ++ (x.map (rU B)).take 1).length := by
      simp; omega
    have hr : ∀ i (hi : i < x.length), ((x.map (rU B)).drop 1 ++ (x.map (rU B)).take 1)[i]'(by rw [← hlen]; simpa using hi) = rU B (nxt x i) := fun i hi => by
      unfold nxt
      rw [List.getElem_append]
      split
      · next h =>
        simp only [List.length_drop, List.length_map] at h
        rw [if_pos (by omega)]
        simp [show i + 1 < x.length by omega, Nat.add_comm]
      · next h =>
        simp only [List.length_drop, List.length_map] at h
        rw [if_neg (by omega)]
        simp only [List.getElem_take, List.getElem_map, List.length_drop, List.length_map]
        have : i - (x.length - 1) = 0 := by omega
        simp only [this]
        have : 0 < x.length := by omega
        simp [this]
    constructor
    · rintro ⟨h1, h2, h3⟩ i hi
      unfold chkR
      rw [h1 _ (hg i hi), h1 _ (hn i hi)]
      have e2 : rU B (nxt x i) = rL B (x.getD i 0) := by
        rw [← hr i hi]
        have : (x.map (rL B))[i]'(by simpa using hi) = rL B (x.getD i 0) := by simp [hi]
        rw [← this]
        simp only [h2]
      have e3 := (nodup_take _).mp h3 i (by simpa using hi)
      rw [getD_map hi, ← List.map_take] at e3
      simp only [e2, beq_self_eq_true, Bool.true_and, Bool.not_eq_true']
      rw [← Bool.not_eq_true, List.contains_iff_mem]
      exact e3
    · intro h
      have h' : ∀ i, i < x.length → okP B (x.getD i 0) = true ∧ rU B (nxt x i) = rL B (x.getD i 0) ∧ rU B (x.getD i 0) ∉ (x.take i).map (rU B) := fun i hi => by
        have := h i hi
        unfold chkR at this
        simp only [Bool.and_eq_true, beq_iff_eq, Bool.not_eq_true'] at this
        refine ⟨this.1, this.2.2.1, fun hm => ?_⟩
        have h2 := this.2.2.2
        rw [← Bool.not_eq_true, List.contains_iff_mem] at h2
        exact h2 hm
      refine ⟨fun p hp => ?_, List.ext_getElem hlen fun i h1 h2 => ?_, (nodup_take _).mpr fun i hi => ?_⟩
      · obtain ⟨i, hi, e⟩ := List.mem_iff_getElem.mp hp
        have := (h' i hi).1
        rwa [show x.getD i 0 = p by simp [hi, e]] at this
      · have hi : i < x.length := by simpa using h1
        rw [hr i hi, (h' i hi).2.1]
        simp [hi]
      · have hi : i < x.length := by simpa using hi
        rw [getD_map hi, ← List.map_take]
        exact (h' i hi).2.2
  constructor
  · rintro ⟨⟨⟨⟨a, b⟩, c⟩, d⟩, e⟩
    exact ⟨⟨a, key.mp ⟨b, c, d⟩⟩, e⟩
  · rintro ⟨⟨a, b⟩, e⟩
    obtain ⟨b, c, d⟩ := key.mpr b
    exact ⟨⟨⟨⟨a, b⟩, c⟩, d⟩, e⟩
end LW

namespace LW
open Z
abbrev lrb : List Z.S := [.ite (.or (.cmp .lt (.ix (.pk 1) (.pk 4)) (.int 0)) (.cmp .ge (.ix (.pk 1) (.pk 4)) (.bi .len [(.pk 0)]))) [.ret (.bl false)] [], .asg (.n 5) (.ix (.v 0) (.ix (.pk 1) (.pk 4))), .asg (.n 6) (.ix (.v 1) (.int 0)), .ite (.cmp .lt (.op .add (.pk 4) (.int 1)) (.bi .len [(.pk 1)])) [.asg (.n 6) (.ix (.v 1) (.op .add (.pk 4) (.int 1)))] [], .ite (.or (.cmp .lt (.pk 6) (.int 0)) (.or (.cmp .ge (.pk 6) (.bi .len [(.pk 0)])) (.or (.cmp .ne (.ix (.ix (.pk 0) (.pk 6)) (.int 0)) (.ix (.pk 5) (.int 1))) (.cmp .isin (.ix (.pk 5) (.int 0)) (.pk 3))))) [.ret (.bl false)] [], .app (.pk 3) (.ix (.v 5) (.int 0)), .asg (.n 2) (.op .add (.pk 2) (.ix (.pk 5) (.int 2)))]
abbrev lre (B : List Bd) (x : List Int) (i : Nat) (d4 d5 d6 : D) (o : List Ob) : Env := ⟨[BL B, .lst (x.map .int), .int ((x.take i).map (rG B)).sum, .lst (((x.take i).map (rU B)).map .int), d4, d5, d6], o⟩
theorem take_succ_map {f : Int → Int} {x : List Int} {i : Nat} (h : i < x.length) : (x.take (i + 1)).map f = (x.take i).map f ++ [f (x.getD i 0)] := by
  rw [List.take_succ, List.map_append]
  simp [h]
@[simp] theorem ix_BL {B : List Bd} {p : Int} : opIx (BL B) (.int p) = getI (B.map bdD) p := rfl
@[simp] theorem len_BL {B : List Bd} : b1 .len [BL B] = some (.int B.length) := by simp [BL]
theorem r_lrb {k : Oracle} {B : List Bd} {x : List Int} {i : Nat} {d5 d6 : D} {o : List Ob} (hx : x.length ≤ 4000) (hi : i < x.length) :
    (chkR B x i = true → ∃ e5 e6, exs prog.gl k prog.sub lrb (lre B x i (.int (i : Int)) d5 d6 o) = .nx (lre B x (i + 1) (.int (i : Int)) e5 e6 o)) ∧
    (chkR B x i = false → ∃ e2, e2.o = o ∧ exs prog.gl k prog.sub lrb (lre B x i (.int (i : Int)) d5 d6 o) = .rt (.bl false) e2) := by
  have hg : getI (x.map D.int) (i : Int) = some (.int (x.getD i 0)) := get_nat (d := 0) hi
  have h0 : getI (x.map D.int) 0 = some (.int (x.getD 0 0)) := get_nat (k := 0) (d := 0) (by omega)
  have hl : (((x.take i).map (rU B)).map D.int).length < LIM := by simp; exact Nat.lt_of_lt_of_le (by omega : min i x.length < 4001) (by decide)
  -- after
  have ha : ∀ d5 : D, (ex prog.gl k prog.sub (.ite (.cmp .lt (.op .add (.pk 4) (.int 1)) (.bi .len [(.pk 1)])) [.asg (.n 6) (.ix (.v 1) (.op .add (.pk 4) (.int 1)))] []) (lre B x i (.int (i : Int)) d5 (.int (x.getD 0 0)) o)) = .nx (lre B x i (.int (i : Int)) d5 (.int (nxt x i)) o) := fun d5 => by
    unfold nxt
    by_cases h : i + 1 < x.length
    · have g : getI (x.map D.int) ((i : Int) + 1) = some (.int (x.getD (i + 1) 0)) := by
        have := get_nat (F := D.int) (k := i + 1) (d := 0) h
        rwa [show (((i + 1 : Nat)) : Int) = (i : Int) + 1 by omega] at this
      have hlt : (i : Int) + 1 < (x.length : Int) := by omega
      rw [if_pos h]
      simp [hlt, g]
    · have hlt : ¬ (i : Int) + 1 < (x.length : Int) := by omega
      rw [if_neg h]
      simp [hlt]
  unfold chkR
  by_cases ho : okP B (x.getD i 0) = true
  · have ho' : 0 ≤ x.getD i 0 ∧ x.getD i 0 < B.length := by simpa [okP] using ho
    have g1 := bl_getI ho
    have e1 : exs prog.gl k prog.sub lrb (lre B x i (.int (i : Int)) d5 d6 o) = exs prog.gl k prog.sub (lrb.drop 4) (lre B x i (.int (i : Int)) (bdD (B.getD (x.getD i 0).toNat default)) (.int (nxt x i)) o) := by
      have q1 : ¬ (x.getD i 0 < 0) := by omega
      have q2 : ¬ ((B.length : Int) ≤ x.getD i 0) := by omega
      simp only [lrb]
      rw [exs_cons, ex_ite]
      simp only [ev_or, ev_cmp, ev_ix, ev_pk, get_mk, List.getElem?_cons_zero, List.getElem?_cons_succ, R.lift_some, R.bind_ok, ix_l, hg, ev_int, cp_lt_i, q1, decide_false, Option.map_some, truth_bl, ev_bi, evL_cons, evL_nil, len_BL, cp_ge_i, q2, R.st_ok, exs_nil, RS.seq_nx]
      rw [exs_cons, ex_asg]
      simp only [ev_ix, ev_v, ev_pk, get_mk, List.getElem?_cons_zero, List.getElem?_cons_succ, R.lift_some, R.bind_ok, ix_l, ix_BL, hg, g1, R.st_ok, asg_n, set_mk, List.set_cons_zero, List.set_cons_succ, RS.seq_nx]
      rw [exs_cons, ex_asg]
      simp only [ev_ix, ev_v, ev_pk, ev_int, get_mk, List.getElem?_cons_zero, List.getElem?_cons_succ, R.lift_some, R.bind_ok, ix_l, h0, R.st_ok, asg_n, set_mk, List.set_cons_zero, List.set_cons_succ, RS.seq_nx]
      rw [exs_cons]
      have := ha (bdD (B.getD (x.getD i 0).toNat default))
      rw [this, RS.seq_nx]
      rfl
    rw [e1]
    simp only [lrb, List.drop_succ_cons, List.drop_zero, lre, take_succ_map hi]
    generalize nxt x i = q
    generalize x.getD i 0 = p at ho ho' g1 ⊢
    by_cases hn : okP B (q) = true
    · have hn' : 0 ≤ q ∧ q < B.length := by simpa [okP] using hn
      have g2 := bl_getI hn
      have q1 : ¬ (q < 0) := by omega
      have q2 : ¬ ((B.length : Int) ≤ q) := by omega
      have eU : rU B q = ((B.getD q.toNat default).u : Int) := rfl
      have eL : rL B p = ((B.getD p.toNat default).l : Int) := rfl
      have eV : rU B p = ((B.getD p.toNat default).u : Int) := rfl
      rw [exs_cons, ex_ite]
      simp only [zz, List.getElem?_cons_zero, List.getElem?_cons_succ, List.set_cons_zero, List.set_cons_succ, List.cons_append, List.nil_append, Option.map_some, Option.bind_some, if_true, if_false, q1, q2, g2, bdD, ix_BL, len_BL]
      rw [← eU, ← eL, ← eV]
      cases h3 : (rU B q == rL B p) with
      | false => simp
      | true =>
        simp only [Bool.not_true, isin_ints, Option.map_some, R.lift_some]
        cases h4 : ((x.take i).map (rU B)).contains (rU B p) with
        | true => simp
        | false =>
          simp only [zz, List.getElem?_cons_zero, List.getElem?_cons_succ, List.set_cons_zero, List.set_cons_succ, List.cons_append, List.nil_append, Option.map_some, Option.bind_some, if_true, if_false]
          refine ⟨fun _ => ⟨bdD (B.getD p.toNat default), .int q, ?_⟩, fun h => by simp [ho, hn] at h⟩
          rw [app_ok rfl hl]
          simp only [zz, List.getElem?_cons_zero, List.getElem?_cons_succ, List.set_cons_zero, List.set_cons_succ, List.cons_append, List.nil_append, Option.map_some, Option.bind_some, if_true, if_false, List.sum_append, List.map_append, List.map_cons, List.map_nil, List.sum_cons, List.sum_nil, Int.add_zero]
          rfl
    · rw [Bool.not_eq_true] at hn
      refine ⟨fun h => by simp [hn] at h, fun _ => ?_⟩
      have hn' : q < 0 ∨ (B.length : Int) ≤ q := by
        simp only [okP, Bool.and_eq_false_iff, decide_eq_false_iff_not] at hn
        omega
      rw [exs_cons, ex_ite]
      by_cases q1 : q < 0
      · simp [q1]
      · have q2 : (B.length : Int) ≤ q := by omega
        simp [q1, q2]
  · rw [Bool.not_eq_true] at ho
    refine ⟨fun h => by rw [ho] at h; simp at h, fun _ => ?_⟩
    have ho' : x.getD i 0 < 0 ∨ (B.length : Int) ≤ x.getD i 0 := by
      simp only [okP, Bool.and_eq_false_iff, decide_eq_false_iff_not] at ho
      omega
    simp only [lrb, lre]
    generalize x.getD i 0 = p at hg ho' ⊢
    rw [exs_cons, ex_ite]
    by_cases q1 : p < 0
    · simp only [zz, List.getElem?_cons_zero, List.getElem?_cons_succ, List.set_cons_zero, List.set_cons_succ, List.cons_append, List.nil_append, Option.map_some, Option.bind_some, if_true, if_false, hg, q1]
      exact ⟨_, rfl, rfl⟩
    · have q2 : (B.length : Int) ≤ p := by omega
      simp only [zz, List.getElem?_cons_zero, List.getElem?_cons_succ, List.set_cons_zero, List.set_cons_succ, List.cons_append, List.nil_append, Option.map_some, Option.bind_some, if_true, if_false, hg, q1, q2, len_BL]
      exact ⟨_, rfl, rfl⟩
theorem r_lring {m : Nat} {B : List Bd} {x : List Int} {o : List Ob} (hx : x.length ≤ 4000) : run prog (m + 3) 9 [BL B, .lst (x.map .int)] o = .ok (.bl (isR B x)) [] o := by
  rw [run_eq (fn := f9) rfl, callFn_eq rfl]
  have e0 : (⟨[BL B, .lst (x.map .int)] ++ List.replicate (f9.ns - f9.np) .non, o⟩ : Env) = ⟨[BL B, .lst (x.map .int), .non, .non, .non, .non, .non], o⟩ := rfl
  rw [e0]
  simp only [f9]
  have hc : ev prog.gl (run prog (m + 2)) (.nt (.call 7 [(.v 1)])) ⟨[BL B, .lst (x.map .int), .non, .non, .non, .non, .non], o⟩ = .ok (.bl false) ⟨[BL B, .lst (x.map .int), .non, .non, .non, .non, .non], o⟩ := by
    rw [ev_nt, ev_call, evL_cons, evv rfl, R.bind_ok, evL_nil, R.bind_ok, R.bind_ok, callR_ok (r_wlist (by omega))]
    rfl
  rw [exs_cons, ex_ite, ev_or, hc]
  simp only [R.bind_ok, truth_bl, ev_cmp, ev_bi, evL_cons, evL_nil, ev_pk, get_mk, List.getElem?_cons_zero, List.getElem?_cons_succ, R.lift_some, len_l, List.length_map, ev_int, cp_eq_i, Option.map_some, R.st_ok]
  cases hemp : ((x.length : Int) == 0) with
  | true =>
    have : x = [] := by
      have : x.length = 0 := by
        have := beq_iff_eq.mp hemp
        omega
      exact List.length_eq_zero_iff.mp this
    subst this
    simp [isR, ends, outsOf]
  | false =>
    have hne : x.isEmpty = false := by
      cases x with
      | nil => simp at hemp
      | cons a b => rfl
    simp only [exs_nil, RS.seq_nx]
    rw [exs_cons, ex_asg, ev_int]
    simp only [R.st_ok, asg_n, set_mk, List.set_cons_zero, List.set_cons_succ, RS.seq_nx]
    rw [exs_cons, ex_asg, ev_lst, evL_nil]
    simp only [R.bind_ok, R.st_ok, asg_n, set_mk, List.set_cons_zero, List.set_cons_succ, RS.seq_nx]
    rw [exs_cons, ex_fr, evrgl rfl (by simp; omega)]
    simp only [R.st_ok, items_itr, List.length_map]
    have lp := for_rchk (t := .n 4) (b := exs prog.gl (run prog (m + 2)) prog.sub lrb) (chk := chkR B x) (r := .bl false) (o := o) (fun i e => ∃ d4 d5 d6, e = lre B x i d4 d5 d6 o) x.length 0 (e := ⟨[BL B, .lst (x.map .int), .int 0, .lst [], .non, .non, .non], o⟩) ⟨.non, .non, .non, by simp [lre]⟩ (by
      rintro i e _ hi ⟨d4, d5, d6, rfl⟩
      obtain ⟨h1, h2⟩ := r_lrb (k := run prog (m + 2)) (B := B) (d5 := d5) (d6 := d6) (o := o) hx (show i < x.length by omega)
      refine ⟨_, rfl, fun hc => ?_, fun hc => ?_⟩
      · obtain ⟨e5, e6, h⟩ := h1 hc
        exact ⟨_, h, _, e5, e6, rfl⟩
      · exact h2 hc)
    simp only [Nat.zero_add] at lp
    rcases lp with ⟨h1, e', h2, d4, d5, d6, rfl⟩ | ⟨⟨i, _, h1, h2⟩, e', h3, h4⟩
    · rw [h2]
      have hR : isR B x = decide (0 < (x.map (rG B)).sum) := by
        rw [isR_chk, hne, decide_eq_true (fun i hi => h1 i (Nat.zero_le _) hi)]; rfl
      simp only [RS.seq_nx, exs_cons, ex_ret, ev_cmp, ev_pk, ev_int, get_mk, List.getElem?_cons_zero, List.getElem?_cons_succ, R.lift_some, R.bind_ok, cp_gt_i, Option.map_some, R.st_ok, RS.seq_rt, List.take_length, hR]
      rfl
    · rw [h4]
      have hR : isR B x = false := by
        rw [isR_chk, decide_eq_false (fun h => by rw [h i h1] at h2; cases h2)]; simp
      rw [hR]
      simp [ends, outsOf, h3]
end LW

namespace LW
open Z
@[simp] theorem isn_bl {x y : Bool} : cp .isn (.bl x) (.bl y) = some (!(x == y)) := rfl
@[simp] theorem items_BL {B : List Bd} : items (BL B) = some (B.map bdD) := rfl
abbrev gb1 : List Z.S := [.ite (.cmp .lt (.ix (.pk 2) (.ix (.pk 5) (.int 0))) (.op .add (.ix (.pk 2) (.ix (.pk 5) (.int 1))) (.ix (.pk 5) (.int 2)))) [.six (.pk 2) (.ix (.v 5) (.int 0)) (.op .add (.ix (.pk 2) (.ix (.pk 5) (.int 1))) (.ix (.pk 5) (.int 2))), .asg (.n 4) (.bl true)] []]
abbrev gst (n : Nat) (B : List Bd) (s : S8) (d3 d5 : D) (o : List Ob) : Env := ⟨[.int (n : Int), BL B, .lst (NL n s), d3, .bl s.c.isSome, d5], o⟩
theorem r_gb {k : Oracle} {n p : Nat} {B : List Bd} {s : S8} {kk : Nat} {b : Bd} {d3 : D} {o : List Ob} (hu : b.u < n) (hl : b.l < n) :
    exs prog.gl k prog.sub gb1 (gst n B s d3 (bdD b) o) = .nx (gst n B (relax kk p b s) d3 (bdD b) o) := by
  have g1 : getI (NL n s) (b.u : Int) = some (.int (s.N b.u)) := rng_get hu
  have g2 : getI (NL n s) (b.l : Int) = some (.int (s.N b.l)) := rng_get hl
  unfold relax
  by_cases h : s.N b.u < s.N b.l + b.g
  · have l1 : (b.u : Int) < (NL n s).length := by simp [NL]; omega
    have s1 : (NL n s).set b.u (.int (s.N b.l + b.g)) = (List.range n).map fun v => D.int (updF s.N b.u (s.N b.l + b.g) v) := rng_set
    rw [if_pos h]
    simp only [zz, List.getElem?_cons_zero, List.getElem?_cons_succ, List.set_cons_zero, List.set_cons_succ, List.cons_append, List.nil_append, Option.map_some, Option.bind_some, if_true, if_false, bdD, g1, g2, h]
    rw [six_ok rfl (by omega) l1]
    simp only [zz, List.getElem?_cons_zero, List.getElem?_cons_succ, List.set_cons_zero, List.set_cons_succ, List.cons_append, List.nil_append, Option.map_some, Option.bind_some, if_true, if_false, Int.toNat_natCast, s1]
    rfl
  · rw [if_neg h]
    simp only [zz, List.getElem?_cons_zero, List.getElem?_cons_succ, List.set_cons_zero, List.set_cons_succ, List.cons_append, List.nil_append, Option.map_some, Option.bind_some, if_true, if_false, bdD, g1, g2, h]
theorem r_gloop {k : Oracle} {n : Nat} {B : List Bd} {kk : Nat} {d3 : D} {o : List Ob} : ∀ (r : List Bd) (p : Nat) (s : S8) (d5 : D), (∀ b ∈ r, b.u < n ∧ b.l < n) →
    ∃ e5, forL (.n 5) (exs prog.gl k prog.sub gb1) (r.map bdD) (gst n B s d3 d5 o) = .nx (gst n B (rdF kk r p s) d3 e5 o)
  | [], p, s, d5, _ => ⟨d5, rfl⟩
  | b :: r, p, s, d5, h => by
    have h1 := r_gb (k := k) (n := n) (p := p) (B := B) (s := s) (kk := kk) (b := b) (d3 := d3) (o := o) (h b List.mem_cons_self).1 (h b List.mem_cons_self).2
    obtain ⟨a5, h2⟩ := r_gloop r (p + 1) (relax kk p b s) (bdD b) fun x hx => h x (List.mem_cons_of_mem _ hx)
    refine ⟨a5, ?_⟩
    simp only [List.map_cons, forL, asg_n, set_mk, List.set_cons_zero, List.set_cons_succ]
    rw [h1]
    exact h2
abbrev gb2 : List Z.S := [.asg (.n 4) (.bl false), .fr (.n 5) (.v 1) gb1, .ite (.nt (.pk 4)) [.ret (.mv 2)] []]
theorem r_gb2 {k : Oracle} {n kk : Nat} {B : List Bd} {d3 d4 d5 : D} {o : List Ob} (h : ∀ b ∈ B, b.u < n ∧ b.l < n) :
    ∃ e5, exs prog.gl k prog.sub gb2 ⟨[.int (n : Int), BL B, .lst (NL n (its B kk)), d3, d4, d5], o⟩ = if (its B (kk + 1)).c.isNone = true then .rt (.lst (NL n (its B (kk + 1)))) (gst n B (its B (kk + 1)) d3 e5 o) else .nx (gst n B (its B (kk + 1)) d3 e5 o) := by
  obtain ⟨e5, h1⟩ := r_gloop (k := k) (n := n) (B := B) (kk := kk + 1) (d3 := d3) (o := o) B 0 { its B kk with c := none } d5 h
  refine ⟨e5, ?_⟩
  have e : (gst n B { its B kk with c := none } d3 d5 o) = ⟨[.int (n : Int), BL B, .lst (NL n (its B kk)), d3, .bl false, d5], o⟩ := rfl
  rw [e] at h1
  have e2 : rdF (kk + 1) B 0 { its B kk with c := none } = its B (kk + 1) := rfl
  rw [e2] at h1
  simp only [gb2]
  rw [exs_cons, ex_asg]
  simp only [zz, List.getElem?_cons_zero, List.getElem?_cons_succ, List.set_cons_zero, List.set_cons_succ, List.cons_append, List.nil_append, Option.map_some, Option.bind_some, if_true, if_false, items_BL]
  rw [h1]
  simp only [zz, List.getElem?_cons_zero, List.getElem?_cons_succ, List.set_cons_zero, List.set_cons_succ, List.cons_append, List.nil_append, Option.map_some, Option.bind_some, if_true, if_false]
  cases (its B (kk + 1)).c <;> simp
theorem r_glloop {k : Oracle} {n : Nat} {B : List Bd} {o : List Ob} (h : ∀ b ∈ B, b.u < n ∧ b.l < n) : ∀ (j kk : Nat) (xs : List D) (d3 d4 d5 : D), xs.length = j →
    (∃ i, kk < i ∧ i ≤ kk + j ∧ (its B i).c = none ∧ (∀ a, kk < a → a < i → (its B a).c ≠ none) ∧ ∃ e', e'.o = o ∧ forL (.n 3) (exs prog.gl k prog.sub gb2) xs ⟨[.int (n : Int), BL B, .lst (NL n (its B kk)), d3, d4, d5], o⟩ = .rt (.lst (NL n (its B i))) e') ∨
    ((∀ a, kk < a → a ≤ kk + j → (its B a).c ≠ none) ∧ ∃ e', e'.o = o ∧ forL (.n 3) (exs prog.gl k prog.sub gb2) xs ⟨[.int (n : Int), BL B, .lst (NL n (its B kk)), d3, d4, d5], o⟩ = .nx e')
  | 0, kk, xs, d3, d4, d5, hx => by
    have : xs = [] := List.length_eq_zero_iff.mp hx
    subst this
    exact .inr ⟨fun a h1 h2 => by omega, _, rfl, rfl⟩
  | j + 1, kk, xs, d3, d4, d5, hx => by
    cases xs with
    | nil => simp at hx
    | cons x xs =>
      obtain ⟨e5, h1⟩ := r_gb2 (k := k) (kk := kk) (d3 := x) (d4 := d4) (d5 := d5) (o := o) h
      cases hc : (its B (kk + 1)).c with
      | none =>
        rw [hc] at h1
        refine .inl ⟨kk + 1, by omega, by omega, hc, fun a h1 h2 => by omega, gst n B (its B (kk + 1)) x e5 o, rfl, ?_⟩
        simp only [forL, asg_n, set_mk, List.set_cons_zero, List.set_cons_succ, h1, Option.isNone_none, if_true]
      | some u =>
        rw [hc] at h1
        have e : forL (.n 3) (exs prog.gl k prog.sub gb2) (x :: xs) ⟨[.int (n : Int), BL B, .lst (NL n (its B kk)), d3, d4, d5], o⟩ = forL (.n 3) (exs prog.gl k prog.sub gb2) xs (gst n B (its B (kk + 1)) x e5 o) := by
          simp only [forL, asg_n, set_mk, List.set_cons_zero, List.set_cons_succ, h1, Option.isNone_some, Bool.false_eq_true, if_false]
        rw [e]
        rcases r_glloop h j (kk + 1) xs x (.bl (its B (kk + 1)).c.isSome) e5 (by simpa using hx) with ⟨i, a1, a2, a3, a4, a5⟩ | ⟨a1, a2⟩
        · refine .inl ⟨i, by omega, by omega, a3, fun a h1 h2 => ?_, a5⟩
          by_cases e : a = kk + 1
          · subst e; rw [hc]; simp
          · exact a4 a (by omega) h2
        · refine .inr ⟨fun a h1 h2 => ?_, a2⟩
          by_cases e : a = kk + 1
          · subst e; rw [hc]; simp
          · exact a1 a (by omega) (by omega)
theorem r_longest {m n : Nat} {B : List Bd} {o : List Ob} (hn : n ≤ 1000) (h : ∀ b ∈ B, b.u < n ∧ b.l < n) :
    (∃ i, 0 < i ∧ i ≤ n + 1 ∧ First B i ∧ run prog (m + 1) 8 [.int (n : Int), BL B] o = .ok (.lst (NL n (its B i))) [] o) ∨
    ((∀ a, 0 < a → a ≤ n + 1 → (its B a).c ≠ none) ∧ run prog (m + 1) 8 [.int (n : Int), BL B] o = .ok .non [] o) := by
  have e1 : (List.range n).map (fun _ => D.int 0) = NL n (its B 0) := rfl
  obtain ⟨N, hN⟩ : ∃ N, N = n + 1 := ⟨_, rfl⟩
  have e2 : (n : Int) + 1 = (N : Int) := by omega
  have hrg : ∀ d2 : D, ev prog.gl (run prog m) (.rg (.op .add (.pk 0) (.int 1))) ⟨[.int (n : Int), BL B, d2, .non, .non, .non], o⟩ = .ok (.itr ((List.range N).map fun (k : Nat) => D.int (k : Int))) ⟨[.int (n : Int), BL B, d2, .non, .non, .non], o⟩ := fun d2 => by
    rw [ev_rg, ev_op, evpk rfl, R.bind_ok, ev_int, R.bind_ok, op_add_i, e2, R.lift_some, R.bind_ok, rg_nat (show N ≤ 100000 by omega), R.lift_some]
  have e : exs prog.gl (run prog m) prog.sub f8.body ⟨[.int (n : Int), BL B, .non, .non, .non, .non], o⟩ = (forL (.n 3) (exs prog.gl (run prog m) prog.sub gb2) ((List.range N).map fun (k : Nat) => D.int (k : Int)) ⟨[.int (n : Int), BL B, .lst (NL n (its B 0)), .non, .non, .non], o⟩).seq (exs prog.gl (run prog m) prog.sub [.ret .non]) := by
    have l1 := lc_n (G := prog.gl) (k := run prog m) (c := .int 0) (i := 3) (e := ⟨[.int (n : Int), BL B, .non, .non, .non, .non], o⟩) (l := List.range n) (F := fun (i : Nat) => .int (i : Int)) (g := fun _ => .int 0) (evrg (i := 0) rfl (by omega)) rfl (by simp) (fun a _ => ev_int) (by simp; omega)
    rw [e1] at l1
    simp only [f8]
    rw [exs_cons, ex_asg, l1]
    simp only [R.st_ok, asg_n, set_mk, List.set_cons_zero, List.set_cons_succ]
    rw [RS.seq_nx, exs_cons, ex_fr, hrg, R.st_ok, items_itr]
  have e0 : run prog (m + 1) 8 [.int (n : Int), BL B] o = ends f8 (exs prog.gl (run prog m) prog.sub f8.body ⟨[.int (n : Int), BL B, .non, .non, .non, .non], o⟩) := by
    rw [run_eq (fn := f8) rfl, callFn_eq rfl]
    rfl
  rw [e0, e]
  rcases r_glloop (k := run prog m) (o := o) h N 0 ((List.range N).map fun (k : Nat) => D.int (k : Int)) .non .non .non (by simp) with ⟨i, a1, a2, a3, a4, e', a5, a6⟩ | ⟨a1, e', a5, a6⟩
  · refine .inl ⟨i, a1, by omega, ⟨a3, a4⟩, ?_⟩
    rw [a6]
    simp [ends, outsOf, a5, f8]
  · refine .inr ⟨fun a h1 h2 => a1 a h1 (by omega), ?_⟩
    rw [a6]
    simp [ends, outsOf, a5, f8]
/-- where no round is without a change up to n, none is -/
theorem no_kept {n : Nat} {B : List Bd} (h : ∀ b ∈ B, b.u < n ∧ b.l < n) (hc : ∀ a, 0 < a → a ≤ n → (its B a).c ≠ none) (hn : 0 < n) : (its B (n + 1)).c ≠ none := by
  intro z
  have I := inv_its (B := B) n
  obtain ⟨u, hu⟩ : ∃ u, (its B n).c = some u := by
    cases e : (its B n).c with
    | none => exact absurd e (hc n hn (Nat.le_refl _))
    | some u => exact ⟨u, rfl⟩
  have hL : (its B n).L u = n := (I.i6 u hu).1
  have hun : u < n := by
    obtain ⟨m, rfl⟩ : ∃ m, n = m + 1 := ⟨n - 1, by omega⟩
    exact rel_lt (B := B) h B 0 _ (fun _ x => x) (fun v e => by cases e) u hu
  obtain ⟨j, r, h1, h2, h3, _⟩ := way_rep (B := B) (M := (its B n).M) (u := u) (way_lt h I hL hun)
  have w := way_wk I hL (j - r - 1) r (by omega)
  rw [show r + (j - r - 1) + 1 = j by omega, ← h3] at w
  have pos := I.i5 _ _ w
  obtain ⟨_, kept⟩ := rdF_none (k := n + 1) B 0 { its B n with c := none } z
  have := wk_kept (s := its B n) (fun v p hp => ⟨(I.i1 v p hp).1, (I.i1 v p hp).2.1⟩) kept w
  omega
end LW

namespace LW
open Z
def il (x : List Int) : D := .lst (x.map .int)
abbrev jb : List Z.S := [.asg (.n 3) (.call 1 [(.bi .list [(.v 0)]), (.bi .list [(.v 2)])]), .ite (.call 9 [(.v 0), (.v 2)]) [.ite (.cmp .isn (.pk 3) (.bl true)) [.ret (.bl false)] []] [.ite (.cmp .isn (.pk 3) (.bl false)) [.ret (.bl false)] []]]
@[simp] theorem list_BL {B : List Bd} : b1 .list [BL B] = some (BL B) := rfl
theorem r_jb {m : Nat} {B : List Bd} {y : List Int} {d1 d3 : D} {o : List Ob} (hy : y.length ≤ 4000) :
    exs prog.gl (run prog (m + 3)) prog.sub jb ⟨[BL B, d1, il y, d3], o⟩ = .nx ⟨[BL B, d1, il y, .bl (isR B y)], o⟩ := by
  have h1 := r_isring (m := m + 2) (B := B) (x := y) (o := o) hy
  have h2 := r_lring (m := m) (B := B) (x := y) (o := o) hy
  simp only [jb, il]
  rw [exs_cons, ex_asg, ev_call]
  simp only [zz, List.getElem?_cons_zero, List.getElem?_cons_succ, List.set_cons_zero, List.set_cons_succ, List.cons_append, List.nil_append, Option.map_some, Option.bind_some, if_true, if_false, list_BL]
  rw [callR_ok h1]
  simp only [zz, List.getElem?_cons_zero, List.getElem?_cons_succ, List.set_cons_zero, List.set_cons_succ, List.cons_append, List.nil_append, Option.map_some, Option.bind_some, if_true, if_false]
  rw [callR_ok h2]
  cases isR B y <;> simp only [zz, List.getElem?_cons_zero, List.getElem?_cons_succ, List.set_cons_zero, List.set_cons_succ, List.cons_append, List.nil_append, Option.map_some, Option.bind_some, if_true, if_false] <;> rfl
theorem r_judged {m : Nat} {B : List Bd} {x : List Int} {o : List Ob} (hx : x.length ≤ 1000) (h : isR B x = true) : run prog (m + 4) 10 [BL B, .lst (x.map .int)] o = .ok (.bl true) [] o := by
  have hne : 0 < x.length := by
    cases x with
    | nil => simp [isR] at h
    | cons a b => simp
  have h1 := r_isring (m := m + 2) (B := B) (x := x) (o := o) (by omega)
  rw [h] at h1
  have h0 : getI (x.map D.int) 0 = some (.int (x.getD 0 0)) := get_nat (k := 0) (d := 0) hne
  have c1 : cut (x.map D.int) (some 1) none = (x.drop 1).map .int := by rw [cut_map, cut_drop (by decide)]; rfl
  let W : List (List Int) := [[], x ++ [x.getD 0 0], x.drop 1, x.drop 1 ++ [(B.length : Int)], [-1] ++ x.drop 1]
  have hW : ev prog.gl (run prog (m + 3)) (.lst [(.lst []), (.cat (.v 1) (.lst [(.ix (.v 1) (.int 0))])), (.slT (.v 1) (some (.int 1)) none), (.cat (.slT (.v 1) (some (.int 1)) none) (.lst [(.bi .len [(.pk 0)])])), (.cat (.lst [(.neg (.int 1))]) (.slT (.v 1) (some (.int 1)) none))]) ⟨[BL B, il x, .non, .non], o⟩ = .ok (.lst (W.map il)) ⟨[BL B, il x, .non, .non], o⟩ := by
    have k1 : opCat (.lst (x.map D.int)) (.lst [.int (x.getD 0 0)]) = some (.lst ((x ++ [x.getD 0 0]).map .int)) := by rw [cat_ok (by simp; omega)]; simp
    have k2 : opCat (.lst ((x.drop 1).map D.int)) (.lst [.int (B.length : Int)]) = some (.lst ((x.drop 1 ++ [(B.length : Int)]).map .int)) := by rw [cat_ok (by simp; omega)]; simp
    have k3 : opCat (.lst [.int (-1)]) (.lst ((x.drop 1).map D.int)) = some (.lst (([-1] ++ x.drop 1).map .int)) := by rw [cat_ok (by simp; omega)]; simp
    simp only [il]
    simp only [zz, List.getElem?_cons_zero, List.getElem?_cons_succ, List.set_cons_zero, List.set_cons_succ, List.cons_append, List.nil_append, Option.map_some, Option.bind_some, if_true, if_false, h0, c1, k1, k2, k3, len_BL]
    rfl
  have lp := for_run (t := .n 2) (b := exs prog.gl (run prog (m + 3)) prog.sub jb) (F := il) (fun _ e => ∃ d2 d3, e = ⟨[BL B, il x, d2, d3], o⟩) (l := W) (pre := []) (e := ⟨[BL B, il x, .non, .non], o⟩) ⟨_, _, rfl⟩ (by
    rintro pre a e ⟨d2, d3, rfl⟩ ha
    have hy : a.length ≤ 4000 := by
      simp only [W, List.mem_cons, List.not_mem_nil, or_false] at ha
      rcases ha with rfl | rfl | rfl | rfl | rfl <;> simp <;> omega
    exact ⟨_, _, rfl, r_jb hy, _, _, rfl⟩)
  obtain ⟨e', l1, d2, d3, rfl⟩ := lp
  rw [run_eq (fn := f10) rfl, callFn_eq rfl]
  have e0 : (⟨[BL B, .lst (x.map .int)] ++ List.replicate (f10.ns - f10.np) .non, o⟩ : Env) = ⟨[BL B, il x, .non, .non], o⟩ := rfl
  rw [e0]
  simp only [f10]
  have hc : ev prog.gl (run prog (m + 3)) (.nt (.call 1 [(.bi .list [(.v 0)]), (.bi .list [(.v 1)])])) ⟨[BL B, il x, .non, .non], o⟩ = .ok (.bl false) ⟨[BL B, il x, .non, .non], o⟩ := by
    simp only [il]
    simp only [zz, List.getElem?_cons_zero, List.getElem?_cons_succ, List.set_cons_zero, List.set_cons_succ, List.cons_append, List.nil_append, Option.map_some, Option.bind_some, if_true, if_false, list_BL]
    rw [callR_ok h1]
    rfl
  rw [exs_cons, ex_ite, hc]
  simp only [R.st_ok, truth_bl, exs_nil, RS.seq_nx]
  rw [exs_cons, ex_fr, hW, R.st_ok, items_lst]
  simp only []
  simp only [jb] at l1
  rw [l1]
  simp only [zz, List.getElem?_cons_zero, List.getElem?_cons_succ, List.set_cons_zero, List.set_cons_succ, List.cons_append, List.nil_append, Option.map_some, Option.bind_some, if_true, if_false]
  simp [ends, outsOf]
theorem r_bounds {m n many : Nat} {wide : Int} {kept : Bool} {ns : List Int} {o : List Ob} (hn : n ≤ 1000) (hm : many ≤ 1000) (hmn : n = 0 → many = 0) (hw : 0 < wide) (hw2 : wide ≤ 1000000) :
    ∃ B : List Bd, B.length = many ∧ (∀ b ∈ B, b.u < n ∧ b.l < n) ∧ run prog (m + 3) 11 [.lst (ns.map .int), .int (n : Int), .int (many : Int), .int wide, .bl kept] o = .ok (BL B) [] o := by
  have mk : ∀ k : Int, 0 ≤ k → k ≤ 1000 → ∃ l : List Int, run prog (m + 2) 6 [.lst (ns.map .int), .int k, .int (many : Int), .int (n : Int)] o = .ok (.lst (l.map .int)) [] o ∧ l.length = many ∧ ∀ x ∈ l, 0 ≤ x ∧ x < n := fun k k0 k1 => by
    by_cases h : n = 0
    · have := hmn h
      subst this
      exact ⟨[], r_many0 k0, rfl, by simp⟩
    · obtain ⟨l, a, b, c⟩ := r_many (n := m) (o := o) (ns := ns) (k := k) (many := many) (limit := n) k0 k1 (by omega) (by omega) (by omega) (by omega)
      exact ⟨l, a, by simpa using b, c⟩
  obtain ⟨U, u1, u2, u3⟩ := mk 1 (by decide) (by decide)
  obtain ⟨L, l1, l2, l3⟩ := mk 2 (by decide) (by decide)
  obtain ⟨W, w1, w2, w3⟩ := r_many (n := m) (o := o) (ns := ns) (k := 3) (many := many) (limit := 2 * wide) (by decide) (by decide) (by omega) (by omega) (by omega) (by omega)
  obtain ⟨H, h1, h2, h3⟩ := r_many (n := m) (o := o) (ns := ns) (k := 4) (many := n) (limit := 10) (by decide) (by decide) (by omega) (by omega) (by decide) (by decide)
  obtain ⟨S, s1, s2, s3⟩ := r_many (n := m) (o := o) (ns := ns) (k := 5) (many := many) (limit := 3) (by decide) (by decide) (by omega) (by omega) (by decide) (by decide)
  rw [Int.toNat_natCast] at w2 h2 s2
  have gt : ∀ {l : List Int} {i : Nat}, i < l.length → getI (l.map D.int) (i : Int) = some (.int (l.getD i 0)) := fun h => get_nat (d := 0) h
  have gi : ∀ {l : List Int} {j : Int}, 0 ≤ j → j < l.length → getI (l.map D.int) j = some (.int (l.getD j.toNat 0)) := fun h h' => get_Int (d := 0) h h'
  have inU : ∀ i, i < many → 0 ≤ U.getD i 0 ∧ U.getD i 0 < n := fun i hi => u3 _ (by simp [u2, hi])
  have inL : ∀ i, i < many → 0 ≤ L.getD i 0 ∧ L.getD i 0 < n := fun i hi => l3 _ (by simp [l2, hi])
  -- the gaps
  let G1 : List Int := W.map fun x => x - wide
  let G2 : List Int := (List.range many).map fun i => H.getD (U.getD i 0).toNat 0 - H.getD (L.getD i 0).toNat 0 - S.getD i 0
  let G : List Int := if kept = true then G2 else G1
  have hG : G.length = many := by simp only [G]; split <;> simp [G1, G2, w2]
  let st (d7 d8 d9 : D) : Env := ⟨[.lst (ns.map .int), .int (n : Int), .int (many : Int), .int wide, .bl kept, .lst (U.map .int), .lst (L.map .int), d7, d8, d9, .non, .non], o⟩
  have q1 : ev prog.gl (run prog (m + 2)) (.lc (.op .sub (.pk 10) (.pk 3)) (.n 10) (.call 6 [(.v 0), (.int 3), (.v 2), (.op .mul (.int 2) (.pk 3))]) []) (st .non .non .non) = .ok (.lst (G1.map .int)) (st .non .non .non) := by
    have e : ev prog.gl (run prog (m + 2)) (.call 6 [(.v 0), (.int 3), (.v 2), (.op .mul (.int 2) (.pk 3))]) (st .non .non .non) = .ok (.lst (W.map .int)) (st .non .non .non) := by
      simp only [st]
      simp only [zz, List.getElem?_cons_zero, List.getElem?_cons_succ, List.set_cons_zero, List.set_cons_succ, List.cons_append, List.nil_append, Option.map_some, Option.bind_some, if_true, if_false, op_mul_l (show (2 : Int).natAbs < 2 ^ 64 by decide)]
      rw [callR_ok w1]
    rw [lc_n (l := W) (F := .int) (g := fun x => .int (x - wide)) e rfl (by simp [st]) (fun a _ => by simp only [st]; simp only [zz, List.getElem?_cons_zero, List.getElem?_cons_succ, List.set_cons_zero, List.set_cons_succ, List.cons_append, List.nil_append, Option.map_some, Option.bind_some, if_true, if_false]) (by omega)]
    simp [G1]
  have q2 : ev prog.gl (run prog (m + 2)) (.lc (.op .sub (.op .sub (.ix (.pk 8) (.ix (.pk 5) (.pk 11))) (.ix (.pk 8) (.ix (.pk 6) (.pk 11)))) (.ix (.pk 9) (.pk 11))) (.n 11) (.rg (.pk 2)) []) (st (.lst (G1.map .int)) (.lst (H.map .int)) (.lst (S.map .int))) = .ok (.lst (G2.map .int)) (st (.lst (G1.map .int)) (.lst (H.map .int)) (.lst (S.map .int))) := by
    rw [lc_n (l := List.range many) (F := fun (i : Nat) => .int (i : Int)) (g := fun i => .int (H.getD (U.getD i 0).toNat 0 - H.getD (L.getD i 0).toNat 0 - S.getD i 0)) (evrg (i := 2) rfl (by omega)) rfl (by simp [st]) (fun i hi => ?_) (by simp; omega)]
    · simp [G2]
    · rw [List.mem_range] at hi
      have a1 := inU i hi
      have a2 := inL i hi
      simp only [st]
      simp only [zz, List.getElem?_cons_zero, List.getElem?_cons_succ, List.set_cons_zero, List.set_cons_succ, List.cons_append, List.nil_append, Option.map_some, Option.bind_some, if_true, if_false, gt (show i < U.length by omega), gt (show i < L.length by omega), gt (show i < S.length by omega), gi (l := H) a1.1 (by omega), gi (l := H) a2.1 (by omega)]
  refine ⟨(List.range many).map fun i => ⟨(U.getD i 0).toNat, (L.getD i 0).toNat, G.getD i 0⟩, by simp, ?_, ?_⟩
  · intro b hb
    obtain ⟨i, hi, rfl⟩ := List.mem_map.mp hb
    rw [List.mem_range] at hi
    have a1 := inU i hi
    have a2 := inL i hi
    exact ⟨by show (U.getD i 0).toNat < n; omega, by show (L.getD i 0).toNat < n; omega⟩
  have q3 : ev prog.gl (run prog (m + 2)) (.lc (.tup [(.ix (.v 5) (.pk 11)), (.ix (.v 6) (.pk 11)), (.ix (.v 7) (.pk 11))]) (.n 11) (.rg (.pk 2)) []) (st (.lst (G.map .int)) (.lst (H.map .int)) (.lst (S.map .int))) = .ok (BL ((List.range many).map fun i => ⟨(U.getD i 0).toNat, (L.getD i 0).toNat, G.getD i 0⟩)) (st (.lst (G.map .int)) (.lst (H.map .int)) (.lst (S.map .int))) := by
    rw [lc_n (l := List.range many) (F := fun (i : Nat) => .int (i : Int)) (g := fun i => .tup [.int (U.getD i 0), .int (L.getD i 0), .int (G.getD i 0)]) (evrg (i := 2) rfl (by omega)) rfl (by simp [st]) (fun i hi => ?_) (by simp; omega)]
    · simp only [BL, List.map_map]
      congr 2
      refine List.map_congr_left fun i hi => ?_
      rw [List.mem_range] at hi
      have a1 := inU i hi
      have a2 := inL i hi
      simp only [Function.comp, bdD]
      rw [show (((U.getD i 0).toNat : Nat) : Int) = U.getD i 0 by omega, show (((L.getD i 0).toNat : Nat) : Int) = L.getD i 0 by omega]
    · rw [List.mem_range] at hi
      simp only [st]
      simp only [zz, List.getElem?_cons_zero, List.getElem?_cons_succ, List.set_cons_zero, List.set_cons_succ, List.cons_append, List.nil_append, Option.map_some, Option.bind_some, if_true, if_false, gt (show i < U.length by omega), gt (show i < L.length by omega), gt (show i < G.length by omega)]
  rw [run_eq (fn := f11) rfl, callFn_eq rfl]
  have e0 : (⟨[.lst (ns.map .int), .int (n : Int), .int (many : Int), .int wide, .bl kept] ++ List.replicate (f11.ns - f11.np) .non, o⟩ : Env) = ⟨[.lst (ns.map .int), .int (n : Int), .int (many : Int), .int wide, .bl kept, .non, .non, .non, .non, .non, .non, .non], o⟩ := rfl
  rw [e0]
  simp only [f11]
  simp only [zz, List.getElem?_cons_zero, List.getElem?_cons_succ, List.set_cons_zero, List.set_cons_succ, List.cons_append, List.nil_append, Option.map_some, Option.bind_some, if_true, if_false]
  rw [callR_ok u1]
  simp only [zz, List.getElem?_cons_zero, List.getElem?_cons_succ, List.set_cons_zero, List.set_cons_succ, List.cons_append, List.nil_append, Option.map_some, Option.bind_some, if_true, if_false]
  rw [callR_ok l1]
  simp only [zz, List.getElem?_cons_zero, List.getElem?_cons_succ, List.set_cons_zero, List.set_cons_succ, List.cons_append, List.nil_append, Option.map_some, Option.bind_some, if_true, if_false]
  simp only [st] at q1 q2 q3
  rw [q1]
  simp only [zz, List.getElem?_cons_zero, List.getElem?_cons_succ, List.set_cons_zero, List.set_cons_succ, List.cons_append, List.nil_append, Option.map_some, Option.bind_some, if_true, if_false]
  rw [callR_ok h1]
  simp only [zz, List.getElem?_cons_zero, List.getElem?_cons_succ, List.set_cons_zero, List.set_cons_succ, List.cons_append, List.nil_append, Option.map_some, Option.bind_some, if_true, if_false]
  rw [callR_ok s1]
  simp only [zz, List.getElem?_cons_zero, List.getElem?_cons_succ, List.set_cons_zero, List.set_cons_succ, List.cons_append, List.nil_append, Option.map_some, Option.bind_some, if_true, if_false]
  cases hk : kept with
  | false =>
    have hg : G = G1 := by simp [G, hk]
    rw [hk, hg] at q3
    simp only [zz, List.getElem?_cons_zero, List.getElem?_cons_succ, List.set_cons_zero, List.set_cons_succ, List.cons_append, List.nil_append, Option.map_some, Option.bind_some, if_true, if_false]
    rw [q3]
    simp [ends, outsOf, hg]
  | true =>
    have hg : G = G2 := by simp [G, hk]
    rw [hk] at q2
    rw [hk, hg] at q3
    simp only [zz, List.getElem?_cons_zero, List.getElem?_cons_succ, List.set_cons_zero, List.set_cons_succ, List.cons_append, List.nil_append, Option.map_some, Option.bind_some, if_true, if_false]
    rw [q2]
    simp only [zz, List.getElem?_cons_zero, List.getElem?_cons_succ, List.set_cons_zero, List.set_cons_succ, List.cons_append, List.nil_append, Option.map_some, Option.bind_some, if_true, if_false]
    rw [q3]
    simp [ends, outsOf, hg]
end LW

namespace LW
open Z
theorem isR_of {B : List Bd} {s : S8} {n u r j : Nat} (hrj : r < j) (hj : j ≤ n) (hr : way B s.M u r = way B s.M u j) (hd : ∀ a b, a < b → b < j → way B s.M u a ≠ way B s.M u b)
    (hm : ∀ i, i < n → ∃ p, s.M (way B s.M u i) = some p ∧ p < B.length ∧ (B.getD p default).u = way B s.M u i ∧ (B.getD p default).l = way B s.M u (i + 1))
    (pos : 0 < ((List.range (j - r)).map fun t => (B.getD ((s.M (way B s.M u (r + t))).getD 0) default).g).sum) : isR B (rgP B s.M u r j) = true := by
  have hU : (rgP B s.M u r j).map (rU B) = (List.range (j - r)).map fun t => ((way B s.M u (r + t) : Nat) : Int) := by
    unfold rgP
    rw [List.map_map]
    refine List.map_congr_left fun t ht => ?_
    rw [List.mem_range] at ht
    obtain ⟨p, h1, h2, h3, h4⟩ := hm (r + t) (by omega)
    simp only [Function.comp, rU, h1, Option.getD_some, Int.toNat_natCast, h3]
  have hL : (rgP B s.M u r j).map (rL B) = (List.range (j - r)).map fun t => ((way B s.M u (r + t + 1) : Nat) : Int) := by
    unfold rgP
    rw [List.map_map]
    refine List.map_congr_left fun t ht => ?_
    rw [List.mem_range] at ht
    obtain ⟨p, h1, h2, h3, h4⟩ := hm (r + t) (by omega)
    simp only [Function.comp, rL, h1, Option.getD_some, Int.toNat_natCast, h4]
  have hG : (rgP B s.M u r j).map (rG B) = (List.range (j - r)).map fun t => (B.getD ((s.M (way B s.M u (r + t))).getD 0) default).g := by
    unfold rgP
    rw [List.map_map]
    refine List.map_congr_left fun t ht => ?_
    simp only [Function.comp, rG, Int.toNat_natCast]
  unfold isR
  rw [hU, hL, hG]
  simp only [Bool.and_eq_true, decide_eq_true_eq, beq_iff_eq]
  refine ⟨⟨⟨⟨?_, ?_⟩, ?_⟩, ?_⟩, pos⟩
  · have : (rgP B s.M u r j).length ≠ 0 := by simp [rgP]; omega
    cases h : rgP B s.M u r j with
    | nil => rw [h] at this; simp at this
    | cons a b => rfl
  · rw [List.all_eq_true]
    intro p hp
    unfold rgP at hp
    obtain ⟨t, ht, rfl⟩ := List.mem_map.mp hp
    rw [List.mem_range] at ht
    obtain ⟨p, h1, h2, h3, h4⟩ := hm (r + t) (by omega)
    simp only [okP, h1, Option.getD_some, Bool.and_eq_true, decide_eq_true_eq]
    omega
  · refine List.ext_getElem (by simp; omega) fun i h1 h2 => ?_
    simp only [List.length_map, List.length_range] at h1
    rw [List.getElem_append]
    split
    · next h =>
      simp only [List.length_drop, List.length_map, List.length_range] at h
      simp only [List.getElem_map, List.getElem_range, List.getElem_drop]
      rw [show r + (1 + i) = r + i + 1 by omega]
    · next h =>
      simp only [List.length_drop, List.length_map, List.length_range] at h
      simp only [List.getElem_map, List.getElem_range, List.getElem_take, List.length_drop, List.length_map, List.length_range]
      rw [show r + i + 1 = j by omega, show r + (i - (j - r - 1)) = r by omega, hr]
  · rw [List.Nodup, List.pairwise_map]
    refine List.Pairwise.imp_of_mem ?_ (List.pairwise_lt_range (n := j - r))
    intro a b ha hb hab e
    rw [List.mem_range] at ha hb
    exact hd (r + a) (r + b) (by omega) (by omega) (by omega)
/-- both together -/
theorem r_both {m n : Nat} {B : List Bd} {o : List Ob} (hn : n ≤ 1000) (h : ∀ b ∈ B, b.u < n ∧ b.l < n) :
    (∃ l : List Int, l.length ≤ 1000 ∧ run prog (m + 2) 0 [.int (n : Int), BL B] o = .ok (.tup [.str scaleS, il l]) [] o ∧ run prog (m + 2) 8 [.int (n : Int), BL B] o = .ok (il l) [] o) ∨
    (∃ x : List Int, x.length ≤ 1000 ∧ isR B x = true ∧ run prog (m + 2) 0 [.int (n : Int), BL B] o = .ok (.tup [.str ringS, il x]) [] o ∧ run prog (m + 2) 8 [.int (n : Int), BL B] o = .ok .non [] o) := by
  have hNL : ∀ s, (.lst (NL n s) : D) = il ((List.range n).map s.N) := fun s => by simp [il, NL]
  rcases r_least (m := m) (o := o) hn h with ⟨i, a1, a2, ⟨a3, a4⟩, a5⟩ | ⟨a1, u, a2, a3⟩
  · refine .inl ⟨(List.range n).map (its B i).N, by simp; omega, by rw [← hNL]; exact a5, ?_⟩
    rw [← hNL]
    by_cases hn0 : n = 0
    · subst hn0
      have e : ∀ s s', NL 0 s = NL 0 s' := fun s s' => rfl
      rcases r_longest (m := m + 1) (o := o) hn h with ⟨i', b1, b2, b3, b4⟩ | ⟨b1, b2⟩
      · rw [e (its B i) (its B i')]; exact b4
      · exfalso
        have hB : B = [] := by
          cases B with
          | nil => rfl
          | cons b r => exact absurd (h b List.mem_cons_self).1 (Nat.not_lt_zero _)
        subst hB
        exact b1 1 (by omega) (by omega) rfl
    · have hi : 0 < i := by omega
      rcases r_longest (m := m + 1) (o := o) hn h with ⟨i', b1, b2, ⟨b3, b5⟩, b4⟩ | ⟨b1, b2⟩
      · have : i = i' := by
          rcases Nat.lt_trichotomy i i' with z | z | z
          · exact absurd a3 (b5 i hi z)
          · exact z
          · exact absurd b3 (a4 i' b1 z)
        rw [this]; exact b4
      · exact absurd a3 (b1 i hi (by omega))
  · have hn0 : 0 < n := by
      cases n with
      | zero => exact absurd a2 (by simp [its, s0])
      | succ n => exact Nat.succ_pos n
    have I := inv_its (B := B) n
    have hL : (its B n).L u = n := (I.i6 u a2).1
    have hun : u < n := by
      obtain ⟨k, rfl⟩ : ∃ k, n = k + 1 := ⟨n - 1, by omega⟩
      exact rel_lt (B := B) h B 0 _ (fun _ x => x) (fun v e => by cases e) u a2
    have hw := way_lt h I hL hun
    obtain ⟨j, r, h1, h2, h3, h4⟩ := way_rep (B := B) (M := (its B n).M) (u := u) hw
    have hm := fun i (hi : i < n) => way_mark I hL (i := i) hi
    have rr := r_ring (m := m) (o := o) hn h1 h2 h3 h4 hw (fun i hi => by obtain ⟨p, x1, x2, _⟩ := hm i hi; exact ⟨p, x1, x2⟩)
    have w := way_wk I hL (j - r - 1) r (by omega)
    rw [show r + (j - r - 1) + 1 = j by omega, ← h3] at w
    have pos := I.i5 _ _ w
    rw [show j - r - 1 + 1 = j - r by omega] at pos
    refine .inr ⟨rgP B (its B n).M u r j, by simp [rgP]; omega, isR_of h2 h1 h3 h4 hm pos, a3 _ rr, ?_⟩
    rcases r_longest (m := m + 1) (o := o) hn h with ⟨i', b1, b2, ⟨b3, b5⟩, b4⟩ | ⟨b1, b2⟩
    · exfalso
      by_cases z : i' ≤ n
      · exact a1 i' b1 z b3
      · have : i' = n + 1 := by omega
        subst this
        exact no_kept h a1 hn0 b3
    · exact b2
/-- the judge's end -/
theorem BL_data (B : List Bd) : isData (BL B) = true := by
  simp only [isData, BL, isDataN, Bool.and_eq_true, decide_eq_true_eq]
  exact ⟨by decide, dataL_map fun b _ => by simp [bdD, isDataN, isDataL]⟩
abbrev tailL : List Z.S := f12.body.drop 9
theorem r_end {m n : Nat} {B : List Bd} {d0 d1 d3 d4 d6 d7 d8 d9 d10 : D} {o : List Ob} (hn : n ≤ 1000) (h : ∀ b ∈ B, b.u < n ∧ b.l < n) :
    ∃ e, e.o = o ∧ exs prog.gl (run prog (m + 4)) prog.sub tailL ⟨[d0, d1, .int (n : Int), d3, d4, BL B, d6, d7, d8, d9, d10], o⟩ = .rt (.bl true) e := by
  have key : ∀ (t : Txt) (x : List Int), x.length ≤ 1000 → ∀ (e7 : List D), e7 = [.str t, il x] → ev prog.gl (run prog (m + 4)) (.or (.cmp .ne (.pk 6) (.pk 5)) (.or (.nt (.bi .isTuple [(.pk 7)])) (.or (.cmp .ne (.bi .len [(.pk 7)]) (.int 2)) (.nt (.call 7 [(.ix (.v 7) (.int 1))]))))) ⟨[d0, d1, .int (n : Int), d3, d4, BL B, BL B, .tup e7, d8, d9, d10], o⟩ = .ok (.bl false) ⟨[d0, d1, .int (n : Int), d3, d4, BL B, BL B, .tup e7, d8, d9, d10], o⟩ := fun t x hx e7 he => by
    have hw := r_wlist (m := m + 2) (x := x) (o := o) (by omega)
    subst he
    simp only [zz, List.getElem?_cons_zero, List.getElem?_cons_succ, List.set_cons_zero, List.set_cons_succ, List.cons_append, List.nil_append, Option.map_some, Option.bind_some, if_true, if_false, cp_ne_self (BL_data B), List.length_cons, List.length_nil]
    simp only [il]
    rw [callR_ok hw]
    rfl
  simp only [tailL, f12, List.drop_succ_cons, List.drop_zero]
  rcases r_both (m := m + 2) (o := o) hn h with ⟨l, a1, a2, a3⟩ | ⟨x, a1, a2, a3, a4⟩
  · have hk := key scaleS l a1 _ rfl
    have c0 : ev prog.gl (run prog (m + 4)) (.call 0 [.v 2, .v 6]) ⟨[d0, d1, .int (n : Int), d3, d4, BL B, BL B, d7, d8, d9, d10], o⟩ = .ok (.tup [.str scaleS, il l]) ⟨[d0, d1, .int (n : Int), d3, d4, BL B, BL B, d7, d8, d9, d10], o⟩ := by
      simp only [zz, List.getElem?_cons_zero, List.getElem?_cons_succ, List.set_cons_zero, List.set_cons_succ, List.cons_append, List.nil_append, Option.map_some, Option.bind_some, if_true, if_false]; rw [callR_ok a2]
    have c8 : ∀ d7 : D, ev prog.gl (run prog (m + 4)) (.call 8 [.v 2, .v 5]) ⟨[d0, d1, .int (n : Int), d3, d4, BL B, BL B, d7, d8, d9, d10], o⟩ = .ok (il l) ⟨[d0, d1, .int (n : Int), d3, d4, BL B, BL B, d7, d8, d9, d10], o⟩ := fun d7 => by
      simp only [zz, List.getElem?_cons_zero, List.getElem?_cons_succ, List.set_cons_zero, List.set_cons_succ, List.cons_append, List.nil_append, Option.map_some, Option.bind_some, if_true, if_false]; rw [callR_ok a3]
    rw [exs_cons, ex_asg, ev_bi, evL_cons, evv rfl]
    simp only [R.bind_ok, evL_nil, list_BL]
    simp only [zt, List.set_cons_zero, List.set_cons_succ]
    rw [exs_cons, ex_asg, c0]
    simp only [zt, List.set_cons_zero, List.set_cons_succ]
    rw [exs_cons, ex_ite, hk]
    simp only [zt, List.set_cons_zero, List.set_cons_succ]
    rw [exs_cons, ex_asg, c8]
    simp only [zt, List.set_cons_zero, List.set_cons_succ]
    refine ⟨⟨[d0, d1, .int (n : Int), d3, d4, BL B, BL B, .tup [.str scaleS, il l], il l, d9, d10], o⟩, rfl, ?_⟩
    · simp only [il]
      simp only [zz, List.getElem?_cons_zero, List.getElem?_cons_succ, List.set_cons_zero, List.set_cons_succ, List.cons_append, List.nil_append, Option.map_some, Option.bind_some, if_true, if_false, cp_eq_self (data_lint l), show (scaleS == [115, 99, 97, 108, 101]) = true from rfl]
  · have hk := key ringS x a1 _ rfl
    have c0 : ev prog.gl (run prog (m + 4)) (.call 0 [.v 2, .v 6]) ⟨[d0, d1, .int (n : Int), d3, d4, BL B, BL B, d7, d8, d9, d10], o⟩ = .ok (.tup [.str ringS, il x]) ⟨[d0, d1, .int (n : Int), d3, d4, BL B, BL B, d7, d8, d9, d10], o⟩ := by
      simp only [zz, List.getElem?_cons_zero, List.getElem?_cons_succ, List.set_cons_zero, List.set_cons_succ, List.cons_append, List.nil_append, Option.map_some, Option.bind_some, if_true, if_false]; rw [callR_ok a3]
    have c8 : ∀ d7 : D, ev prog.gl (run prog (m + 4)) (.call 8 [.v 2, .v 5]) ⟨[d0, d1, .int (n : Int), d3, d4, BL B, BL B, d7, d8, d9, d10], o⟩ = .ok .non ⟨[d0, d1, .int (n : Int), d3, d4, BL B, BL B, d7, d8, d9, d10], o⟩ := fun d7 => by
      simp only [zz, List.getElem?_cons_zero, List.getElem?_cons_succ, List.set_cons_zero, List.set_cons_succ, List.cons_append, List.nil_append, Option.map_some, Option.bind_some, if_true, if_false]; rw [callR_ok a4]
    have j1 := r_lring (m := m + 1) (B := B) (x := x) (o := o) (by omega)
    rw [a2] at j1
    have j2 := r_judged (m := m) (B := B) (x := x) (o := o) a1 a2
    rw [exs_cons, ex_asg, ev_bi, evL_cons, evv rfl]
    simp only [R.bind_ok, evL_nil, list_BL]
    simp only [zt, List.set_cons_zero, List.set_cons_succ]
    rw [exs_cons, ex_asg, c0]
    simp only [zt, List.set_cons_zero, List.set_cons_succ]
    rw [exs_cons, ex_ite, hk]
    simp only [zt, List.set_cons_zero, List.set_cons_succ]
    rw [exs_cons, ex_asg, c8]
    simp only [zt, List.set_cons_zero, List.set_cons_succ]
    refine ⟨⟨[d0, d1, .int (n : Int), d3, d4, BL B, BL B, .tup [.str ringS, il x], .non, d9, d10], o⟩, rfl, ?_⟩
    · simp only [il]
      simp only [zz, List.getElem?_cons_zero, List.getElem?_cons_succ, List.set_cons_zero, List.set_cons_succ, List.cons_append, List.nil_append, Option.map_some, Option.bind_some, if_true, if_false, show (ringS == [114, 105, 110, 103]) = true from rfl]
      rw [callR_ok j1]
      simp only [zz, List.getElem?_cons_zero, List.getElem?_cons_succ, List.set_cons_zero, List.set_cons_succ, List.cons_append, List.nil_append, Option.map_some, Option.bind_some, if_true, if_false]
      rw [callR_ok j2]
      simp only [zz, List.getElem?_cons_zero, List.getElem?_cons_succ, List.set_cons_zero, List.set_cons_succ, List.cons_append, List.nil_append, Option.map_some, Option.bind_some, if_true, if_false]
end LW

namespace LW
open Z
theorem r_pre {m : Nat} {ns : List Int} {o : List Ob} : ∃ (c : Int) (n M : Nat) (w : Int), n ≤ 1000 ∧ M ≤ 1000 ∧ (n = 0 → M = 0) ∧ 0 < w ∧ w ≤ 1000000 ∧
    exs prog.gl (run prog (m + 1)) prog.sub (f12.body.take 7) ⟨[.lst (ns.map .int), .non, .non, .non, .non, .non, .non, .non, .non, .non, .non], o⟩ = .nx ⟨[.lst (ns.map .int), .int c, .int (n : Int), .int (M : Int), .int w, .non, .non, .non, .non, .non, .non], o⟩ := by
  obtain ⟨c, hc⟩ := r_cell (n := m) (o := o) (ns := ns) (k := 0) (by decide)
  obtain ⟨n1, hn1, hn2⟩ := fmod_nat c (m := 8) (by decide)
  obtain ⟨m1, hm1, hm2⟩ := fmod_nat (c.fdiv 8) (m := 15) (by decide)
  have d8 := fun x : Int => op_div_i (x := x) (show (8 : Int) ≠ 0 by decide) (by decide)
  have d120 := fun x : Int => op_div_i (x := x) (show (120 : Int) ≠ 0 by decide) (by decide)
  have d1920 := fun x : Int => op_div_i (x := x) (show (1920 : Int) ≠ 0 by decide) (by decide)
  have m8 := fun x : Int => op_mod_i (x := x) (show (8 : Int) ≠ 0 by decide)
  have m15 := fun x : Int => op_mod_i (x := x) (show (15 : Int) ≠ 0 by decide)
  have m16 := fun x : Int => op_mod_i (x := x) (show (16 : Int) ≠ 0 by decide)
  have hn1' : c.fmod 8 = (n1 : Int) := hn1
  have hm1' : (c.fdiv 8).fmod 15 = (m1 : Int) := hm1
  let n : Nat := if ((c.fdiv 120).fmod 16 == 5) = true then 16 else n1
  let M0 : Nat := if ((c.fdiv 120).fmod 16 == 5) = true then 60 else m1
  let M : Nat := if ((n : Int) == 0) = true then 0 else M0
  let w : Int := if ((c.fdiv 1920).fmod 8 == 3) = true then 999999 else 4
  refine ⟨c, n, M, w, ?_, ?_, ?_, ?_, ?_, ?_⟩
  · simp only [n]; split <;> omega
  · simp only [M, M0]; split <;> (try split) <;> omega
  · intro h
    simp only [M, h]
    rfl
  · simp only [w]; split <;> omega
  · simp only [w]; split <;> omega
  · simp only [f12, List.take_succ_cons, List.take_zero]
    rw [exs_cons, ex_asg, ev_call]
    simp only [zz, List.getElem?_cons_zero, List.getElem?_cons_succ, List.set_cons_zero, List.set_cons_succ, List.cons_append, List.nil_append, Option.map_some, Option.bind_some, if_true, if_false]
    rw [callR_ok hc]
    simp only [zz, List.getElem?_cons_zero, List.getElem?_cons_succ, List.set_cons_zero, List.set_cons_succ, List.cons_append, List.nil_append, Option.map_some, Option.bind_some, if_true, if_false, d8, d120, d1920, m8, m15, m16, hn1', hm1']
    have e16 : ((16 : Int) == 0) = false := by decide
    cases h1 : ((c.fdiv 120).fmod 16 == 5) with
    | true =>
      have en : n = 16 := by simp only [n, h1, if_true]
      have eM : M = 60 := by
        simp only [M, M0, h1, if_true, en]
        rfl
      rw [en, eM]
      simp only [zz, List.getElem?_cons_zero, List.getElem?_cons_succ, List.set_cons_zero, List.set_cons_succ, List.cons_append, List.nil_append, Option.map_some, Option.bind_some, if_true, if_false, e16, d1920, m8]
      cases h3 : ((c.fdiv 1920).fmod 8 == 3) <;> simp only [zz, List.getElem?_cons_zero, List.getElem?_cons_succ, List.set_cons_zero, List.set_cons_succ, List.cons_append, List.nil_append, Option.map_some, Option.bind_some, if_true, if_false, w, h3] <;> rfl
    | false =>
      have en : n = n1 := by simp only [n, h1]; rfl
      have eM : M = if ((n1 : Int) == 0) = true then 0 else m1 := by simp only [M, M0, h1, en]; rfl
      rw [en, eM]
      simp only [zz, List.getElem?_cons_zero, List.getElem?_cons_succ, List.set_cons_zero, List.set_cons_succ, List.cons_append, List.nil_append, Option.map_some, Option.bind_some, if_true, if_false]
      cases h2 : ((n1 : Int) == 0) <;> simp only [zz, List.getElem?_cons_zero, List.getElem?_cons_succ, List.set_cons_zero, List.set_cons_succ, List.cons_append, List.nil_append, Option.map_some, Option.bind_some, if_true, if_false, d1920, m8] <;> cases h3 : ((c.fdiv 1920).fmod 8 == 3) <;> simp only [zz, List.getElem?_cons_zero, List.getElem?_cons_succ, List.set_cons_zero, List.set_cons_succ, List.cons_append, List.nil_append, Option.map_some, Option.bind_some, if_true, if_false, w, h3] <;> rfl
theorem r_law {m : Nat} {ns : List Int} {o : List Ob} : run prog (m + 6) 12 [.lst (ns.map .int)] o = .ok (.bl true) [] o := by
  obtain ⟨c, n, M, w, h1, h2, h3, h4, h5, h6⟩ := r_pre (m := m + 4) (ns := ns) (o := o)
  obtain ⟨B, b1, b2, b3⟩ := r_bounds (m := m + 2) (n := n) (many := M) (wide := w) (kept := ((c.fdiv 15360).fmod 2 == 0)) (ns := ns) (o := o) h1 h2 h3 h4 h5
  obtain ⟨c6, hc6⟩ := r_cell (n := m + 4) (o := o) (ns := ns) (k := 6) (by decide)
  have d1 := fun x : Int => op_div_i (x := x) (show (15360 : Int) ≠ 0 by decide) (by decide)
  have d2 := fun x : Int => op_div_i (x := x) (show (30720 : Int) ≠ 0 by decide) (by decide)
  have d3 := fun x : Int => op_div_i (x := x) (show (122880 : Int) ≠ 0 by decide) (by decide)
  have m2 := fun x : Int => op_mod_i (x := x) (show (2 : Int) ≠ 0 by decide)
  have m4 := fun x : Int => op_mod_i (x := x) (show (4 : Int) ≠ 0 by decide)
  have fin : ∀ (B : List Bd) (d9 d10 : D), (∀ b ∈ B, b.u < n ∧ b.l < n) → ends f12 (exs prog.gl (run prog (m + 5)) prog.sub tailL ⟨[.lst (ns.map .int), .int c, .int (n : Int), .int (M : Int), .int w, BL B, .non, .non, .non, d9, d10], o⟩) = .ok (.bl true) [] o := fun B d9 d10 hB => by
    obtain ⟨e, e1, e2⟩ := r_end (m := m + 1) (n := n) (B := B) (d0 := .lst (ns.map .int)) (d1 := .int c) (d3 := .int (M : Int)) (d4 := .int w) (d6 := .non) (d7 := .non) (d8 := .non) (d9 := d9) (d10 := d10) (o := o) h1 hB
    rw [e2]
    simp [ends, outsOf, e1, f12]
  have e0 : run prog (m + 6) 12 [.lst (ns.map .int)] o = ends f12 (exs prog.gl (run prog (m + 5)) prog.sub (f12.body.take 7 ++ f12.body.drop 7) ⟨[.lst (ns.map .int), .non, .non, .non, .non, .non, .non, .non, .non, .non, .non], o⟩) := by
    rw [run_eq (fn := f12) rfl, callFn_eq rfl]
    rfl
  rw [e0, exs_app, h6, RS.seq_nx]
  have e7 : f12.body.drop 7 = (f12.body.drop 7).take 2 ++ tailL := rfl
  rw [e7, exs_app]
  suffices hs : ∃ (B : List Bd) (d9 d10 : D), (∀ b ∈ B, b.u < n ∧ b.l < n) ∧ exs prog.gl (run prog (m + 5)) prog.sub ((f12.body.drop 7).take 2) ⟨[.lst (ns.map .int), .int c, .int (n : Int), .int (M : Int), .int w, .non, .non, .non, .non, .non, .non], o⟩ = .nx ⟨[.lst (ns.map .int), .int c, .int (n : Int), .int (M : Int), .int w, BL B, .non, .non, .non, d9, d10], o⟩ by
    obtain ⟨B, d9, d10, x1, x2⟩ := hs
    rw [x2, RS.seq_nx]
    exact fin B d9 d10 x1
  have hb : ∃ b : Bool, (b = true → 0 < M) ∧ ev prog.gl (run prog (m + 5)) (.and (.cmp .gt (.pk 3) (.int 0)) (.and (.cmp .lt (.pk 3) (.int 60)) (.and (.cmp .gt (.pk 2) (.int 1)) (.cmp .eq (.op .mod (.bi .int [(.op .fdiv (.pk 1) (.int 30720))]) (.int 4)) (.int 0))))) ⟨[.lst (ns.map .int), .int c, .int (n : Int), .int (M : Int), .int w, BL B, .non, .non, .non, .non, .non], o⟩ = .ok (.bl b) ⟨[.lst (ns.map .int), .int c, .int (n : Int), .int (M : Int), .int w, BL B, .non, .non, .non, .non, .non], o⟩ := by
    by_cases q1 : (0 : Int) < (M : Int)
    · by_cases q2 : (M : Int) < 60
      · by_cases q3 : (1 : Int) < (n : Int)
        · exact ⟨((c.fdiv 30720).fmod 4 == 0), fun _ => by omega, by simp only [zz, List.getElem?_cons_zero, List.getElem?_cons_succ, List.set_cons_zero, List.set_cons_succ, List.cons_append, List.nil_append, Option.map_some, Option.bind_some, if_true, if_false, q1, q2, q3, d2, m4]⟩
        · exact ⟨false, fun h => (by cases h), by simp only [zz, List.getElem?_cons_zero, List.getElem?_cons_succ, List.set_cons_zero, List.set_cons_succ, List.cons_append, List.nil_append, Option.map_some, Option.bind_some, if_true, if_false, q1, q2, q3]⟩
      · exact ⟨false, fun h => (by cases h), by simp only [zz, List.getElem?_cons_zero, List.getElem?_cons_succ, List.set_cons_zero, List.set_cons_succ, List.cons_append, List.nil_append, Option.map_some, Option.bind_some, if_true, if_false, q1, q2]⟩
    · exact ⟨false, fun h => (by cases h), by simp only [zz, List.getElem?_cons_zero, List.getElem?_cons_succ, List.set_cons_zero, List.set_cons_succ, List.cons_append, List.nil_append, Option.map_some, Option.bind_some, if_true, if_false, q1]⟩
  obtain ⟨b, hbM, hb⟩ := hb
  have h11 : ev prog.gl (run prog (m + 5)) (.call 11 [(.v 0), (.v 2), (.v 3), (.v 4), (.cmp .eq (.op .mod (.bi .int [(.op .fdiv (.pk 1) (.int 15360))]) (.int 2)) (.int 0))]) ⟨[.lst (ns.map .int), .int c, .int (n : Int), .int (M : Int), .int w, .non, .non, .non, .non, .non, .non], o⟩ = .ok (BL B) ⟨[.lst (ns.map .int), .int c, .int (n : Int), .int (M : Int), .int w, .non, .non, .non, .non, .non, .non], o⟩ := by
    simp only [zz, List.getElem?_cons_zero, List.getElem?_cons_succ, List.set_cons_zero, List.set_cons_succ, List.cons_append, List.nil_append, Option.map_some, Option.bind_some, if_true, if_false, d1, m2]
    rw [callR_ok b3]
  simp only [f12, List.take_succ_cons, List.take_zero, List.drop_succ_cons, List.drop_zero]
  rw [exs_cons, ex_asg, h11]
  simp only [zt, List.set_cons_zero, List.set_cons_succ]
  rw [exs_cons, ex_ite, hb]
  simp only [zt, List.set_cons_zero, List.set_cons_succ]
  cases b with
  | false => exact ⟨B, .non, .non, b2, by simp only [zz, List.getElem?_cons_zero, List.getElem?_cons_succ, List.set_cons_zero, List.set_cons_succ, List.cons_append, List.nil_append, Option.map_some, Option.bind_some, if_true, if_false]⟩
  | true =>
    obtain ⟨a, ha, ha2⟩ := fmod_nat c6 (m := M) (hbM rfl)
    have mM := op_mod_i (x := c6) (y := (M : Int)) (by have := hbM rfl; omega)
    have g := bl_get (B := B) (p := a) (by omega)
    let t : Bd := ⟨(B.getD a default).l, (B.getD a default).u, (c.fdiv 122880).fmod 2 - (B.getD a default).g⟩
    have hB : B.getD a default ∈ B := by
      have : B.getD a default = B[a]'(by omega) := by simp [show a < B.length by omega]
      rw [this]; exact List.getElem_mem _
    refine ⟨B.take (a + 1) ++ [t] ++ B.drop (a + 1), .int (a : Int), bdD t, ?_, ?_⟩
    · intro x hx
      rcases List.mem_append.mp hx with hx | hx
      · rcases List.mem_append.mp hx with hx | hx
        · exact b2 x (List.mem_of_mem_take hx)
        · rw [List.mem_singleton] at hx
          subst hx
          exact ⟨(b2 _ hB).2, (b2 _ hB).1⟩
      · exact b2 x (List.mem_of_mem_drop hx)
    · have e1 : (a : Int) + 1 = ((a + 1 : Nat) : Int) := by omega
      have k1 : cut (B.map bdD) none (some ((a + 1 : Nat) : Int)) = (B.take (a + 1)).map bdD := by rw [cut_map, cut_take (by omega)]; rfl
      have k2 : cut (B.map bdD) (some ((a + 1 : Nat) : Int)) none = (B.drop (a + 1)).map bdD := by rw [cut_map, cut_drop (by omega)]; rfl
      have k3 : opCat (.lst ((B.take (a + 1)).map bdD)) (.lst [bdD t]) = some (.lst ((B.take (a + 1) ++ [t]).map bdD)) := by rw [cat_ok (by simp; omega)]; simp
      have k4 : opCat (.lst ((B.take (a + 1) ++ [t]).map bdD)) (.lst ((B.drop (a + 1)).map bdD)) = some (BL (B.take (a + 1) ++ [t] ++ B.drop (a + 1))) := by rw [cat_ok (by simp; omega)]; simp [BL]
      rw [exs_cons, ex_asg]
      simp only [zz, List.getElem?_cons_zero, List.getElem?_cons_succ, List.set_cons_zero, List.set_cons_succ, List.cons_append, List.nil_append, Option.map_some, Option.bind_some, if_true, if_false]
      rw [callR_ok hc6]
      simp only [zz, List.getElem?_cons_zero, List.getElem?_cons_succ, List.set_cons_zero, List.set_cons_succ, List.cons_append, List.nil_append, Option.map_some, Option.bind_some, if_true, if_false, mM, ha, g, d3, m2, ix_BL, show bdD (B.getD a default) = .tup [.int ((B.getD a default).u : Int), .int ((B.getD a default).l : Int), .int (B.getD a default).g] from rfl]
      have ht : (.tup [.int ((B.getD a default).l : Int), .int ((B.getD a default).u : Int), .int ((c.fdiv 122880).fmod 2 - (B.getD a default).g)] : D) = bdD t := rfl
      rw [ht]
      have hslT : ∀ lo hi, opSlT lo hi (BL B) = some (.lst (cut (B.map bdD) lo hi)) := fun _ _ => rfl
      simp only [zz, List.getElem?_cons_zero, List.getElem?_cons_succ, List.set_cons_zero, List.set_cons_succ, List.cons_append, List.nil_append, Option.map_some, Option.bind_some, if_true, if_false, hslT, e1, k1, k2, k3, k4]
end LW

namespace LW
open PySem PySem.Spec L2 PyProof.Rows
abbrev R : PySem.W.OpenRow := PySem.W.OpenLaw.row PySem.Challenge.rw_scalesfound_k08_least_scale_or_ring
abbrev hk : PySem.W.Hook := Z.hookZ 5 fa (ds.map (·.d)) file rs
def ob (s : PySem.W.SharedT) : He.AlD × Bool := Z.obsZ 5 fa (ds.map (·.d)) file rs (HandSHeadRun.getT s)
theorem ob_eq (s : PySem.W.SharedT) : ob s = hk.obs s.abs := Z.obsZ_eq (HandSHeadRun.getT_eq s)
theorem headRun (w : World) : HandSHeadRun.RunEq R (PySem.W.view R.prog vw) hk ob 3000 loose w := by
  intro os
  kernel_rfl
end LW

namespace LW
open PySem PySem.Spec L2 PyProof.Rows
abbrev rw := PySem.Challenge.rw_scalesfound_k08_least_scale_or_ring
theorem hasGlo : ∀ D ∈ ds, He.Fa.glo D.d.name ∈ fa := fun D hD => List.mem_append_left _ (List.mem_map.mpr ⟨D, hD, rfl⟩)
theorem hasFree : ∀ x ∈ Z.blt, He.Fa.free x ∈ fa := fun x hx => List.mem_append_right _ (List.mem_map.mpr ⟨x, hx, rfl⟩)
theorem facts {K : PySem.W.Frag} {h : Heap} {mg : Str → Option Value} (KX : K.In h) (G : h.Ns mainGlobals mg) (c : He.SaysD fa (ds.map (·.d)) K) : Z.LawOk (lw K) ds 200 K mg where
  hK := rfl
  fns := rfl
  nm := rfl
  ck := List.all_eq_true.mp (ck K)
  sc := List.all_eq_true.mp sc
  fd := Z.fd_of c pl bd
  hmg := Z.mg_of' KX G c pl pl2 hasGlo
  bl := Z.free_of' KX G c hasFree
  gl := fun g v hg => by simp [lw, prog] at hg
theorem tab (K : PySem.W.Frag) : Z.XTab (lw K) K rs := ⟨rfl, rfl, fun _ => rfl, fun _ => rfl, fun _ => rfl, fun _ _ => rfl⟩
theorem mainScope : ((PySem.Challenge.pw_scalesfound_k08_least_scale_or_ring).main.scope.names.lookup ("super" : Str)).isSome = false := by kernel_rfl
end LW
open PySem PySem.W PySem.Calls PyProof.Rows
theorem PySem.Challenge.cw_scalesfound_k08_least_scale_or_ring_holds : PySem.Challenge.rw_scalesfound_k08_least_scale_or_ring.Holds := by
  w_on; o_law
  refine HandSHeadRun.head_any (r := OpenLaw.row PySem.Challenge.rw_scalesfound_k08_least_scale_or_ring) (q := view (OpenLaw.row PySem.Challenge.rw_scalesfound_k08_least_scale_or_ring).prog LW.vw) (H := LW.hk) (ob := LW.ob) (M := 3000) (loose := LW.loose) (d := HandSHeadRun.topDef (OpenLaw.row PySem.Challenge.rw_scalesfound_k08_least_scale_or_ring).prog 14) (kwd := []) LW.ob_eq
    (by kernel_rfl) (fun s => by kernel_rfl) LW.headRun (by kernel_rfl) (by kernel_rfl) (by kernel_rfl) (by rfl) (by first | assumption | decide +kernel) (by decide +kernel) ⟨rfl, rfl, rfl, rfl, rfl, by decide +kernel⟩ ?hw ?hc
  case hw => w_witness2
  case hc =>
    refine Z.walk_Z (l := PySem.Challenge.rw_scalesfound_k08_least_scale_or_ring) (n := 63) (k := 60) (ds := LW.ds) (lw := LW.lw) (m := 200) (iL := 12) rfl (by decide) (by kernel_rfl) ⟨rfl, by decide, by decide⟩ rfl rfl (by kernel_rfl) rfl rfl (LW.bd _ (by simp [LW.ds])) ?F ?P
    case F =>
      intro w mg fa h Y G
      obtain ⟨K, KX, c, nl, hr⟩ := Y
      exact ⟨K, KX, nl, LW.facts KX G c, fun base => Z.rows_ok hr KX G rfl LW.mainScope (Z.free_of' KX G c LW.hasFree _ (by simp [Z.blt])) (Z.free_of' KX G c LW.hasFree _ (by simp [Z.blt])) (LW.tab K)⟩
    case P =>
      intro K ns hl hb
      exact ⟨_, LW.r_law (m := 54)⟩
