import PyProof.Rows.All
import Wide.All
import OpenK.AllK
import Wide.FinOn
import HandS.ForMost
import HandS.ForExc
import HandS.Flow
import HandS.Walk
import HandS.Zip
import HandS.TupAny
import HandS.TupMul
import HandS.Style
import HandS.IsInst
import HandS.Conv
import HandS.Wide
import HandS.WideBits
import KE.DataEq
import PyProof.StrOps2
import HandS.More
import HandS.Deep
import KE.GoesEnum
import KE.GoesMore
import KE.GoesZip
import HandS.Rev
import KE.BitLaws
import PySem.Challenge.RW_beatfabric_k04_tokens
set_option Elab.async false
set_option linter.all false
set_option maxRecDepth 100000
set_option maxHeartbeats 7654321
/-! PCore: plain data, a memory of lists, a small syntax and what it means. -/
namespace PC
open PySem L2
noncomputable section
/-- a side condition; that it holds is never computed -/
def Lo (p : Prop) : Prop := p
instance (p : Prop) : Decidable (Lo p) := Classical.propDecidable _
theorem if_lo {p : Prop} {α : Sort _} {a b : α} (h : p) : (if Lo p then a else b) = a := if_pos h

/-- plain data; ref n is the n-th thing of the memory -/
inductive D where
  | none | bool (b : Bool) | int (i : Int) | str (s : Str) | tup (xs : List D) | ref (n : Nat)
  /-- a list that is never written (the script) -/
  | kl (xs : List D)

structure Exc where
  cls : Str
  fs : List (Str × D)

/-- a thing of the memory -/
inductive MO where
  | lst (xs : List D)
  | dk (kvs : List (Key × D))
  | dt (kvs : List (List Key × D))
abbrev Mem := List MO
abbrev Loc := List (Option D)

inductive Res (α : Type) where
  | bad | ok (a : α) (m : Mem) | ex (e : Exc) (m : Mem)
def Res.bind {α β : Type} (r : Res α) (f : α → Mem → Res β) : Res β :=
  match r with
  | .bad => .bad
  | .ok a m => f a m
  | .ex e m => .ex e m
@[simp] theorem Res.ok_bind {α β : Type} (a : α) (m : Mem) (f : α → Mem → Res β) : (Res.ok a m).bind f = f a m := rfl
@[simp] theorem Res.bad_bind {α β : Type} (f : α → Mem → Res β) : (Res.bad : Res α).bind f = .bad := rfl
@[simp] theorem Res.ex_bind {α β : Type} (e : Exc) (m : Mem) (f : α → Mem → Res β) : (Res.ex e m : Res α).bind f = .ex e m := rfl

inductive SR where
  | bad | nx (σ : Loc) (m : Mem) | rt (d : D) (m : Mem) | bk (σ : Loc) (m : Mem) | ct (σ : Loc) (m : Mem) | ex (e : Exc) (σ : Loc) (m : Mem)
def SR.seq (r : SR) (f : Loc → Mem → SR) : SR :=
  match r with
  | .nx σ m => f σ m
  | r => r
@[simp] theorem SR.nx_seq (σ : Loc) (m : Mem) (f : Loc → Mem → SR) : (SR.nx σ m).seq f = f σ m := rfl
@[simp] theorem SR.rt_seq (d : D) (m : Mem) (f : Loc → Mem → SR) : (SR.rt d m).seq f = .rt d m := rfl
@[simp] theorem SR.bk_seq (σ : Loc) (m : Mem) (f : Loc → Mem → SR) : (SR.bk σ m).seq f = .bk σ m := rfl
@[simp] theorem SR.ct_seq (σ : Loc) (m : Mem) (f : Loc → Mem → SR) : (SR.ct σ m).seq f = .ct σ m := rfl
@[simp] theorem SR.bad_seq (f : Loc → Mem → SR) : SR.bad.seq f = .bad := rfl
@[simp] theorem SR.ex_seq (e : Exc) (σ : Loc) (m : Mem) (f : Loc → Mem → SR) : (SR.ex e σ m).seq f = .ex e σ m := rfl
/-- a value, then a statement's end -/
def Res.to {α : Type} (r : Res α) (σ : Loc) (f : α → Mem → SR) : SR :=
  match r with
  | .bad => .bad
  | .ok a m => f a m
  | .ex e m => .ex e σ m
@[simp] theorem Res.ok_to {α : Type} (a : α) (m : Mem) (σ : Loc) (f : α → Mem → SR) : (Res.ok a m).to σ f = f a m := rfl
@[simp] theorem Res.bad_to {α : Type} (σ : Loc) (f : α → Mem → SR) : (Res.bad : Res α).to σ f = .bad := rfl
@[simp] theorem Res.ex_to {α : Type} (e : Exc) (m : Mem) (σ : Loc) (f : α → Mem → SR) : (Res.ex e m : Res α).to σ f = .ex e σ m := rfl

/-! ### the syntax -/
inductive BI where
  | len | int | abs | min2 | max2 | sum | all | any | tuple | list | max1 | min1
inductive MT where
  | append | pop | popAt | extend | bitLength | split | join | insert | reverse | index
mutual
inductive CE where
  | var (i : Nat) | lit (d : D) | glob (x : Str)
  | bin (o : Operator) (a b : CE) | neg (a : CE) | inv (a : CE)
  | cmp (o : CmpOp) (a b : CE) | chain (o o' : CmpOp) (a b c : CE)
  | and (a b : CE) | or (a b : CE) | not (a : CE) | ife (t : CB) (a b : CE)
  | tup (es : CEs) | lst (es : CEs)
  | idx (a i : CE) | slc (a : CE) (lo hi : CO)
  | call (f : Str) (es : CEs) | bi (f : BI) (es : CEs) | isin (e : CE) (T : String) | meth (f : MT) (o : CE) (es : CEs)
  | comp (vs : List Nat) (t : CT) (it : CI) (c : CBO) (e : CE)
  /-- nothing in the text: what is not reached any more is forgotten -/
  | gc (e : CE)
  /-- list(range(..)) -/
  | lrng1 (a : CE) | lrng2 (a b : CE)
inductive CEs where
  | nil | cons (e : CE) (es : CEs)
inductive CO where
  | none | some (e : CE)
inductive CB where
  | and (a b : CB) | or (a b : CB) | not (a : CB) | val (e : CE)
inductive CBO where
  | none | some (t : CB)
inductive CI where
  | plain (e : CE) | rng1 (a : CE) | rng2 (a b : CE) | zip (a b : CE) | enum (a : CE) | rev (a : CE)
inductive CT where
  | name (i : Nat) | tup (ts : CTs) | sub (o i : CE)
inductive CTs where
  | nil | cons (t : CT) (ts : CTs)
end
mutual
inductive CS where
  | asg (t : CT) (e : CE) | aug (i : Nat) (o : Operator) (e : CE) | augS (o i : CE) (p : Operator) (e : CE)
  | expr (e : CE) | ret (e : CE) | retN | pass | brk | cont
  | par3 (i j l : Nat) (a b c : CE)
  | ite (t : CB) (a b : CSs) | whl (t : CB) (b : CSs) | fr (t : CT) (it : CI) (b : CSs)
inductive CSs where
  | nil | cons (s : CS) (ss : CSs)
end

/-! ### operations on data -/
def seqOf (m : Mem) : D → Option (List D)
  | .tup xs => some xs
  | .kl xs => some xs
  | .ref n => match m[n]? with
    | some (.lst xs) => some xs
    | _ => Option.none
  | _ => Option.none
/- data read off -/
mutual
def pyD (f : Nat → Option PyData) : D → Option PyData
  | .none => some .none
  | .bool b => some (.bool b)
  | .int i => some (.int i)
  | .str s => some (.str s)
  | .tup xs => (pyDs f xs).map .tuple
  | .kl xs => (pyDs f xs).map .list
  | .ref n => f n
def pyDs (f : Nat → Option PyData) : List D → Option (List PyData)
  | [] => some []
  | d :: ds => match pyD f d, pyDs f ds with
    | some x, some xs => some (x :: xs)
    | _, _ => Option.none
end
def pyR (m : Mem) : Nat → Nat → Option PyData
  | 0, _ => Option.none
  | k + 1, n => match m[n]? with
    | some (.lst xs) => (pyDs (pyR m k) xs).map .list
    | _ => Option.none
def pyOf (m : Mem) (d : D) : Option PyData := pyD (pyR m 20) d
def eqD (m : Mem) (x y : D) : Option Bool :=
  match pyOf m x, pyOf m y with
  | some a, some b => if Lo (min a.depth b.depth ≤ 150) then some (PyData.eqv a b) else Option.none
  | _, _ => Option.none
/-- is x among ys -/
def inD (m : Mem) (x : D) (ys : List D) : Option Bool :=
  match pyOf m x, pyDs (pyR m 20) ys with
  | some a, some bs => if Lo (PyData.depthAll bs ≤ 150 ∧ a.depth ≤ 150) then some (bs.any fun b => PyData.eqv b a) else Option.none
  | _, _ => Option.none
def truD (m : Mem) : D → Option Bool
  | .none => some false
  | .bool b => some b
  | .int i => some (i != 0)
  | .str s => if Lo (s.length ≤ sizeLine) then some ((s.length : Int) != 0) else Option.none
  | .tup xs => some (!xs.isEmpty)
  | .kl xs => some (!xs.isEmpty)
  | .ref n => match m[n]? with
    | some (.lst xs) => some (!xs.isEmpty)
    | some (.dk kvs) => some (!kvs.isEmpty)
    | _ => Option.none
def newL (xs : List D) (m : Mem) : Res D := .ok (.ref m.length) (m ++ [.lst xs])
/-- a text n times -/
def repS (z : Str) (n : Int) : Str := if n < 1 then Str.empty else if (n == 1 || z.length == 0) = true then z else ⟨(List.replicate n.toNat z.cps).foldl (· ++ ·) #[]⟩
def opB (o : Operator) (x y : D) (m : Mem) : Res D :=
  match o, x, y with
  | .Add, .int i, .int j => .ok (.int (i + j)) m
  | .Add, .int i, .bool b => .ok (.int (i + (if b then 1 else 0))) m
  | .Add, .str a, .str b => if Lo (a.length + b.length ≤ sizeLine) then .ok (.str (a ++ b)) m else .bad
  | .Add, .tup xs, .tup ys => if Lo (xs.length + ys.length ≤ sizeLine) then .ok (.tup (xs ++ ys)) m else .bad
  | .Add, .ref a, .ref b => match m[a]?, m[b]? with
    | some (.lst xs), some (.lst ys) => if Lo (xs.length + ys.length ≤ sizeLine) then newL (xs ++ ys) m else .bad
    | _, _ => .bad
  | .Sub, .int i, .int j => .ok (.int (i - j)) m
  | .Mult, .int i, .int j => if Lo (((-(2 ^ 64) < i ∧ i < 2 ^ 64) ∨ (-(2 ^ 64) < j ∧ j < 2 ^ 64)) ∨ i.natAbs.log2 + j.natAbs.log2 < 1000000) then .ok (.int (i * j)) m else .bad
  | .Mult, .ref a, .int k => match m[a]? with
    | some (.lst xs) => if Lo (-(2 ^ 63) ≤ k ∧ k < 2 ^ 63 ∧ xs.length * k.toNat ≤ sizeLine) then newL (List.replicate k.toNat xs).flatten m else .bad
    | _ => .bad
  | .FloorDiv, .int i, .int j => if Lo (0 < j ∧ j.natAbs.log2 < 9000) then .ok (.int (i / j)) m else .bad
  | .Mod, .int i, .int j => if Lo (0 < j) then .ok (.int (i % j)) m else .bad
  | .Pow, .int i, .int j => if Lo (0 ≤ j ∧ j ≤ 1000000 ∧ i.natAbs < 2 ^ 64) then .ok (.int (i ^ j.toNat)) m else .bad
  | .LShift, .int i, .int j => if Lo (0 ≤ j ∧ j ≤ 1000000 ∧ i.natAbs < 2 ^ 64) then .ok (.int (i * 2 ^ j.toNat)) m else .bad
  | .RShift, .int i, .int j => if Lo (0 ≤ j) then .ok (.int (i / 2 ^ j.toNat)) m else .bad
  | .BitAnd, .int i, .int j => .ok (.int (Builtin.bitAnd i j)) m
  | .BitOr, .int i, .int j => .ok (.int (Builtin.bitOr i j)) m
  | .BitXor, .int i, .int j => .ok (.int (Builtin.bitXor i j)) m
  | .Mult, .str z, .int n => if Lo (-(2 ^ 63) ≤ n ∧ n < 2 ^ 31 ∧ z.length * n.toNat < sizeLine) then .ok (.str (repS z n)) m else .bad
  | _, _, _ => .bad
/-- x op= y for ints -/
def opA (o : Operator) (x y : D) (m : Mem) : Res D :=
  match o, x, y with
  | .Add, .int i, .int j => .ok (.int (i + j)) m
  | .Add, .str a, .str b => if Lo (a.length + b.length ≤ sizeLine) then .ok (.str (a ++ b)) m else .bad
  | .Sub, .int i, .int j => .ok (.int (i - j)) m
  | .BitOr, .int i, .int j => .ok (.int (Builtin.bitOr i j)) m
  | .BitXor, .int i, .int j => .ok (.int (Builtin.bitXor i j)) m
  | _, _, _ => .bad
def ofB (o : Option Bool) (m : Mem) : Res D := match o with | some b => .ok (.bool b) m | Option.none => .bad
def ofNB (o : Option Bool) (m : Mem) : Res D := match o with | some b => .ok (.bool (!b)) m | Option.none => .bad
def opC (o : CmpOp) (x y : D) (m : Mem) : Res D :=
  match o, x, y with
  | .Eq, x, y => ofB (eqD m x y) m
  | .NotEq, x, y => ofNB (eqD m x y) m
  | .Lt, .int i, .int j => .ok (.bool (decide (i < j))) m
  | .LtE, .int i, .int j => .ok (.bool (decide (i ≤ j))) m
  | .Gt, .int i, .int j => .ok (.bool (decide (j < i))) m
  | .GtE, .int i, .int j => .ok (.bool (decide (j ≤ i))) m
  | .Is, .none, .none => .ok (.bool true) m
  | .Is, _, .none => .ok (.bool false) m
  | .IsNot, .none, .none => .ok (.bool false) m
  | .IsNot, _, .none => .ok (.bool true) m
  | .In, .str a, .str b => .ok (.bool (!(Builtin.Str.occurrences b a 0 b.length 1).isEmpty)) m
  | .NotIn, .str a, .str b => .ok (.bool (!(!(Builtin.Str.occurrences b a 0 b.length 1).isEmpty))) m
  | .In, x, y => match seqOf m y with
    | some ys => ofB (inD m x ys) m
    | Option.none => .bad
  | .NotIn, x, y => match seqOf m y with
    | some ys => ofNB (inD m x ys) m
    | Option.none => .bad
  | _, _, _ => .bad
def idxD (a i : D) (m : Mem) : Res D :=
  match a, i with
  | .str s, .int k => if Lo (s.length ≤ sizeLine) then (match atI s.cps.toList k with | some c => .ok (.str ⟨#[c]⟩) m | Option.none => .bad) else .bad
  | a, .int k => match seqOf m a with
    | some xs => match atI xs k with | some d => .ok d m | Option.none => .bad
    | Option.none => .bad
  | _, _ => .bad
def sIx (n d : Nat) : Option Int → Nat := HT.sIx n d
def cutD {α : Type} (xs : List α) (lo hi : Option Int) : List α := (xs.drop (HT.sIx xs.length 0 lo)).take (HT.sIx xs.length xs.length hi - HT.sIx xs.length 0 lo)
def slcD (a : D) (lo hi : Option Int) (m : Mem) : Res D :=
  match a with
  | .tup xs => .ok (.tup (cutD xs lo hi)) m
  | .str z => if Lo (z.length ≤ sizeLine) then .ok (.str (cutS z lo hi)) m else .bad
  | .kl xs => newL (cutD xs lo hi) m
  | .ref n => match seqOf m (.ref n) with
    | some xs => newL (cutD xs lo hi) m
    | Option.none => .bad
  | _ => .bad
def intsD : List D → Option (List Int)
  | [] => some []
  | .int i :: r => (intsD r).map (i :: ·)
  | _ => Option.none
def strsD : List D → Option (List Str)
  | [] => some []
  | .str i :: r => (strsD r).map (i :: ·)
  | _ => Option.none
def boolsD : List D → Option (List Bool)
  | [] => some []
  | .bool i :: r => (boolsD r).map (i :: ·)
  | _ => Option.none
/-- the ints of a list or tuple -/
def lintsD (m : Mem) (d : D) : Option (List Int) := (seqOf m d).bind intsD
def lboolsD (m : Mem) (d : D) : Option (List Bool) := (seqOf m d).bind boolsD
def maxL : List Int → Int
  | [] => 0
  | [x] => x
  | x :: y :: r => if maxL (y :: r) ≤ x then x else maxL (y :: r)
def minL : List Int → Int
  | [] => 0
  | [x] => x
  | x :: y :: r => if x ≤ minL (y :: r) then x else minL (y :: r)
def lenD (m : Mem) : D → Option Nat
  | .str s => if Lo (s.length ≤ sizeLine) then some s.length else Option.none
  | d => (seqOf m d).map List.length
def biD (f : BI) (ds : List D) (m : Mem) : Res D :=
  match f, ds with
  | .len, [d] => match lenD m d with | some n => .ok (.int n) m | Option.none => .bad
  | .int, [.int i] => .ok (.int i) m
  | .int, [.bool b] => .ok (.int (if b then 1 else 0)) m
  | .abs, [.int i] => .ok (.int (if i < 0 then -i else i)) m
  | .min2, [.int i, .int j] => .ok (.int (if j < i then j else i)) m
  | .max2, [.int i, .int j] => .ok (.int (if j > i then j else i)) m
  | .sum, [d] => match lintsD m d with | some ns => .ok (.int ns.sum) m | Option.none => .bad
  | .max1, [.ref d] => match lintsD m (.ref d) with | some ns => if ns = [] then .bad else .ok (.int (maxL ns)) m | Option.none => .bad
  | .min1, [.ref d] => match lintsD m (.ref d) with | some ns => if ns = [] then .bad else .ok (.int (minL ns)) m | Option.none => .bad
  | .all, [d] => match lboolsD m d with | some ns => .ok (.bool (ns.all id)) m | Option.none => .bad
  | .any, [d] => match lboolsD m d with | some ns => .ok (.bool (ns.any id)) m | Option.none => .bad
  | .tuple, [d] => match seqOf m d with | some xs => .ok (.tup xs) m | Option.none => .bad
  | .list, [d] => match seqOf m d with | some xs => newL xs m | Option.none => .bad
  | _, _ => .bad
def isinD (m : Mem) (T : String) : D → Option Bool
  | .none => some false
  | .bool _ => some (T == "int" || T == "bool")
  | .int _ => some (T == "int")
  | .str _ => some (T == "str")
  | .tup _ => some (T == "tuple")
  | .kl _ => some (T == "list")
  | .ref n => match m[n]? with
    | some (.lst _) => some (T == "list")
    | _ => Option.none
def setL (m : Mem) (n : Nat) (xs : List D) : Mem := m.set n (.lst xs)
/-- the place of the first thing that equals x -/
def findD (m : Mem) (x : D) : List D → Option (Option Nat)
  | [] => some Option.none
  | y :: ys => match eqD m y x with
    | some true => some (some 0)
    | some false => (findD m x ys).map (Option.map (· + 1))
    | Option.none => Option.none
abbrev bitLen (i : Int) : Nat := Builtin.Int.intBits i
def mtD (f : MT) (o : D) (ds : List D) (m : Mem) : Res D :=
  match f, o, ds with
  | .append, .ref n, [d] => match m[n]? with
    | some (.lst xs) => if Lo (xs.length < sizeLine) then .ok .none (m.set n (.lst (xs ++ [d]))) else .bad
    | _ => .bad
  | .extend, .ref n, [.ref k] => match m[n]?, m[k]? with
    | some (.lst xs), some (.lst ys) => if Lo (xs.length + ys.length ≤ sizeLine) then .ok .none (m.set n (.lst (xs ++ ys))) else .bad
    | _, _ => .bad
  | .pop, .ref n, [] => match m[n]? with
    | some (.lst xs) => match xs[xs.length - 1]? with
      | some d => .ok d (m.set n (.lst xs.dropLast))
      | Option.none => .bad
    | _ => .bad
  | .popAt, .ref n, [.int i] => match m[n]? with
    | some (.lst xs) => if Lo (-(2 ^ 63) ≤ i ∧ i < 2 ^ 63) then (match ixN xs.length i with
      | some k => match xs[k]? with | some d => .ok d (m.set n (.lst (xs.eraseIdx k))) | Option.none => .bad
      | Option.none => .bad) else .bad
    | _ => .bad
  | .bitLength, .int i, [] => .ok (.int (bitLen i)) m
  | .split, .str a, [.str b] => if Lo (b.length ≠ 0 ∧ a.length + 2 ≤ sizeLine) then newL ((Txt.split a b).map .str) m else .bad
  | .join, .str a, [d] => match (seqOf m d).bind strsD with
    | some ys => if Lo ((ys.map (·.length)).sum + ys.length * a.length ≤ 16777216) then .ok (.str (Txt.join a ys)) m else .bad
    | Option.none => .bad
  | .insert, .ref n, [.int i, d] => match m[n]? with
    | some (.lst xs) => if Lo (xs.length < sizeLine ∧ 0 ≤ i ∧ i < 2 ^ 63) then .ok .none (m.set n (.lst (xs.take i.toNat ++ [d] ++ xs.drop i.toNat))) else .bad
    | _ => .bad
  | .reverse, .ref n, [] => match m[n]? with
    | some (.lst xs) => .ok .none (m.set n (.lst xs.reverse))
    | _ => .bad
  | .index, .ref n, [d] => match pyOf m (.ref n), pyOf m d with
    | some (.list ds), some z => if Lo (SeqAt.shaped (.list ds) = true ∧ SeqAt.shaped z = true) then (match ds.findIdx? (fun y => PyData.eqv y z) with
      | some j => .ok (.int (j : Nat)) m
      | Option.none => .bad) else .bad
    | _, _ => .bad
  | _, _, _ => .bad
/-- x[i] ahead of x[i] op= e -/
def getD (a i : D) (m : Mem) : Res D :=
  match a, i with
  | .ref n, .int k => match m[n]? with
    | some (.lst xs) => if Lo (0 ≤ k ∧ k < 2 ^ 63) then (match xs[k.toNat]? with | some d => .ok d m | Option.none => .bad) else .bad
    | _ => .bad
  | _, _ => .bad
/-- what a method's receiver must be, ahead of the arguments -/
def mtPre (f : MT) (x : D) (m : Mem) : Bool :=
  match f, x with
  | .bitLength, .int _ => true
  | .bitLength, _ => false
  | .split, .str _ => true
  | .split, _ => false
  | .join, .str _ => true
  | .join, _ => false
  | _, .ref n => match m[n]? with | some (.lst _) => true | _ => false
  | _, _ => false
/-- o[i] = v -/
def putD (o i v : D) (m : Mem) : Option Mem :=
  match o, i with
  | .ref n, .int k => match m[n]? with
    | some (.lst xs) => match ixN xs.length k with
      | some j => some (m.set n (.lst (xs.set j v)))
      | Option.none => Option.none
    | _ => Option.none
  | _, _ => Option.none
end
end PC

namespace PC
open PySem L2 Classical

mutual
def below (n : Nat) : D → Bool
  | .none => true
  | .bool _ => true
  | .int _ => true
  | .str _ => true
  | .tup xs => belows n xs
  | .kl xs => belows n xs
  | .ref k => decide (k < n)
def belows (n : Nat) : List D → Bool
  | [] => true
  | d :: ds => below n d && belows n ds
end
def MO.below (n : Nat) : MO → Bool
  | .lst xs => belows n xs
  | .dk kvs => belows n (kvs.map (·.2))
  | .dt kvs => belows n (kvs.map (·.2))
/-- what stood ahead stands (or speaks of what stood ahead alone) -/
def oldOk (m0 m : Mem) : Prop := m0.length ≤ m.length ∧ ∀ i, i < m0.length → m[i]? = m0[i]? ∨ ∃ o, m[i]? = some o ∧ o.below m0.length = true
/-- forget what is not reached any more -/
noncomputable def gcD (m0 : Mem) (d : D) (m : Mem) : Res D :=
  if oldOk m0 m then
    if below m0.length d = true then .ok d (m.take m0.length)
    else match d with
      | .ref j => match m[j]? with
        | some o => if o.below m0.length = true then .ok (.ref m0.length) (m.take m0.length ++ [o]) else .ok d m
        | Option.none => .ok d m
      | d => .ok d m
  else .ok d m
def guardOk (gs : List (Nat × List D)) (m : Mem) : Prop := ∀ p ∈ gs, m[p.1]? = some (.lst p.2)
def wipeL (σ : Loc) : List Nat → Loc
  | [] => σ
  | v :: vs => (wipeL σ vs).set v none
noncomputable def forD (gs : List (Nat × List D)) (body : D → Loc → Mem → SR) : List D → Loc → Mem → SR
  | [], σ, m => if guardOk gs m then .nx σ m else .bad
  | x :: xs, σ, m => if guardOk gs m then
      match body x σ m with
      | .nx σ' m' => forD gs body xs σ' m'
      | .ct σ' m' => forD gs body xs σ' m'
      | .bk σ' m' => .nx σ' m'
      | .rt d m' => .rt d m'
      | .ex e σ' m' => .ex e σ' m'
      | .bad => .bad
    else .bad
noncomputable def compD (gs : List (Nat × List D)) (n : Nat) (body : D → Mem → Res (Option D)) : List D → Mem → Res D
  | [], m => if guardOk gs m then .ok (.ref n) m else .bad
  | x :: xs, m => if guardOk gs m then
      (body x m).bind fun o m1 => match o with
        | none => compD gs n body xs m1
        | some y => match m1[n]? with
          | some (.lst acc) => if Lo (acc.length < sizeLine) then compD gs n body xs (m1.set n (.lst (acc ++ [y]))) else .bad
          | _ => .bad
    else .bad
def whileN (c : Loc → Mem → Res Bool) (b : Loc → Mem → SR) : Nat → Loc → Mem → SR
  | 0, _, _ => .bad
  | k + 1, σ, m => (c σ m).to σ fun t m1 =>
      match t with
      | false => .nx σ m1
      | true => match b σ m1 with
        | .nx σ' m' => whileN c b k σ' m'
        | .ct σ' m' => whileN c b k σ' m'
        | .bk σ' m' => .nx σ' m'
        | .rt d m' => .rt d m'
        | .ex e σ' m' => .ex e σ' m'
        | .bad => .bad
noncomputable def whileD (c : Loc → Mem → Res Bool) (b : Loc → Mem → SR) (σ : Loc) (m : Mem) : SR :=
  if h : ∃ k, whileN c b k σ m ≠ .bad then whileN c b (choose h) σ m else .bad
mutual
def tgtHas : CT → Nat → Bool
  | .name i, j => i == j
  | .tup ts, j => tgtsHas ts j
  | .sub _ _, _ => false
def tgtsHas : CTs → Nat → Bool
  | .nil, _ => false
  | .cons t ts, j => tgtHas t j || tgtsHas ts j
end
mutual
def tgtIn (vs : List Nat) : CT → Bool
  | .name i => vs.contains i
  | .tup ts => tgtsIn vs ts
  | .sub _ _ => false
def tgtsIn (vs : List Nat) : CTs → Bool
  | .nil => true
  | .cons t ts => tgtIn vs t && tgtsIn vs ts
end
/-- what is walked: the things, and the lists that must not change meanwhile -/
def iterD (m : Mem) : D → Option (List D × List (Nat × List D))
  | .tup xs => some (xs, [])
  | .kl xs => some (xs, [])
  | .str s => some (s.cps.toList.map fun c => .str ⟨#[c]⟩, [])
  | .ref n => match m[n]? with
    | some (.lst xs) => some (xs, [(n, xs)])
    | _ => none
  | _ => none
/-- .. a list or a tuple -/
def iterS (m : Mem) : D → Option (List D × List (Nat × List D))
  | .tup xs => some (xs, [])
  | .kl xs => some (xs, [])
  | .ref n => match m[n]? with
    | some (.lst xs) => some (xs, [(n, xs)])
    | _ => none
  | _ => none
abbrev Itr := List D × List (Nat × List D)
def rngD (lo hi : Int) : List D := (List.range (hi - lo).toNat).map fun i => .int (lo + (i : Nat))
def rngOk (i : Int) : Prop := -(2 ^ 62) ≤ i ∧ i < 2 ^ 62
noncomputable instance (i : Int) : Decidable (rngOk i) := Classical.propDecidable _
def enumD (xs : List D) : List D := xs.zipIdx.map fun p => .tup [.int (p.2 : Nat), p.1]
def zipD (xs ys : List D) : List D := (xs.zip ys).map fun p => .tup [p.1, p.2]

noncomputable def truR (x : D) (m : Mem) : Res Bool := match truD m x with | some t => .ok t m | none => .bad
abbrev Fn := Str → List D → Mem → Res D
section
variable (Γ : Fn) (G : Str → Option D)
mutual
noncomputable def dE : CE → Loc → Mem → Res D
  | .var i, σ, m => match σ[i]? with | some (some d) => .ok d m | _ => .bad
  | .lit d, _, m => .ok d m
  | .glob x, _, m => match G x with | some d => .ok d m | none => .bad
  | .bin o a b, σ, m => (dE a σ m).bind fun x m1 => (dE b σ m1).bind fun y m2 => opB o x y m2
  | .neg a, σ, m => (dE a σ m).bind fun x m1 => match x with | .int i => .ok (.int (-i)) m1 | _ => .bad
  | .inv a, σ, m => (dE a σ m).bind fun x m1 => match x with | .int i => .ok (.int (Builtin.bitNot i)) m1 | _ => .bad
  | .cmp o a b, σ, m => (dE a σ m).bind fun x m1 => (dE b σ m1).bind fun y m2 => opC o x y m2
  | .chain o o' a b c, σ, m => (dE a σ m).bind fun x m1 => (dE b σ m1).bind fun y m2 => (opC o x y m2).bind fun z m3 =>
      match z with
      | .bool true => (dE c σ m3).bind fun w m4 => opC o' y w m4
      | .bool false => .ok (.bool false) m3
      | _ => .bad
  | .and a b, σ, m => (dE a σ m).bind fun x m1 => match truD m1 x with
      | some true => dE b σ m1
      | some false => .ok x m1
      | none => .bad
  | .or a b, σ, m => (dE a σ m).bind fun x m1 => match truD m1 x with
      | some true => .ok x m1
      | some false => dE b σ m1
      | none => .bad
  | .not a, σ, m => (dE a σ m).bind fun x m1 => ofNB (truD m1 x) m1
  | .ife t a b, σ, m => (dB t σ m).bind fun c m1 => if c = true then dE a σ m1 else dE b σ m1
  | .tup es, σ, m => (dEs es σ m).bind fun xs m1 => .ok (.tup xs) m1
  | .lst es, σ, m => (dEs es σ m).bind fun xs m1 => newL xs m1
  | .idx a i, σ, m => (dE a σ m).bind fun x m1 => (dE i σ m1).bind fun y m2 => idxD x y m2
  | .slc a lo hi, σ, m => (dE a σ m).bind fun x m1 => (dO lo σ m1).bind fun l m2 => (dO hi σ m2).bind fun h m3 => slcD x l h m3
  | .call f es, σ, m => (dEs es σ m).bind fun xs m1 => Γ f xs m1
  | .bi f es, σ, m => (dEs es σ m).bind fun xs m1 => biD f xs m1
  | .isin e T, σ, m => (dE e σ m).bind fun x m1 => ofB (isinD m1 T x) m1
  | .meth f o es, σ, m => (dE o σ m).bind fun x m1 => if mtPre f x m1 = true then (dEs es σ m1).bind fun xs m2 => mtD f x xs m2 else .bad
  | .comp vs t it c e, σ, m => (dI it σ m).bind fun p m1 =>
      compD p.2 m1.length (fun x m2 => (dT t x (wipeL σ vs) m2).bind fun σ2 m3 => (dBO c σ2 m3).bind fun b m4 =>
        if b = true then (dE e σ2 m4).bind fun y m5 => .ok (some y) m5 else .ok none m4) p.1 (m1 ++ [.lst []])
  | .gc e, σ, m => (dE e σ m).bind fun d m1 => gcD m d m1
  | .lrng1 a, σ, m => (dE a σ m).bind fun x m1 => match x with | .int j => if Lo (0 ≤ j ∧ j ≤ 16777216) then newL (rngD 0 j) m1 else .bad | _ => .bad
  | .lrng2 a b, σ, m => (dE a σ m).bind fun x m1 => (dE b σ m1).bind fun y m2 => match x, y with
      | .int i, .int j => if Lo (0 ≤ i ∧ i ≤ 16777216 ∧ 0 ≤ j ∧ j ≤ 16777216) then newL (rngD i j) m2 else .bad
      | _, _ => .bad
noncomputable def dEs : CEs → Loc → Mem → Res (List D)
  | .nil, _, m => .ok [] m
  | .cons e es, σ, m => (dE e σ m).bind fun x m1 => (dEs es σ m1).bind fun xs m2 => .ok (x :: xs) m2
noncomputable def dO : CO → Loc → Mem → Res (Option Int)
  | .none, _, m => .ok none m
  | .some e, σ, m => (dE e σ m).bind fun x m1 => match x with | .int i => .ok (some i) m1 | _ => .bad
noncomputable def dB : CB → Loc → Mem → Res Bool
  | .and a b, σ, m => (dB a σ m).bind fun t m1 => if t = true then dB b σ m1 else .ok false m1
  | .or a b, σ, m => (dB a σ m).bind fun t m1 => if t = true then .ok true m1 else dB b σ m1
  | .not a, σ, m => (dB a σ m).bind fun t m1 => .ok (!t) m1
  | .val e, σ, m => (dE e σ m).bind truR
noncomputable def dBO : CBO → Loc → Mem → Res Bool
  | .none, _, m => .ok true m
  | .some t, σ, m => dB t σ m
noncomputable def dI : CI → Loc → Mem → Res Itr
  | .plain e, σ, m => (dE e σ m).bind fun x m1 => match iterD m1 x with | some p => .ok p m1 | none => .bad
  | .rng1 a, σ, m => (dE a σ m).bind fun x m1 => match x with | .int j => if rngOk j then .ok (rngD 0 j, []) m1 else .bad | _ => .bad
  | .rng2 a b, σ, m => (dE a σ m).bind fun x m1 => (dE b σ m1).bind fun y m2 => match x, y with
      | .int i, .int j => if rngOk i ∧ rngOk j then .ok (rngD i j, []) m2 else .bad
      | _, _ => .bad
  | .zip a b, σ, m => (dE a σ m).bind fun x m1 => (dE b σ m1).bind fun y m2 => match iterS m2 x, iterS m2 y with
      | some p, some q => .ok (zipD p.1 q.1, p.2 ++ q.2) m2
      | _, _ => .bad
  | .enum a, σ, m => (dE a σ m).bind fun x m1 => match iterS m1 x with | some p => .ok (enumD p.1, p.2) m1 | none => .bad
  | .rev a, σ, m => (dE a σ m).bind fun x m1 => match iterS m1 x with | some p => .ok (p.1.reverse, p.2) m1 | none => .bad
noncomputable def dT : CT → D → Loc → Mem → Res Loc
  | .name i, d, σ, m => .ok (σ.set i (some d)) m
  | .tup ts, d, σ, m => match seqOf m d with
      | some xs => dTs ts xs σ m
      | none => .bad
  | .sub o i, d, σ, m => (dE o σ m).bind fun x m1 => (dE i σ m1).bind fun y m2 => match putD x y d m2 with
      | some m3 => .ok σ m3
      | none => .bad
noncomputable def dTs : CTs → List D → Loc → Mem → Res Loc
  | .nil, [], σ, m => .ok σ m
  | .cons t ts, d :: ds, σ, m => (dT t d σ m).bind fun σ1 m1 => dTs ts ds σ1 m1
  | _, _, _, _ => .bad
end
mutual
noncomputable def dS : CS → Loc → Mem → SR
  | .asg t e, σ, m => (dE Γ G e σ m).to σ fun x m1 => (dT Γ G t x σ m1).to σ fun σ1 m2 => .nx σ1 m2
  | .aug i o e, σ, m => match σ[i]? with
      | some (some x) => (dE Γ G e σ m).to σ fun y m1 => (opA o x y m1).to σ fun z m2 => .nx (σ.set i (some z)) m2
      | _ => .bad
  | .augS o i p e, σ, m => (dE Γ G o σ m).to σ fun x m1 => (dE Γ G i σ m1).to σ fun y m2 => (getD x y m2).to σ fun z m3 =>
      (dE Γ G e σ m3).to σ fun w m4 => (opA p z w m4).to σ fun u m5 => match putD x y u m5 with
        | some m6 => .nx σ m6
        | none => .bad
  | .par3 i j l a b c, σ, m => (dE Γ G a σ m).to σ fun x m1 => (dE Γ G b σ m1).to σ fun y m2 => (dE Γ G c σ m2).to σ fun z m3 => .nx (((σ.set i (some x)).set j (some y)).set l (some z)) m3
  | .expr e, σ, m => (dE Γ G e σ m).to σ fun _ m1 => .nx σ m1
  | .ret e, σ, m => (dE Γ G e σ m).to σ fun d m1 => .rt d m1
  | .retN, _, m => .rt .none m
  | .pass, σ, m => .nx σ m
  | .brk, σ, m => .bk σ m
  | .cont, σ, m => .ct σ m
  | .ite t a b, σ, m => (dB Γ G t σ m).to σ fun c m1 => if c = true then dSs a σ m1 else dSs b σ m1
  | .whl t b, σ, m => whileD (fun σ m => dB Γ G t σ m) (fun σ m => dSs b σ m) σ m
  | .fr t it b, σ, m => (dI Γ G it σ m).to σ fun p m1 =>
      forD p.2 (fun x σ m => (dT Γ G t x σ m).to σ fun σ1 m2 => dSs b σ1 m2) p.1 σ m1
noncomputable def dSs : CSs → Loc → Mem → SR
  | .nil, σ, m => .nx σ m
  | .cons s ss, σ, m => (dS s σ m).seq fun σ1 m1 => dSs ss σ1 m1
end
end
structure Def where
  np : Nat
  nl : Nat
  body : CSs
noncomputable def fin (m0 : Mem) : SR → Res D
  | .nx _ m => gcD m0 .none m
  | .rt d m => gcD m0 d m
  | .ex e _ m => .ex e m
  | _ => .bad
noncomputable def runF (P : Str → Option Def) (G : Str → Option D) : Nat → Fn
  | 0, _, _, _ => .bad
  | k + 1, f, ds, m => match P f with
    | none => .bad
    | some d => if ds.length = d.np then fin m (dSs (runF P G k) G d.body (ds.map some ++ List.replicate (d.nl - d.np) none) m) else .bad
end PC

namespace PC
open PySem L2 Classical

/-- a list that is never written -/
def FzL (K : PySem.W.Frag) (H : Hp) (a : Addr) (xs : List V) : Prop :=
  (∃ o, H a = some (.frz o (.lst xs))) ∨
    ∃ (o : Obj) (its : Array Value) (n : Nat), K.lookup a = some o ∧ o.cls = .type "list" ∧ o.dict = none ∧ o.data = .seq its n ∧ its.size ≤ sizeLine ∧ Vals xs its.toList
theorem FzL.sq {K : PySem.W.Frag} {H : Hp} {a : Addr} {xs : List V} : FzL K H a xs → SqL K H a xs
  | .inl h => .inl (.inr h)
  | .inr h => .inr h
section
variable (K : PySem.W.Frag)
mutual
/-- v stands for d -/
def RV (ρ : List Addr) (H : Hp) : D → V → Prop
  | .none, v => v = .non
  | .bool b, v => v = .bl b
  | .int i, v => v = .int i
  | .str s, v => v = .str s
  | .tup ds, v => ∃ a vs, v = .ref a ∧ SqT K H a vs ∧ RVs ρ H ds vs
  | .ref n, v => ∃ a, ρ[n]? = some a ∧ v = .ref a
  | .kl ds, v => ∃ a vs, v = .ref a ∧ FzL K H a vs ∧ RVs ρ H ds vs
def RVs (ρ : List Addr) (H : Hp) : List D → List V → Prop
  | [], vs => vs = []
  | d :: ds, vs => ∃ v ws, vs = v :: ws ∧ RV ρ H d v ∧ RVs ρ H ds ws
end
def RKV {κ : Type} (ρ : List Addr) (H : Hp) : List (κ × D) → List (κ × V) → Prop
  | [], ws => ws = []
  | p :: ps, ws => ∃ v r, ws = (p.1, v) :: r ∧ RV K ρ H p.2 v ∧ RKV ρ H ps r
def RO (ρ : List Addr) (H : Hp) (a : Addr) : MO → Prop
  | .lst xs => ∃ vs, H a = some (.lst vs) ∧ RVs K ρ H xs vs
  | .dk kvs => ∃ ws, H a = some (.dK ws) ∧ RKV K ρ H kvs ws
  | .dt kvs => ∃ ws, H a = some (.dT ws) ∧ RKV K ρ H kvs ws
structure Rel (ρ : List Addr) (m : Mem) (H : Hp) : Prop where
  len : ρ.length = m.length
  nd : ρ.Nodup
  ob : ∀ (i : Nat) (o : MO), m[i]? = some o → ∃ a, ρ[i]? = some a ∧ RO K ρ H a o
/-- the tuples stay, and what is never written -/
structure Ext (H H' : Hp) : Prop where
  t : ∀ a xs, H a = some (.tup xs) → H' a = some (.tup xs)
  f : ∀ a o u, H a = some (.frz o u) → H' a = some (.frz o u)
def RL (ρ : List Addr) (H : Hp) (σ : Loc) (σV : L2.St) : Prop :=
  σV.length = σ.length ∧ ∀ (i : Nat) d, σ[i]? = some (some d) → ∃ v, σV[i]? = some (some v) ∧ RV K ρ H d v
end
theorem Ext.refl (H : Hp) : Ext H H := ⟨fun _ _ e => e, fun _ _ _ e => e⟩
theorem Ext.trans {H H1 H2 : Hp} (a : Ext H H1) (b : Ext H1 H2) : Ext H H2 := ⟨fun p xs e => b.t p xs (a.t p xs e), fun p o u e => b.f p o u (a.f p o u e)⟩
theorem Ext.new {H : Hp} {p : Addr} {o : HO} (h : H p = none) : Ext H (upd H p o) :=
  ⟨fun a xs e => by rw [upd_ne (ne_of_none e h)]; exact e, fun a u w e => by rw [upd_ne (ne_of_none e h)]; exact e⟩
theorem Ext.mut {H : Hp} {p : Addr} {o u : HO} (h : H p = some u) (ht : ∀ xs, u ≠ .tup xs) (hf : ∀ ob w, u ≠ .frz ob w) : Ext H (upd H p o) :=
  ⟨fun a xs e => by rw [upd_ne (fun z => ht xs (by rw [z, h] at e; exact Option.some.inj e))]; exact e,
   fun a ob w e => by rw [upd_ne (fun z => hf ob w (by rw [z, h] at e; exact Option.some.inj e))]; exact e⟩
section
variable {K : PySem.W.Frag} {ρ ρ' : List Addr} {H H' : Hp} {m m' : Mem}
theorem Ext.fzl {a : Addr} {xs : List V} (e : Ext H H') (h : FzL K H a xs) : FzL K H' a xs := by
  rcases h with ⟨o, h⟩ | h
  · exact .inl ⟨o, e.f _ _ _ h⟩
  · exact .inr h
theorem Ext.sqt {a : Addr} {xs : List V} (e : Ext H H') (h : SqT K H a xs) : SqT K H' a xs := by
  rcases h with h | h
  · rcases h with h | ⟨o, h⟩
    · exact .inl (.inl (e.t _ _ h))
    · exact .inl (.inr ⟨o, e.f _ _ _ h⟩)
  · exact .inr h
theorem pre_get {α : Type} {l l' : List α} (p : l <+: l') {n : Nat} {a : α} (h : l[n]? = some a) : l'[n]? = some a := by
  obtain ⟨t, rfl⟩ := p
  have := (List.getElem?_eq_some_iff.mp h).1
  rw [List.getElem?_append_left this]; exact h
mutual
theorem RV.mono (p : ρ <+: ρ') (e : Ext H H') : ∀ (d : D) (v : V), RV K ρ H d v → RV K ρ' H' d v
  | .none, _, h => by simpa only [RV] using h
  | .bool _, _, h => by simpa only [RV] using h
  | .int _, _, h => by simpa only [RV] using h
  | .str _, _, h => by simpa only [RV] using h
  | .tup ds, v, h => by
    simp only [RV] at h ⊢
    obtain ⟨a, vs, h1, h2, h3⟩ := h
    exact ⟨a, vs, h1, e.sqt h2, RVs.mono p e ds vs h3⟩
  | .kl ds, v, h => by
    simp only [RV] at h ⊢
    obtain ⟨a, vs, h1, h2, h3⟩ := h
    exact ⟨a, vs, h1, e.fzl h2, RVs.mono p e ds vs h3⟩
  | .ref n, v, h => by
    simp only [RV] at h ⊢
    obtain ⟨a, h1, h2⟩ := h
    exact ⟨a, pre_get p h1, h2⟩
theorem RVs.mono (p : ρ <+: ρ') (e : Ext H H') : ∀ (ds : List D) (vs : List V), RVs K ρ H ds vs → RVs K ρ' H' ds vs
  | [], _, h => by simpa only [RVs] using h
  | d :: ds, vs, h => by
    simp only [RVs] at h ⊢
    obtain ⟨v, ws, h1, h2, h3⟩ := h
    exact ⟨v, ws, h1, RV.mono p e d v h2, RVs.mono p e ds ws h3⟩
end
theorem RKV.mono {κ : Type} (p : ρ <+: ρ') (e : Ext H H') : ∀ (ds : List (κ × D)) (vs : List (κ × V)), RKV K ρ H ds vs → RKV K ρ' H' ds vs
  | [], _, h => h
  | d :: ds, vs, h => by
    obtain ⟨v, ws, h1, h2, h3⟩ := h
    exact ⟨v, ws, h1, RV.mono p e _ v h2, RKV.mono p e ds ws h3⟩
theorem RL.mono {σ : Loc} {σV : L2.St} (p : ρ <+: ρ') (e : Ext H H') (h : RL K ρ H σ σV) : RL K ρ' H' σ σV :=
  ⟨h.1, fun i d q => let ⟨v, h1, h2⟩ := h.2 i d q; ⟨v, h1, RV.mono p e d v h2⟩⟩
theorem RVs.len : ∀ {ds : List D} {vs : List V}, RVs K ρ H ds vs → vs.length = ds.length
  | [], _, h => by simp only [RVs] at h; subst h; rfl
  | d :: ds, vs, h => by
    simp only [RVs] at h
    obtain ⟨v, ws, rfl, _, h3⟩ := h
    simp [RVs.len h3]
theorem RVs.get : ∀ {ds : List D} {vs : List V} {i : Nat} {d : D}, RVs K ρ H ds vs → ds[i]? = some d → ∃ v, vs[i]? = some v ∧ RV K ρ H d v
  | [], _, _, _, _, q => by simp at q
  | d :: ds, vs, i, d', h, q => by
    simp only [RVs] at h
    obtain ⟨v, ws, rfl, h2, h3⟩ := h
    cases i with
    | zero => simp at q; subst q; exact ⟨v, rfl, h2⟩
    | succ i => simpa using RVs.get h3 (by simpa using q)
theorem RVs.of_get : ∀ {ds : List D} {vs : List V}, vs.length = ds.length → (∀ (i : Nat) d v, ds[i]? = some d → vs[i]? = some v → RV K ρ H d v) → RVs K ρ H ds vs
  | [], vs, hl, _ => by simp only [RVs]; exact List.eq_nil_of_length_eq_zero hl
  | d :: ds, [], hl, _ => by simp at hl
  | d :: ds, v :: vs, hl, h => by
    simp only [RVs]
    exact ⟨v, vs, rfl, h 0 d v rfl rfl, RVs.of_get (by simpa using hl) fun i d' v' e1 e2 => h (i + 1) d' v' (by simpa using e1) (by simpa using e2)⟩
theorem RVs.app : ∀ {ds es : List D} {vs ws : List V}, RVs K ρ H ds vs → RVs K ρ H es ws → RVs K ρ H (ds ++ es) (vs ++ ws)
  | [], _, _, _, h, h' => by simp only [RVs] at h; subst h; exact h'
  | d :: ds, es, vs, ws, h, h' => by
    simp only [RVs] at h
    obtain ⟨v, us, rfl, h2, h3⟩ := h
    simp only [List.cons_append, RVs]
    exact ⟨v, us ++ ws, rfl, h2, RVs.app h3 h'⟩
theorem RVs.set {ds : List D} {vs : List V} {j : Nat} {d : D} {v : V} (h : RVs K ρ H ds vs) (r : RV K ρ H d v) : RVs K ρ H (ds.set j d) (vs.set j v) := by
  refine RVs.of_get (by simp [h.len]) fun i d' v' e1 e2 => ?_
  by_cases e : j = i
  · subst e
    rw [List.getElem?_set_self'] at e1 e2
    cases q1 : ds[j]? with
    | none => rw [q1] at e1; simp at e1
    | some z =>
      obtain ⟨w, hw, _⟩ := h.get q1
      rw [q1] at e1; rw [hw] at e2
      simp at e1 e2
      subst e1; subst e2; exact r
  · rw [List.getElem?_set_ne e] at e1 e2
    obtain ⟨w, hw, r'⟩ := h.get e1
    rw [hw] at e2; cases e2; exact r'
theorem RVs.take (n : Nat) {ds : List D} {vs : List V} (h : RVs K ρ H ds vs) : RVs K ρ H (ds.take n) (vs.take n) :=
  RVs.of_get (by simp [h.len]) fun i d v e1 e2 => by
    rw [List.getElem?_take] at e1 e2
    split at e1
    · rename_i hlt
      rw [if_pos hlt] at e2
      obtain ⟨w, hw, r⟩ := h.get e1
      rw [hw] at e2; cases e2; exact r
    · cases e1
theorem RVs.drop (n : Nat) {ds : List D} {vs : List V} (h : RVs K ρ H ds vs) : RVs K ρ H (ds.drop n) (vs.drop n) :=
  RVs.of_get (by simp [h.len]) fun i d v e1 e2 => by
    rw [List.getElem?_drop] at e1 e2
    obtain ⟨w, hw, r⟩ := h.get e1
    rw [hw] at e2; cases e2; exact r
theorem RVs.dropLast {ds : List D} {vs : List V} (h : RVs K ρ H ds vs) : RVs K ρ H ds.dropLast vs.dropLast := by
  rw [List.dropLast_eq_take, List.dropLast_eq_take, h.len]; exact h.take _
theorem RVs.erase (n : Nat) {ds : List D} {vs : List V} (h : RVs K ρ H ds vs) : RVs K ρ H (ds.eraseIdx n) (vs.eraseIdx n) := by
  rw [List.eraseIdx_eq_take_drop_succ, List.eraseIdx_eq_take_drop_succ]
  exact (h.take n).app (h.drop (n + 1))
theorem RVs.rep {ds : List D} {vs : List V} (h : RVs K ρ H ds vs) : ∀ n : Nat, RVs K ρ H (List.replicate n ds).flatten (List.replicate n vs).flatten
  | 0 => by simp [RVs]
  | n + 1 => by simp only [List.replicate_succ, List.flatten_cons]; exact h.app (RVs.rep h n)
theorem RVs.rev {ds : List D} {vs : List V} (h : RVs K ρ H ds vs) : RVs K ρ H ds.reverse vs.reverse :=
  RVs.of_get (by simp [h.len]) fun i d v e1 e2 => by
    have hi : i < ds.length := by simpa using (List.getElem?_eq_some_iff.mp e1).1
    rw [List.getElem?_reverse hi] at e1
    rw [List.getElem?_reverse (by rw [h.len]; exact hi), h.len] at e2
    obtain ⟨w, hw, r⟩ := h.get e1
    rw [hw] at e2; cases e2; exact r
theorem RVs.one {d : D} {v : V} (h : RV K ρ H d v) : RVs K ρ H [d] [v] := by simp only [RVs]; exact ⟨v, [], rfl, h, rfl⟩
theorem RVs.one_inv {d : D} {vs : List V} (h : RVs K ρ H [d] vs) : ∃ v, vs = [v] ∧ RV K ρ H d v := by
  simp only [RVs] at h; obtain ⟨v, ws, rfl, h2, rfl⟩ := h; exact ⟨v, rfl, h2⟩
theorem RVs.two_inv {d e : D} {vs : List V} (h : RVs K ρ H [d, e] vs) : ∃ v w, vs = [v, w] ∧ RV K ρ H d v ∧ RV K ρ H e w := by
  simp only [RVs] at h; obtain ⟨v, ws, rfl, h2, w, us, rfl, h3, rfl⟩ := h; exact ⟨v, w, rfl, h2, h3⟩
theorem RVs.nil_inv {vs : List V} (h : RVs K ρ H [] vs) : vs = [] := by simpa only [RVs] using h
theorem RVs.ints : ∀ {ds : List D} {vs : List V} {ns : List Int}, RVs K ρ H ds vs → intsD ds = some ns → vs = ns.map V.int
  | [], _, _, h, q => by simp only [RVs] at h; simp only [intsD, Option.some.injEq] at q; subst q; exact h
  | d :: ds, vs, ns, h, q => by
    simp only [RVs] at h
    obtain ⟨v, ws, rfl, h2, h3⟩ := h
    cases d with
    | int i =>
      simp only [intsD] at q
      cases e : intsD ds with
      | none => rw [e] at q; simp at q
      | some r =>
        rw [e] at q; simp at q; subst q
        simp only [RV] at h2
        rw [h2, RVs.ints h3 e]; rfl
    | _ => simp [intsD] at q
theorem RVs.bools : ∀ {ds : List D} {vs : List V} {ns : List Bool}, RVs K ρ H ds vs → boolsD ds = some ns → vs = ns.map V.bl
  | [], _, _, h, q => by simp only [RVs] at h; simp only [boolsD, Option.some.injEq] at q; subst q; exact h
  | d :: ds, vs, ns, h, q => by
    simp only [RVs] at h
    obtain ⟨v, ws, rfl, h2, h3⟩ := h
    cases d with
    | bool i =>
      simp only [boolsD] at q
      cases e : boolsD ds with
      | none => rw [e] at q; simp at q
      | some r =>
        rw [e] at q; simp at q; subst q
        simp only [RV] at h2
        rw [h2, RVs.bools h3 e]; rfl
    | _ => simp [boolsD] at q

/-! ### the memory -/
theorem Rel.lst {n : Nat} {xs : List D} {a : Addr} (R : Rel K ρ m H) (h : m[n]? = some (.lst xs)) (ha : ρ[n]? = some a) : ∃ vs, H a = some (.lst vs) ∧ RVs K ρ H xs vs := by
  obtain ⟨b, hb, o⟩ := R.ob n _ h
  rw [ha] at hb; cases hb; exact o
theorem Rel.inj {i j : Nat} {a : Addr} (R : Rel K ρ m H) (h1 : ρ[i]? = some a) (h2 : ρ[j]? = some a) : i = j := by
  obtain ⟨l1, e1⟩ := List.getElem?_eq_some_iff.mp h1
  obtain ⟨l2, e2⟩ := List.getElem?_eq_some_iff.mp h2
  exact (List.getElem_inj R.nd).mp (e1.trans e2.symm)
theorem Rel.there {i : Nat} {a : Addr} (R : Rel K ρ m H) (h1 : ρ[i]? = some a) : ∃ o, m[i]? = some o ∧ RO K ρ H a o := by
  have l := (List.getElem?_eq_some_iff.mp h1).1
  rw [R.len] at l
  obtain ⟨b, hb, o⟩ := R.ob i m[i] (by simp [l])
  rw [h1] at hb; cases hb
  exact ⟨m[i], by simp [l], o⟩
theorem RO.exi {a : Addr} : ∀ {o : MO}, RO K ρ H a o → ∃ u, H a = some u
  | .lst _, ⟨_, h, _⟩ => ⟨_, h⟩
  | .dk _, ⟨_, h, _⟩ => ⟨_, h⟩
  | .dt _, ⟨_, h, _⟩ => ⟨_, h⟩
theorem Rel.fresh {p : Addr} (R : Rel K ρ m H) (h : H p = none) : p ∉ ρ := fun hp => by
  obtain ⟨i, hi⟩ := List.mem_iff_getElem?.mp hp
  obtain ⟨o, _, r⟩ := R.there hi
  obtain ⟨u, e⟩ := r.exi
  rw [h] at e; cases e
theorem RO.mono (p : ρ <+: ρ') (e : Ext H H') {a : Addr} (k : H' a = H a) : ∀ {o : MO}, RO K ρ H a o → RO K ρ' H' a o
  | .lst _, ⟨vs, h, r⟩ => ⟨vs, k ▸ h, r.mono p e⟩
  | .dk _, ⟨vs, h, r⟩ => ⟨vs, k ▸ h, r.mono p e⟩
  | .dt _, ⟨vs, h, r⟩ => ⟨vs, k ▸ h, r.mono p e⟩
/-- a heap that keeps all things of the memory -/
theorem Rel.keep (R : Rel K ρ m H) (e : Ext H H') (k : ∀ a ∈ ρ, H' a = H a) : Rel K ρ m H' :=
  ⟨R.len, R.nd, fun i o h => let ⟨a, ha, r⟩ := R.ob i o h; ⟨a, ha, r.mono (List.prefix_refl _) e (k a (List.mem_iff_getElem?.mpr ⟨i, ha⟩))⟩⟩
/-- a new tuple (or anything that the memory does not hold) -/
theorem Rel.new {p : Addr} {o : HO} (R : Rel K ρ m H) (h : H p = none) : Rel K ρ m (upd H p o) :=
  R.keep (.new h) fun a ha => upd_ne fun e => R.fresh h (e ▸ ha)
theorem Rel.alloc {p : Addr} {o : HO} {x : MO} (R : Rel K ρ m H) (h : H p = none) (r : RO K (ρ ++ [p]) (upd H p o) p x) : Rel K (ρ ++ [p]) (m ++ [x]) (upd H p o) := by
  refine ⟨by simp [R.len], ?_, fun i y e => ?_⟩
  · rw [List.nodup_append]
    exact ⟨R.nd, by simp, fun a ha b hb e => R.fresh h (by simp at hb; subst hb; subst e; exact ha)⟩
  · by_cases hi : i < m.length
    · rw [List.getElem?_append_left hi] at e
      obtain ⟨a, ha, q⟩ := R.ob i y e
      exact ⟨a, pre_get (List.prefix_append _ _) ha, q.mono (List.prefix_append _ _) (.new h) (upd_ne fun z => R.fresh h (z ▸ List.mem_iff_getElem?.mpr ⟨i, ha⟩))⟩
    · have hl := (List.getElem?_eq_some_iff.mp e).1
      have : i = m.length := by simp at hl; omega
      subst this
      simp at e; subst e
      exact ⟨p, by rw [← R.len]; simp, r⟩
theorem Rel.allocL {p : Addr} {xs : List D} {vs : List V} (R : Rel K ρ m H) (h : H p = none) (r : RVs K ρ H xs vs) :
    Rel K (ρ ++ [p]) (m ++ [.lst xs]) (upd H p (.lst vs)) := R.alloc h ⟨vs, upd_same, r.mono (List.prefix_append _ _) (.new h)⟩
theorem RV.last {p : Addr} (R : Rel K ρ m H) : RV K (ρ ++ [p]) H' (.ref m.length) (.ref p) := by
  simp only [RV]; exact ⟨p, by rw [← R.len]; simp, rfl⟩
/-- a thing is written -/
theorem Rel.write {n : Nat} {a : Addr} {x : MO} {o u : HO} (R : Rel K ρ m H) (ha : ρ[n]? = some a) (hu : H a = some u) (ht : ∀ xs, u ≠ .tup xs) (hf : ∀ ob w, u ≠ .frz ob w)
    (r : RO K ρ (upd H a o) a x) : Rel K ρ (m.set n x) (upd H a o) := by
  refine ⟨by simp [R.len], R.nd, fun i y e => ?_⟩
  by_cases hi : n = i
  · subst hi
    rw [List.getElem?_set_self'] at e
    cases q : m[n]? with
    | none => rw [q] at e; simp at e
    | some z => rw [q] at e; simp at e; subst e; exact ⟨a, ha, r⟩
  · rw [List.getElem?_set_ne hi] at e
    obtain ⟨b, hb, q⟩ := R.ob i y e
    have hne : b ≠ a := fun z => hi (R.inj ha (z ▸ hb))
    exact ⟨b, hb, q.mono (List.prefix_refl _) (.mut hu ht hf) (upd_ne hne)⟩
theorem Rel.writeL {n : Nat} {a : Addr} {xs : List D} {vs us : List V} (R : Rel K ρ m H) (ha : ρ[n]? = some a) (hu : H a = some (.lst us)) (r : RVs K ρ H xs vs) :
    Rel K ρ (m.set n (.lst xs)) (upd H a (.lst vs)) ∧ Ext H (upd H a (.lst vs)) := by
  have e : Ext H (upd H a (.lst vs)) := .mut hu (fun _ z => nomatch z) (fun _ _ z => nomatch z)
  exact ⟨R.write ha hu (fun _ z => nomatch z) (fun _ _ z => nomatch z) ⟨vs, upd_same, r.mono (List.prefix_refl _) e⟩, e⟩
/-- a list or a tuple is read -/
theorem RV.seq {d : D} {v : V} {xs : List D} (R : Rel K ρ m H) (r : RV K ρ H d v) (h : seqOf m d = some xs) :
    ∃ a vs, v = .ref a ∧ RVs K ρ H xs vs ∧ ((∃ n, (d = .ref n ∨ d = .kl xs) ∧ SqL K H a vs) ∨ (d = .tup xs ∧ SqT K H a vs)) := by
  cases d with
  | tup ys =>
    simp only [seqOf, Option.some.injEq] at h; subst h
    simp only [RV] at r
    obtain ⟨a, vs, e, s, q⟩ := r
    exact ⟨a, vs, e, q, .inr ⟨rfl, s⟩⟩
  | ref n =>
    simp only [RV] at r
    obtain ⟨a, ha, e⟩ := r
    obtain ⟨o, ho, ro⟩ := R.there ha
    simp only [seqOf, ho] at h
    cases o with
    | lst ys =>
      simp only [Option.some.injEq] at h; subst h
      obtain ⟨vs, h1, h2⟩ := ro
      exact ⟨a, vs, e, h2, .inl ⟨n, .inl rfl, SqL.of h1⟩⟩
    | _ => simp at h
  | kl ys =>
    simp only [seqOf, Option.some.injEq] at h; subst h
    simp only [RV] at r
    obtain ⟨a, vs, e, s, q⟩ := r
    exact ⟨a, vs, e, q, .inl ⟨0, .inr rfl, s.sq⟩⟩
  | _ => simp [seqOf] at h

/-! ### forgetting -/
mutual
theorem below_mono {n : Nat} (hp : ∀ k a, k < n → ρ[k]? = some a → ρ'[k]? = some a) : ∀ (d : D) (v : V), below n d = true → RV K ρ H d v → RV K ρ' H d v
  | .none, _, _, h => by simpa only [RV] using h
  | .bool _, _, _, h => by simpa only [RV] using h
  | .int _, _, _, h => by simpa only [RV] using h
  | .str _, _, _, h => by simpa only [RV] using h
  | .tup ds, v, b, h => by
    simp only [RV] at h ⊢
    obtain ⟨a, vs, h1, h2, h3⟩ := h
    exact ⟨a, vs, h1, h2, belows_mono hp ds vs (by simpa only [below] using b) h3⟩
  | .kl ds, v, b, h => by
    simp only [RV] at h ⊢
    obtain ⟨a, vs, h1, h2, h3⟩ := h
    exact ⟨a, vs, h1, h2, belows_mono hp ds vs (by simpa only [below] using b) h3⟩
  | .ref k, v, b, h => by
    simp only [RV] at h ⊢
    obtain ⟨a, h1, h2⟩ := h
    exact ⟨a, hp k a (by simpa [below] using b) h1, h2⟩
theorem belows_mono {n : Nat} (hp : ∀ k a, k < n → ρ[k]? = some a → ρ'[k]? = some a) : ∀ (ds : List D) (vs : List V), belows n ds = true → RVs K ρ H ds vs → RVs K ρ' H ds vs
  | [], _, _, h => by simpa only [RVs] using h
  | d :: ds, vs, b, h => by
    simp only [RVs] at h ⊢
    obtain ⟨v, ws, h1, h2, h3⟩ := h
    simp only [belows, Bool.and_eq_true] at b
    exact ⟨v, ws, h1, below_mono hp d v b.1 h2, belows_mono hp ds ws b.2 h3⟩
end
theorem belowKV_mono {κ : Type} {n : Nat} (hp : ∀ k a, k < n → ρ[k]? = some a → ρ'[k]? = some a) : ∀ (ds : List (κ × D)) (vs : List (κ × V)), belows n (ds.map (·.2)) = true → RKV K ρ H ds vs → RKV K ρ' H ds vs
  | [], _, _, h => h
  | d :: ds, vs, b, h => by
    obtain ⟨v, ws, h1, h2, h3⟩ := h
    simp only [List.map_cons, belows, Bool.and_eq_true] at b
    exact ⟨v, ws, h1, below_mono hp _ v b.1 h2, belowKV_mono hp ds ws b.2 h3⟩
theorem RO.below_mono_ {n : Nat} {a : Addr} (hp : ∀ k a, k < n → ρ[k]? = some a → ρ'[k]? = some a) : ∀ {o : MO}, o.below n = true → RO K ρ H a o → RO K ρ' H a o
  | .lst _, b, ⟨vs, h, r⟩ => ⟨vs, h, belows_mono hp _ _ b r⟩
  | .dk _, b, ⟨vs, h, r⟩ => ⟨vs, h, belowKV_mono hp _ _ b r⟩
  | .dt _, b, ⟨vs, h, r⟩ => ⟨vs, h, belowKV_mono hp _ _ b r⟩
mutual
theorem RV.lt : ∀ (d : D) (v : V), RV K ρ H d v → below ρ.length d = true
  | .none, _, _ => rfl
  | .bool _, _, _ => rfl
  | .int _, _, _ => rfl
  | .str _, _, _ => rfl
  | .tup ds, v, h => by
    simp only [RV] at h
    obtain ⟨a, vs, h1, h2, h3⟩ := h
    simp only [below]; exact RVs.lt ds vs h3
  | .kl ds, v, h => by
    simp only [RV] at h
    obtain ⟨a, vs, h1, h2, h3⟩ := h
    simp only [below]; exact RVs.lt ds vs h3
  | .ref k, v, h => by
    simp only [RV] at h
    obtain ⟨a, h1, h2⟩ := h
    simp only [below, decide_eq_true_eq]; exact (List.getElem?_eq_some_iff.mp h1).1
theorem RVs.lt : ∀ (ds : List D) (vs : List V), RVs K ρ H ds vs → belows ρ.length ds = true
  | [], _, _ => rfl
  | d :: ds, vs, h => by
    simp only [RVs] at h
    obtain ⟨v, ws, h1, h2, h3⟩ := h
    simp only [belows, Bool.and_eq_true]
    exact ⟨RV.lt d v h2, RVs.lt ds ws h3⟩
end
theorem RKV.lt {κ : Type} : ∀ (ds : List (κ × D)) (vs : List (κ × V)), RKV K ρ H ds vs → belows ρ.length (ds.map (·.2)) = true
  | [], _, _ => rfl
  | d :: ds, vs, h => by
    obtain ⟨v, ws, h1, h2, h3⟩ := h
    simp only [List.map_cons, belows, Bool.and_eq_true]
    exact ⟨RV.lt _ v h2, RKV.lt ds ws h3⟩
theorem RO.lt {a : Addr} : ∀ {o : MO}, RO K ρ H a o → o.below ρ.length = true
  | .lst _, ⟨vs, h, r⟩ => RVs.lt _ _ r
  | .dk _, ⟨vs, h, r⟩ => RKV.lt _ _ r
  | .dt _, ⟨vs, h, r⟩ => RKV.lt _ _ r
/-- what was asked of the state ahead and the state behind: the memory behind, its addresses begin with those ahead -/
theorem gc_ok {m0 : Mem} {ρ0 : List Addr} {H0 : Hp} {d : D} {v : V} (R0 : Rel K ρ0 m0 H0) (R : Rel K ρ m H) (p : ρ0 <+: ρ) (r : RV K ρ H d v) {d' : D} {m' : Mem} (h : gcD m0 d m = .ok d' m') :
    ∃ ρ', Rel K ρ' m' H ∧ ρ0 <+: ρ' ∧ RV K ρ' H d' v := by
  unfold gcD at h
  split at h
  · rename_i ho
    obtain ⟨hl, ho⟩ := ho
    have e0 : ρ.take m0.length = ρ0 := by
      obtain ⟨t, rfl⟩ := p
      rw [← R0.len, List.take_left]
    have old : ∀ i o, i < m0.length → m[i]? = some o → o.below m0.length = true := fun i o hi e => by
      rcases ho i hi with q | ⟨u, q1, q2⟩
      · rw [e] at q
        obtain ⟨a, _, ro⟩ := R0.ob i o q.symm
        rw [← R0.len]; exact ro.lt
      · rw [e] at q1; cases q1; exact q2
    have hp0 : ∀ (k : Nat) a, k < m0.length → ρ[k]? = some a → ρ0[k]? = some a := fun k a hk e => by
      rw [← e0, List.getElem?_take, if_pos hk]; exact e
    have R1 : Rel K ρ0 (m.take m0.length) H := by
      refine ⟨by rw [List.length_take, R0.len]; omega, R0.nd, fun i o e => ?_⟩
      rw [List.getElem?_take] at e
      split at e
      · rename_i hi
        obtain ⟨a, ha, ro⟩ := R.ob i o e
        exact ⟨a, hp0 i a hi ha, RO.below_mono_ hp0 (old i o hi e) ro⟩
      · cases e
    split at h
    · rename_i hb
      cases h
      exact ⟨ρ0, R1, List.prefix_refl _, below_mono hp0 d v hb r⟩
    · rename_i hb
      split at h
      · rename_i j
        split at h
        · rename_i o ej
          split at h
          · rename_i hob
            cases h
            have r' := r
            simp only [RV] at r'
            obtain ⟨a, ha, hv⟩ := r'
            obtain ⟨a', ha', ro⟩ := R.ob j o ej
            rw [ha] at ha'; cases ha'
            have hj : ¬ j < m0.length := by simpa [below] using hb
            have hna : a ∉ ρ0 := fun hm => by
              obtain ⟨i, hi⟩ := List.mem_iff_getElem?.mp hm
              have hil : i < m0.length := by rw [← R0.len]; exact (List.getElem?_eq_some_iff.mp hi).1
              have := R.inj (pre_get p hi) ha
              omega
            have hp1 : ∀ (k : Nat) b, k < m0.length → ρ[k]? = some b → (ρ0 ++ [a])[k]? = some b := fun k b hk e => pre_get (List.prefix_append _ _) (hp0 k b hk e)
            refine ⟨ρ0 ++ [a], ⟨by rw [List.length_append, List.length_append, List.length_take, R0.len]; simp; omega, ?_, fun i o' e => ?_⟩, List.prefix_append _ _, ?_⟩
            · rw [List.nodup_append]
              exact ⟨R0.nd, by simp, fun x hx b hb e => hna (by simp at hb; subst hb; subst e; exact hx)⟩
            · by_cases hi : i < (m.take m0.length).length
              · rw [List.getElem?_append_left hi] at e
                obtain ⟨b, hb', rb⟩ := R1.ob i o' e
                exact ⟨b, pre_get (List.prefix_append _ _) hb', rb.mono (List.prefix_append _ _) (.refl _) rfl⟩
              · have hl2 := (List.getElem?_eq_some_iff.mp e).1
                have : i = (m.take m0.length).length := by simp at hl2 hi ⊢; omega
                subst this
                simp at e; subst e
                refine ⟨a, ?_, RO.below_mono_ hp1 hob ro⟩
                have : (m.take m0.length).length = ρ0.length := by rw [List.length_take, R0.len]; omega
                rw [this]; simp
            · simp only [RV]; exact ⟨a, by rw [← R0.len]; simp, hv⟩
          · cases h; exact ⟨ρ, R, p, r⟩
        · cases h; exact ⟨ρ, R, p, r⟩
      · cases h; exact ⟨ρ, R, p, r⟩
  · cases h; exact ⟨ρ, R, p, r⟩
end
end PC

namespace PC
open PySem L2 Classical

/-- what is wanted of a value, told by its reading -/
def Post {α β : Type} (K : PySem.W.Frag) (RR : List Addr → Hp → α → β → Prop) (ρ : List Addr) (H : Hp) (Q : β → Hp → Prop) : Res α → Prop
  | .ok a m' => ∀ ρ' H' b, Rel K ρ' m' H' → ρ <+: ρ' → Ext H H' → RR ρ' H' a b → Q b H'
  | _ => False
section
variable {K : PySem.W.Frag} {α β γ δ : Type} {RR : List Addr → Hp → α → β → Prop} {RS : List Addr → Hp → γ → δ → Prop} {ρ ρ' : List Addr} {H H' : Hp} {m : Mem}
theorem Post.mono {Q : β → Hp → Prop} (p : ρ <+: ρ') (e : Ext H H') : ∀ {r : Res α}, Post K RR ρ H Q r → Post K RR ρ' H' Q r
  | .ok _ _, h => fun ρ1 H1 b R q x r => h ρ1 H1 b R (p.trans q) (e.trans x) r
  | .bad, h => h
  | .ex _ _, h => h
theorem Post.imp {Q Q' : β → Hp → Prop} (h : ∀ b H', Q b H' → Q' b H') : ∀ {r : Res α}, Post K RR ρ H Q r → Post K RR ρ H Q' r
  | .ok _ _, q => fun ρ1 H1 b R p x r => h _ _ (q ρ1 H1 b R p x r)
  | .bad, q => q
  | .ex _ _, q => q
theorem Post.bind {Q : δ → Hp → Prop} {Q' : β → Hp → Prop} {f : α → Mem → Res γ} {r : Res α} (h : Post K RS ρ H Q (r.bind f))
    (k : ∀ a m1 ρ1 H1 b, Rel K ρ1 m1 H1 → ρ <+: ρ1 → Ext H H1 → RR ρ1 H1 a b → Post K RS ρ1 H1 Q (f a m1) → Q' b H1) : Post K RR ρ H Q' r := by
  cases r with
  | bad => exact h
  | ex e m => exact h
  | ok a m1 => exact fun ρ1 H1 b R p x r => k a m1 ρ1 H1 b R p x r (Post.mono p x (r := f a m1) h)
theorem Post.bind0 {Q : δ → Hp → Prop} {Q' : β → Hp → Prop} {f : α → Mem → Res γ} {r : Res α} (h : Post K RS ρ H Q (r.bind f))
    (k : ∀ a m1 ρ1 H1 b, r = .ok a m1 → Rel K ρ1 m1 H1 → ρ <+: ρ1 → Ext H H1 → RR ρ1 H1 a b → Post K RS ρ H Q (f a m1) → Q' b H1) : Post K RR ρ H Q' r := by
  cases r with
  | bad => exact h
  | ex e m => exact h
  | ok a m1 => exact fun ρ1 H1 b R p x r => k a m1 ρ1 H1 b rfl R p x r h
theorem Post.ok {Q : β → Hp → Prop} {a : α} {b : β} (h : Post K RR ρ H Q (.ok a m)) (R : Rel K ρ m H) (r : RR ρ H a b) : Q b H := h ρ H b R (List.prefix_refl _) (.refl _) r
end

section
variable (F : Cx → Prop)
def bE (e : Expr) : TE := fun σ H Q => ∃ t, (∀ X, F X → PE X e t) ∧ t σ H Q
def bT (e : Expr) : TT := fun σ H Q => ∃ t, (∀ X, F X → PT X e t) ∧ t σ H Q
def bA (es : List Expr) : TA := fun σ H Q => ∃ t, (∀ X, F X → PA X es t) ∧ t σ H Q
def bS (s : Stmt) : TS := fun D σ H => ∃ t, (∀ X, F X → PS X s t) ∧ t D σ H
def bSs (s : List Stmt) : TS := fun D σ H => ∃ t, (∀ X, F X → PSs X s t) ∧ t D σ H
def bG (e : Expr) : TG := fun v σ H Q => ∃ t, (∀ X, F X → PG X e t) ∧ t v σ H Q
def bGs (es : List Expr) : TGs := fun vs σ H Q => ∃ t, (∀ X, F X → PGs X es t) ∧ t vs σ H Q
def bI (tg e : Expr) : TI := fun σ H Q => ∃ t, (∀ X, F X → PI X tg e t) ∧ t σ H Q
def bO (e : Option Expr) : TO := fun σ H Q => ∃ t, (∀ X, F X → PO X e t) ∧ t σ H Q
def bTs (es : List Expr) : TT := fun σ H Q => ∃ t, (∀ X, F X → PTs X es t) ∧ t σ H Q
def bOp (f : Value → Value → Sem Value) : R2 := fun x y H Q => ∃ r, (∀ X, F X → OpR X f r) ∧ r x y H Q
def bIx : R2 := fun x y H Q => ∃ r, (∀ X, F X → IxR X r) ∧ r x y H Q
def bSl : V → Option Int → Option Int → Hp → VK → Prop := fun x lo hi H Q => ∃ r, (∀ X, F X → SlR X r) ∧ r x lo hi H Q
def bCa (f : Value) : List V → Hp → VK → Prop := fun xs H Q => ∃ r, (∀ X, F X → CallR X f r) ∧ r xs H Q
def bMt (id : String) : V → List V → Hp → VK → Prop := fun x xs H Q => ∃ r, (∀ X, F X → MtR X id r) ∧ r x xs H Q
def bPut : TSet := fun o i v H Q => ∃ r, (∀ X, F X → PSet X r) ∧ r o i v H Q
end
section
variable {F : Cx → Prop} {X : Cx}
theorem bE_ok (h : F X) (e : Expr) : PE X e (bE F e) := ⟨fun pins s σ H Q I ⟨_, ht, q⟩ => (ht X h).run pins s σ H Q I q⟩
theorem bT_ok (h : F X) (e : Expr) : PT X e (bT F e) := ⟨fun pins s σ H Q I ⟨_, ht, q⟩ => (ht X h).run pins s σ H Q I q⟩
theorem bA_ok (h : F X) (e : List Expr) : PA X e (bA F e) := ⟨fun pos pins s σ H Q I ⟨_, ht, q⟩ => (ht X h).run pos pins s σ H Q I q⟩
theorem bS_ok (h : F X) (e : Stmt) : PS X e (bS F e) := ⟨fun pins s σ H D I ⟨_, ht, q⟩ => (ht X h).run pins s σ H D I q⟩
theorem bSs_ok (h : F X) (e : List Stmt) : PSs X e (bSs F e) := ⟨fun pins s σ H D I ⟨_, ht, q⟩ => (ht X h).run pins s σ H D I q⟩
theorem bG_ok (h : F X) (e : Expr) : PG X e (bG F e) := ⟨fun pins s σ H v u Q I r ⟨_, ht, q⟩ => (ht X h).run pins s σ H v u Q I r q⟩
theorem bGs_ok (h : F X) (e : List Expr) : PGs X e (bGs F e) := ⟨fun pins s σ H v u Q I r ⟨_, ht, q⟩ => (ht X h).run pins s σ H v u Q I r q⟩
theorem bI_ok (h : F X) (tg e : Expr) : PI X tg e (bI F tg e) := ⟨fun pins s σ H R I ⟨_, ht, q⟩ => (ht X h).run pins s σ H R I q⟩
theorem bO_ok (h : F X) (e : Option Expr) : PO X e (bO F e) := ⟨fun pins s σ H Q I ⟨_, ht, q⟩ => (ht X h).run pins s σ H Q I q⟩
theorem bTs_ok (h : F X) (e : List Expr) : PTs X e (bTs F e) := ⟨fun pins s σ H Q I ⟨_, ht, q⟩ => (ht X h).run pins s σ H Q I q⟩
theorem bOp_ok (h : F X) (f : Value → Value → Sem Value) : OpR X f (bOp F f) := fun pins s σ H x y v u Q I rx ry ⟨_, ht, q⟩ => ht X h pins s σ H x y v u Q I rx ry q
theorem bIx_ok (h : F X) : IxR X (bIx F) := fun a b pins s σ H x y v u Q I rx ry ⟨_, ht, q⟩ => ht X h a b pins s σ H x y v u Q I rx ry q
theorem bSl_ok (h : F X) : SlR X (bSl F) := fun pins s σ H x v vl vu lo hi sl Q I rx hs p1 p2 ⟨_, ht, q⟩ => ht X h pins s σ H x v vl vu lo hi sl Q I rx hs p1 p2 q
theorem bCa_ok (h : F X) (f : Value) : CallR X f (bCa F f) := fun pins s σ H xs us Q I r ⟨_, ht, q⟩ => ht X h pins s σ H xs us Q I r q
theorem bMt_ok (h : F X) (id : String) : MtR X id (bMt F id) := fun pins s σ H x xs v us Q I rx r ⟨_, ht, q⟩ => ht X h pins s σ H x xs v us Q I rx r q
theorem bPut_ok (h : F X) : PSet X (bPut F) := fun pins s σ H o i v ov iv u Q I ro ri rv ⟨_, ht, q⟩ => ht X h pins s σ H o i v ov iv u Q I ro ri rv q
end

/-- what every context of the family has -/
structure Few (K : PySem.W.Frag) (F : Cx → Prop) : Prop where
  eK : ∀ X, F X → X.K = K
  calm : ∀ X, F X → X.calm = true
  un : ∀ X, F X → X.A.units + 200 < cLine

section
variable {K : PySem.W.Frag} {F : Cx → Prop} {ρ : List Addr} {H : Hp} {m : Mem} {x y : D} {v w : V} {Q : VK}
/-! ### data read off -/
def pyFn (K : PySem.W.Frag) (ρ : List Addr) (H : Hp) (f : Nat → Option PyData) : Prop := ∀ n d a, f n = some d → ρ[n]? = some a → Dp K H (.ref a) d ∧ d.plain = true
mutual
theorem pyD_dp {f : Nat → Option PyData} (hf : pyFn K ρ H f) : ∀ (d : D) (v : V) (p : PyData), RV K ρ H d v → pyD f d = some p → Dp K H v p ∧ p.plain = true
  | .none, v, p, r, h => by simp only [RV] at r; simp only [pyD, Option.some.injEq] at h; subst r; subst h; exact ⟨.non, rfl⟩
  | .bool b, v, p, r, h => by simp only [RV] at r; simp only [pyD, Option.some.injEq] at h; subst r; subst h; exact ⟨.bl b, rfl⟩
  | .int b, v, p, r, h => by simp only [RV] at r; simp only [pyD, Option.some.injEq] at h; subst r; subst h; exact ⟨.int b, rfl⟩
  | .str b, v, p, r, h => by simp only [RV] at r; simp only [pyD, Option.some.injEq] at h; subst r; subst h; exact ⟨.str b, rfl⟩
  | .tup xs, v, p, r, h => by
    simp only [RV] at r
    obtain ⟨a, vs, rfl, h2, h3⟩ := r
    simp only [pyD, Option.map_eq_some_iff] at h
    obtain ⟨ps, e1, rfl⟩ := h
    obtain ⟨q1, q2⟩ := pyDs_dp hf xs vs ps h3 e1
    exact ⟨.tup h2 q1, by simpa [PyData.plain] using q2⟩
  | .kl xs, v, p, r, h => by
    simp only [RV] at r
    obtain ⟨a, vs, rfl, h2, h3⟩ := r
    simp only [pyD, Option.map_eq_some_iff] at h
    obtain ⟨ps, e1, rfl⟩ := h
    obtain ⟨q1, q2⟩ := pyDs_dp hf xs vs ps h3 e1
    exact ⟨.lst h2.sq q1, by simpa [PyData.plain] using q2⟩
  | .ref n, v, p, r, h => by
    simp only [RV] at r
    obtain ⟨a, h1, rfl⟩ := r
    exact hf n p a (by simpa only [pyD] using h) h1
theorem pyDs_dp {f : Nat → Option PyData} (hf : pyFn K ρ H f) : ∀ (ds : List D) (vs : List V) (ps : List PyData), RVs K ρ H ds vs → pyDs f ds = some ps → DpAll K H vs ps ∧ PyData.plainAll ps = true
  | [], vs, ps, r, h => by simp only [RVs] at r; simp only [pyDs, Option.some.injEq] at h; subst r; subst h; exact ⟨.nil, rfl⟩
  | d :: ds, vs, ps, r, h => by
    simp only [RVs] at r
    obtain ⟨v, ws, rfl, h2, h3⟩ := r
    simp only [pyDs] at h
    split at h
    · rename_i x xs e1 e2
      cases h
      obtain ⟨q1, q2⟩ := pyD_dp hf d v x h2 e1
      obtain ⟨q3, q4⟩ := pyDs_dp hf ds ws xs h3 e2
      exact ⟨.cons q1 q3, by simp [PyData.plainAll, q2, q4]⟩
    · cases h
end
theorem pyR_fn (R : Rel K ρ m H) : ∀ k, pyFn K ρ H (pyR m k)
  | 0 => fun n d a h _ => by simp [pyR] at h
  | k + 1 => fun n d a h ha => by
    simp only [pyR] at h
    obtain ⟨o, ho, ro⟩ := R.there ha
    rw [ho] at h
    cases o with
    | lst xs =>
      obtain ⟨vs, h1, h2⟩ := ro
      simp only [Option.map_eq_some_iff] at h
      obtain ⟨ps, e1, rfl⟩ := h
      obtain ⟨q1, q2⟩ := pyDs_dp (pyR_fn R k) xs vs ps h2 e1
      exact ⟨.lst (SqL.of h1) q1, by simpa [PyData.plain] using q2⟩
    | _ => simp at h
theorem pyOf_dp (R : Rel K ρ m H) {p : PyData} (r : RV K ρ H x v) (h : pyOf m x = some p) : Dp K H v p ∧ p.plain = true := pyD_dp (pyR_fn R 20) x v p r h
def rEqP (K : PySem.W.Frag) : R2 := fun x y H Q => ∃ d e, Dp K H x d ∧ Dp K H y e ∧ d.plain = true ∧ e.plain = true ∧ min d.depth e.depth ≤ 150 ∧ Q (.bl (PyData.eqv d e)) H
def rNeP (K : PySem.W.Frag) : R2 := fun x y H Q => ∃ d e, Dp K H x d ∧ Dp K H y e ∧ d.plain = true ∧ e.plain = true ∧ min d.depth e.depth ≤ 150 ∧ Q (.bl (!PyData.eqv d e)) H
theorem op_eqP {X : Cx} (hu : X.A.units + 200 < cLine) : OpR X (compareOp .Eq) (rEqP X.K) := by
  intro pins s σ H x y v u Q I rx ry h
  obtain ⟨d, e, hd, he, sd, se, dp, q⟩ := h
  obtain ⟨as, r1⟩ := Dp.reads I d x v hd rx
  obtain ⟨bs, r2⟩ := Dp.reads I e y u he ry
  exact SeqAt.eq_plain r1 r2 sd se (by omega) ⟨.bl _, H, I, rfl, q⟩
theorem op_neP {X : Cx} (hu : X.A.units + 200 < cLine) : OpR X (compareOp .NotEq) (rNeP X.K) := by
  intro pins s σ H x y v u Q I rx ry h
  obtain ⟨d, e, hd, he, sd, se, dp, q⟩ := h
  obtain ⟨as, r1⟩ := Dp.reads I d x v hd rx
  obtain ⟨bs, r2⟩ := Dp.reads I e y u he ry
  exact SeqAt.ne_plain r1 r2 sd se (by omega) ⟨.bl _, H, I, rfl, q⟩
def rInP (K : PySem.W.Frag) (neg : Bool) : R2 := fun x y H Q => ∃ a vs ds e, y = .ref a ∧ (SqL K H a vs ∨ SqT K H a vs) ∧ DpAll K H vs ds ∧ PyData.plainAll ds = true ∧ Dp K H x e ∧ e.plain = true ∧ PyData.depthAll ds ≤ 150 ∧
  Q (.bl (if neg then !(ds.any fun z => PyData.eqv z e) else ds.any fun z => PyData.eqv z e)) H
theorem op_inP {X : Cx} (hu : X.A.units + 200 < cLine) : OpR X (compareOp .In) (rInP X.K false) := by
  intro pins s σ H x y v u Q I rx ry h
  obtain ⟨a, vs, ds, e, rfl, hs, hd, sd, he, se, dp, q⟩ := h
  obtain ⟨bs, r2⟩ := Dp.reads I e x v he rx
  rcases hs with hs | hs
  · obtain ⟨as, r1⟩ := Dp.reads I (.list ds) (.ref a) u (.lst hs hd) ry
    exact SeqAt.in_list_data r1 r2 sd se (by omega) ⟨.bl _, H, I, rfl, q⟩
  · obtain ⟨as, r1⟩ := Dp.reads I (.tuple ds) (.ref a) u (.tup hs hd) ry
    exact SeqAt.in_tuple_data r1 r2 sd se (by omega) ⟨.bl _, H, I, rfl, q⟩
theorem op_ninP {X : Cx} (hu : X.A.units + 200 < cLine) : OpR X (compareOp .NotIn) (rInP X.K true) := by
  intro pins s σ H x y v u Q I rx ry h
  obtain ⟨a, vs, ds, e, rfl, hs, hd, sd, he, se, dp, q⟩ := h
  obtain ⟨bs, r2⟩ := Dp.reads I e x v he rx
  rcases hs with hs | hs
  · obtain ⟨as, r1⟩ := Dp.reads I (.list ds) (.ref a) u (.lst hs hd) ry
    exact SeqAt.notIn_list_data r1 r2 sd se (by omega) ⟨.bl _, H, I, rfl, q⟩
  · obtain ⟨as, r1⟩ := Dp.reads I (.tuple ds) (.ref a) u (.tup hs hd) ry
    exact SeqAt.notIn_tuple_data r1 r2 sd se (by omega) ⟨.bl _, H, I, rfl, q⟩

/-! ### operators -/
theorem post_newL {xs : List D} {vs : List V} {Q : V → Hp → Prop} (R : Rel K ρ m H) (r : RVs K ρ H xs vs) (h : Post K (RV K) ρ H Q (newL xs m)) : ∀ p, H p = none → Q (.ref p) (upd H p (.lst vs)) := fun p hp =>
  h _ _ _ (R.allocL hp r) (List.prefix_append _ _) (.new hp) (.last R)
theorem rv_tup {xs : List D} {vs : List V} {p : Addr} (hp : H p = none) (r : RVs K ρ H xs vs) : RV K ρ (upd H p (.tup vs)) (.tup xs) (.ref p) := by
  simp only [RV]; exact ⟨p, vs, rfl, SqT.of upd_same, r.mono (List.prefix_refl _) (.new hp)⟩
theorem post_newT {xs : List D} {vs : List V} {Q : V → Hp → Prop} (R : Rel K ρ m H) (r : RVs K ρ H xs vs) (h : Post K (RV K) ρ H Q (.ok (.tup xs) m)) : ∀ p, H p = none → Q (.ref p) (upd H p (.tup vs)) := fun p hp =>
  h _ _ _ (R.new hp) (List.prefix_refl _) (.new hp) (rv_tup hp r)
theorem RVs.nil_iff {xs : List D} {vs : List V} (r : RVs K ρ H xs vs) : vs = [] ↔ xs = [] := by
  rw [← List.length_eq_zero_iff, ← List.length_eq_zero_iff, r.len]
theorem repS_len {z : Str} {n : Int} : (repS z n).length ≤ z.length * n.toNat ∨ repS z n = z := by
  unfold repS
  split
  · left; exact Nat.zero_le _
  · split
    · right; rfl
    · left
      have : ∀ (k : Nat) (a : Array Nat), ((List.replicate k z.cps).foldl (· ++ ·) a).size = a.size + k * z.cps.size := by
        intro k
        induction k with
        | zero => intro a; simp
        | succ k ih => intro a; simp only [List.replicate_succ, List.foldl_cons, ih, Array.size_append, Nat.add_mul, Nat.one_mul]; omega
      show ((List.replicate n.toNat z.cps).foldl (· ++ ·) #[]).size ≤ _
      rw [this, Nat.mul_comm]
      simp [Str.length]
theorem op_repS {X : Cx} : OpR X (binaryOp .Mult) (fun x y H Q => ∃ z n, x = .str z ∧ y = .int n ∧ -(2 ^ 63) ≤ n ∧ n < 2 ^ 31 ∧ z.length * n.toNat < sizeLine ∧ Q (.str (repS z n)) H) := by
  intro pins s σ H x y v u Q I rx ry h
  obtain ⟨z, n, rfl, rfl, h1, h2, h3, q⟩ := h
  obtain ⟨t, rfl⟩ := rx
  obtain ⟨t', rfl⟩ := ry
  refine P.mul_str ?_ ?_ ?_ ?_
  · rw [decide_eq_false (by omega), decide_eq_false (by omega)]; rfl
  · intro hn _ hgt
    have hz : z.length ≤ z.length * n.toNat := Nat.le_mul_of_pos_right _ (by omega)
    have hn0 : 0 < n := by omega
    have h4 : (z.length : Int) < 2 ^ 24 := by rw [sizeLine_eq] at h3; omega
    have h5 : (z.length : Int) * n ≤ 2 ^ 63 - 1 := by
      have e : (z.length : Int) * n = ((z.length * n.toNat : Nat) : Int) := by
        rw [Int.natCast_mul, Int.toNat_of_nonneg (by omega)]
      rw [e]
      rw [sizeLine_eq] at h3
      omega
    have := (Int.le_ediv_iff_mul_le hn0).mpr h5
    omega
  · intro _ _
    exact decide_eq_false (by omega)
  · unfold repS at q
    split
    · rename_i hn
      rw [if_pos hn] at q
      exact ⟨Nat.zero_le _, .str Str.empty, H, I.tok _, ⟨_, rfl⟩, q⟩
    · rename_i hn
      rw [if_neg hn] at q
      split
      · rename_i h4
        rw [if_pos h4] at q
        exact ⟨.str z, H, I, ⟨_, rfl⟩, q⟩
      · rename_i h4
        rw [if_neg h4] at q
        refine ⟨?_, .str _, H, I.tok _, ⟨_, rfl⟩, q⟩
        have := repS_len (z := z) (n := n)
        unfold repS at this
        rw [if_neg hn, if_neg h4] at this
        rcases this with q1 | q1
        · omega
        · rw [q1]
          have hz : z.length ≤ z.length * n.toNat := Nat.le_mul_of_pos_right _ (by omega)
          omega
theorem opB_ok (hF : Few K F) {o : Operator} (R : Rel K ρ m H) (rx : RV K ρ H x v) (ry : RV K ρ H y w) (h : Post K (RV K) ρ H Q (opB o x y m)) : bOp F (binaryOp o) v w H Q := by
  unfold opB at h
  split at h
  case h_1 => simp only [RV] at rx ry; subst rx; subst ry; exact ⟨_, fun X _ => op_add, _, _, rfl, rfl, h.ok R (by simp [RV])⟩
  case h_2 => simp only [RV] at rx ry; subst rx; subst ry; exact ⟨_, fun X _ => op_add_ib, _, _, rfl, rfl, h.ok R (by simp [RV, PyProof.Rows.b2i])⟩
  case h_3 =>
    simp only [RV] at rx ry; subst rx; subst ry
    split at h
    · rename_i hl; exact ⟨_, fun X _ => op_add_str, _, _, rfl, rfl, hl, h.ok R (by simp [RV])⟩
    · exact h.elim
  case h_4 =>
    split at h
    · rename_i xs ys hl
      have rx' := rx
      have ry' := ry
      simp only [RV] at rx ry
      obtain ⟨a, vs, rfl, h2, h3⟩ := rx
      obtain ⟨b, ws, rfl, k2, k3⟩ := ry
      refine ⟨rCatA K, fun X hX => hF.eK X hX ▸ op_catA, a, b, vs, ws, rfl, rfl, h2, k2, by rw [h3.len, k3.len]; exact hl, fun e => ?_, fun _ e => ?_, fun _ _ => post_newT R (h3.app k3) h⟩
      · have e1 := h3.nil_iff.mp e
        subst e1
        exact h.ok R (by simpa using ry')
      · have e1 := k3.nil_iff.mp e
        subst e1
        exact h.ok R (by simpa using rx')
    · exact h.elim
  case h_5 =>
    split at h
    · rename_i xs ys e1 e2
      split at h
      · rename_i hl
        simp only [RV] at rx ry
        obtain ⟨a, ha, rfl⟩ := rx
        obtain ⟨b, hb, rfl⟩ := ry
        obtain ⟨vs, h1, h2⟩ := R.lst e1 ha
        obtain ⟨ws, k1, k2⟩ := R.lst e2 hb
        exact ⟨_, fun X _ => op_cat, a, b, vs, ws, rfl, rfl, h1, k1, by rw [h2.len, k2.len]; exact hl, post_newL R (h2.app k2) h⟩
      · exact h.elim
    · exact h.elim
  case h_6 => simp only [RV] at rx ry; subst rx; subst ry; exact ⟨_, fun X _ => op_sub, _, _, rfl, rfl, h.ok R (by simp [RV])⟩
  case h_7 =>
    simp only [RV] at rx ry; subst rx; subst ry
    split at h
    · rename_i hl
      rcases hl with hl | hl
      · exact ⟨_, fun X _ => op_mul, _, _, rfl, rfl, hl, h.ok R (by simp [RV])⟩
      · exact ⟨_, fun X _ => op_mulW, _, _, rfl, rfl, hl, h.ok R (by simp [RV])⟩
    · exact h.elim
  case h_8 =>
    split at h
    · rename_i xs e1
      split at h
      · rename_i hl
        simp only [RV] at rx ry; subst ry
        obtain ⟨a, ha, rfl⟩ := rx
        obtain ⟨vs, h1, h2⟩ := R.lst e1 ha
        exact ⟨_, fun X _ => op_rep, a, _, vs, rfl, rfl, h1, hl.1, hl.2.1, by rw [h2.len]; exact hl.2.2, post_newL R (h2.rep _) h⟩
      · exact h.elim
    · exact h.elim
  case h_9 =>
    simp only [RV] at rx ry; subst rx; subst ry
    split at h
    · rename_i hl; exact ⟨_, fun X _ => op_fdivW, _, _, rfl, rfl, hl, h.ok R (by simp [RV])⟩
    · exact h.elim
  case h_10 =>
    simp only [RV] at rx ry; subst rx; subst ry
    split at h
    · rename_i hl; exact ⟨_, fun X _ => op_mod, _, _, rfl, rfl, hl, h.ok R (by simp [RV])⟩
    · exact h.elim
  case h_11 =>
    simp only [RV] at rx ry; subst rx; subst ry
    split at h
    · rename_i hl; exact ⟨_, fun X _ => op_pow, _, _, rfl, rfl, hl, h.ok R (by simp [RV])⟩
    · exact h.elim
  case h_12 =>
    simp only [RV] at rx ry; subst rx; subst ry
    split at h
    · rename_i hl; exact ⟨_, fun X _ => op_shl, _, _, rfl, rfl, hl, h.ok R (by simp [RV])⟩
    · exact h.elim
  case h_13 =>
    simp only [RV] at rx ry; subst rx; subst ry
    split at h
    · rename_i hl; exact ⟨_, fun X _ => op_shr, _, _, rfl, rfl, hl, h.ok R (by simp [RV])⟩
    · exact h.elim
  case h_14 => simp only [RV] at rx ry; subst rx; subst ry; exact ⟨_, fun X _ => op_and, _, _, rfl, rfl, h.ok R (by simp [RV])⟩
  case h_15 => simp only [RV] at rx ry; subst rx; subst ry; exact ⟨_, fun X _ => op_or, _, _, rfl, rfl, h.ok R (by simp [RV])⟩
  case h_16 => simp only [RV] at rx ry; subst rx; subst ry; exact ⟨_, fun X _ => op_xor, _, _, rfl, rfl, h.ok R (by simp [RV])⟩
  case h_17 =>
    simp only [RV] at rx ry; subst rx; subst ry
    split at h
    · rename_i hl; exact ⟨_, fun X _ => op_repS, _, _, rfl, rfl, hl.1, hl.2.1, hl.2.2, h.ok R (by simp [RV])⟩
    · exact h.elim
  case h_18 => exact h.elim
theorem opA_ok {o : Operator} (R : Rel K ρ m H) (rx : RV K ρ H x v) (ry : RV K ρ H y w) (h : Post K (RV K) ρ H Q (opA o x y m)) : bOp F (inplaceOp o) v w H Q := by
  unfold opA at h
  split at h
  case h_1 => simp only [RV] at rx ry; subst rx; subst ry; exact ⟨_, fun X _ => iop_add, _, _, rfl, rfl, h.ok R (by simp [RV])⟩
  case h_2 =>
    simp only [RV] at rx ry; subst rx; subst ry
    split at h
    · rename_i hl; exact ⟨_, fun X _ => iop_add_str, _, _, rfl, rfl, hl, h.ok R (by simp [RV])⟩
    · exact h.elim
  case h_3 => simp only [RV] at rx ry; subst rx; subst ry; exact ⟨_, fun X _ => iop_sub, _, _, rfl, rfl, h.ok R (by simp [RV])⟩
  case h_4 => simp only [RV] at rx ry; subst rx; subst ry; exact ⟨_, fun X _ => iop_or, _, _, rfl, rfl, h.ok R (by simp [RV])⟩
  case h_5 => simp only [RV] at rx ry; subst rx; subst ry; exact ⟨_, fun X _ => iop_xor, _, _, rfl, rfl, h.ok R (by simp [RV])⟩
  case h_6 => exact h.elim
theorem post_ofB {o : Option Bool} {Q : V → Hp → Prop} (R : Rel K ρ m H) (h : Post K (RV K) ρ H Q (ofB o m)) : ∃ b, o = some b ∧ Q (.bl b) H := by
  cases o with
  | none => exact h.elim
  | some b => exact ⟨b, rfl, Post.ok (RR := RV K) (a := D.bool b) h R (by simp [RV])⟩
theorem post_ofNB {o : Option Bool} {Q : V → Hp → Prop} (R : Rel K ρ m H) (h : Post K (RV K) ρ H Q (ofNB o m)) : ∃ b, o = some b ∧ Q (.bl (!b)) H := by
  cases o with
  | none => exact h.elim
  | some b => exact ⟨b, rfl, Post.ok (RR := RV K) (a := D.bool (!b)) h R (by simp [RV])⟩
theorem in_ok {xs : List D} {b : Bool} {neg : Bool} (R : Rel K ρ m H) (rx : RV K ρ H x v) (ry : RV K ρ H y w) (hs : seqOf m y = some xs) (hb : inD m x xs = some b) (q : Q (.bl (if neg then !b else b)) H) : rInP K neg v w H Q := by
  obtain ⟨a, vs, rfl, rs, hk⟩ := ry.seq R hs
  unfold inD at hb
  split at hb
  · rename_i e ds e1 e2
    split at hb
    · rename_i hd
      cases hb
      obtain ⟨q1, q2⟩ := pyOf_dp R rx e1
      obtain ⟨q3, q4⟩ := pyDs_dp (pyR_fn R 20) xs vs ds rs e2
      refine ⟨a, vs, ds, e, rfl, ?_, q3, q4, q1, q2, hd.1, q⟩
      rcases hk with ⟨_, _, hk⟩ | ⟨_, hk⟩
      · exact .inl hk
      · exact .inr hk
    · cases hb
  · cases hb
theorem opC_ok (hF : Few K F) {o : CmpOp} (R : Rel K ρ m H) (rx : RV K ρ H x v) (ry : RV K ρ H y w) (h : Post K (RV K) ρ H Q (opC o x y m)) : bOp F (compareOp o) v w H Q := by
  unfold opC at h
  split at h
  case h_1 =>
    obtain ⟨b, e, q⟩ := post_ofB R h
    unfold eqD at e
    split at e
    · rename_i p1 p2 e1 e2
      split at e
      · rename_i hd
        cases e
        obtain ⟨q1, q2⟩ := pyOf_dp R rx e1
        obtain ⟨q3, q4⟩ := pyOf_dp R ry e2
        exact ⟨rEqP K, fun X hX => hF.eK X hX ▸ op_eqP (hF.un X hX), p1, p2, q1, q3, q2, q4, hd, q⟩
      · cases e
    · cases e
  case h_2 =>
    obtain ⟨b, e, q⟩ := post_ofNB R h
    unfold eqD at e
    split at e
    · rename_i p1 p2 e1 e2
      split at e
      · rename_i hd
        cases e
        obtain ⟨q1, q2⟩ := pyOf_dp R rx e1
        obtain ⟨q3, q4⟩ := pyOf_dp R ry e2
        exact ⟨rNeP K, fun X hX => hF.eK X hX ▸ op_neP (hF.un X hX), p1, p2, q1, q3, q2, q4, hd, q⟩
      · cases e
    · cases e
  case h_3 => simp only [RV] at rx ry; subst rx; subst ry; exact ⟨_, fun X _ => op_lt, _, _, rfl, rfl, h.ok R (by simp [RV])⟩
  case h_4 => simp only [RV] at rx ry; subst rx; subst ry; exact ⟨_, fun X _ => op_le, _, _, rfl, rfl, h.ok R (by simp [RV])⟩
  case h_5 => simp only [RV] at rx ry; subst rx; subst ry; exact ⟨_, fun X _ => op_gt, _, _, rfl, rfl, h.ok R (by simp [RV])⟩
  case h_6 => simp only [RV] at rx ry; subst rx; subst ry; exact ⟨_, fun X _ => op_ge, _, _, rfl, rfl, h.ok R (by simp [RV])⟩
  case h_7 => simp only [RV] at rx ry; subst rx; subst ry; exact ⟨_, fun X _ => op_isN, rfl, h.ok R (by simp [RV])⟩
  case h_8 hne =>
    have hv : v ≠ .non := by
      intro z; subst z
      cases x <;> simp [RV] at rx
      exact hne rfl
    simp only [RV] at ry; subst ry
    exact ⟨_, fun X _ => op_isN, rfl, by rw [decide_eq_false hv]; exact h.ok R (by simp [RV])⟩
  case h_9 => simp only [RV] at rx ry; subst rx; subst ry; exact ⟨_, fun X _ => op_notN, rfl, h.ok R (by simp [RV])⟩
  case h_10 hne =>
    have hv : v ≠ .non := by
      intro z; subst z
      cases x <;> simp [RV] at rx
      exact hne rfl
    simp only [RV] at ry; subst ry
    exact ⟨_, fun X _ => op_notN, rfl, by rw [decide_eq_false hv]; exact h.ok R (by simp [RV])⟩
  case h_11 => simp only [RV] at rx ry; subst rx; subst ry; exact ⟨_, fun X _ => op_in_str, _, _, rfl, rfl, h.ok R (by simp [RV])⟩
  case h_12 => simp only [RV] at rx ry; subst rx; subst ry; exact ⟨_, fun X _ => op_notin_str, _, _, rfl, rfl, h.ok R (by simp [RV])⟩
  case h_13 =>
    split at h
    · rename_i ys e
      obtain ⟨b, e2, q⟩ := post_ofB R h
      exact ⟨rInP K false, fun X hX => hF.eK X hX ▸ op_inP (hF.un X hX), in_ok R rx ry e e2 q⟩
    · exact h.elim
  case h_14 =>
    split at h
    · rename_i ys e
      obtain ⟨b, e2, q⟩ := post_ofNB R h
      exact ⟨rInP K true, fun X hX => hF.eK X hX ▸ op_ninP (hF.un X hX), in_ok R rx ry e e2 q⟩
    · exact h.elim
  case h_15 => exact h.elim
theorem atI_rv {xs : List D} {vs : List V} {k : Int} {d : D} (r : RVs K ρ H xs vs) (h : atI xs k = some d) : ∃ u, atI vs k = some u ∧ RV K ρ H d u := by
  unfold atI at h ⊢
  rw [r.len]
  cases e : ixN xs.length k with
  | none => rw [e] at h; simp at h
  | some j =>
    rw [e] at h
    simp only [Option.bind_some] at h ⊢
    exact r.get h
theorem idx_ok (hF : Few K F) (R : Rel K ρ m H) (rx : RV K ρ H x v) (ry : RV K ρ H y w) (h : Post K (RV K) ρ H Q (idxD x y m)) : bIx F v w H Q := by
  unfold idxD at h
  split at h
  · split at h
    · rename_i hl
      split at h
      · rename_i c e
        simp only [RV] at rx ry; subst rx; subst ry
        exact ⟨_, fun X _ => ix_str, _, _, c, rfl, rfl, hl, e, h.ok R (by simp [RV])⟩
      · exact h.elim
    · exact h.elim
  · split at h
    · rename_i xs e
      split at h
      · rename_i d e2
        obtain ⟨a, vs, rfl, rs, hk⟩ := rx.seq R e
        simp only [RV] at ry; subst ry
        obtain ⟨u, e3, r3⟩ := atI_rv rs e2
        rcases hk with ⟨_, _, hk⟩ | ⟨_, hk⟩
        · exact ⟨rIxL K, fun X hX => hF.eK X hX ▸ ix_list, a, vs, _, u, rfl, rfl, hk, e3, h.ok R r3⟩
        · exact ⟨rIxT K, fun X hX => hF.eK X hX ▸ ix_tup, a, vs, _, u, rfl, rfl, hk, e3, h.ok R r3⟩
      · exact h.elim
    · exact h.elim
  · exact h.elim
theorem RVs.cut {xs : List D} {vs : List V} (r : RVs K ρ H xs vs) (lo hi : Option Int) : RVs K ρ H (cutD xs lo hi) (cutV vs lo hi) := by
  unfold cutD cutV
  rw [r.len]
  exact (r.drop _).take _
theorem slc_ok (hF : Few K F) {lo hi : Option Int} (R : Rel K ρ m H) (rx : RV K ρ H x v) (h : Post K (RV K) ρ H Q (slcD x lo hi m)) : bSl F v lo hi H Q := by
  unfold slcD at h
  split at h
  · rename_i xs
    have rx' := rx
    simp only [RV] at rx
    obtain ⟨a, vs, rfl, h2, h3⟩ := rx
    refine ⟨rSlA K, fun X hX => hF.eK X hX ▸ sl_tupA, a, vs, rfl, h2, fun e => ?_, fun _ => post_newT R (h3.cut lo hi) h⟩
    have : cutD xs lo hi = xs := by
      unfold cutD
      rw [h3.len] at e
      rw [e.1, e.2]; simp
    rw [this] at h
    exact h.ok R rx'
  · simp only [RV] at rx; subst rx
    split at h
    · rename_i hl; exact ⟨rSlS, fun X hX => sl_str, _, rfl, hl, h.ok R (by simp only [RV])⟩
    · exact h.elim
  · simp only [RV] at rx
    obtain ⟨a, vs, rfl, h2, h3⟩ := rx
    exact ⟨rSlL K, fun X hX => hF.eK X hX ▸ sl_list, a, vs, rfl, h2.sq, post_newL R (h3.cut lo hi) h⟩
  · split at h
    · rename_i xs e
      obtain ⟨a, vs, rfl, rs, hk⟩ := rx.seq R e
      rcases hk with ⟨_, _, hk⟩ | ⟨hk, _⟩
      · exact ⟨rSlL K, fun X hX => hF.eK X hX ▸ sl_list, a, vs, rfl, hk, post_newL R (rs.cut lo hi) h⟩
      · cases hk
    · exact h.elim
  · exact h.elim
theorem put_ok {o i d : D} {ov iv dv : V} {m' : Mem} {Q : Hp → Prop} (R : Rel K ρ m H) (ro : RV K ρ H o ov) (ri : RV K ρ H i iv) (rd : RV K ρ H d dv) (h : putD o i d m = some m')
    (q : ∀ H', Rel K ρ m' H' → Ext H H' → Q H') : bPut F ov iv dv H Q := by
  unfold putD at h
  split at h
  · rename_i n k
    split at h
    · rename_i xs e
      split at h
      · rename_i j ej
        cases h
        simp only [RV] at ro ri; subst ri
        obtain ⟨a, ha, rfl⟩ := ro
        obtain ⟨vs, h1, h2⟩ := R.lst e ha
        obtain ⟨R', X'⟩ := R.writeL ha h1 (h2.set (j := j) rd)
        exact ⟨_, fun X _ => set_list, a, vs, _, j, rfl, rfl, h1, by rw [h2.len]; exact ej, q _ R' X'⟩
      · cases h
    · cases h
  · cases h
end
end PC

namespace PC
open PySem L2 Classical
open PyProof.Rows (IntsAre)

section
variable {X : Cx}
theorem old_push {s : Shared} {o : Obj} {h' : Heap} (hk : ∀ b u, b ∉ [s.heap.objs.size] → (s.heap.push o).get? b = some u → h'.get? b = some u) :
    ∀ b u, s.heap.get? b = some u → h'.get? b = some u := fun b u e => by
  refine hk b u (fun hm => ?_) (Heap.get?_push_of_some _ e)
  rcases List.mem_cons.mp hm with e1 | hm
  · exact absurd (e1 ▸ Heap.lt_size e) (Nat.lt_irrefl _)
  · cases hm
def rSumT (K : PySem.W.Frag) : List V → Hp → VK → Prop := fun vs H Q => ∃ (a : Addr) (ns : List Int), vs = [V.ref a] ∧ SqT K H a (ns.map V.int) ∧ Q (.int ns.sum) H
theorem cr_sumT (hc : X.calm = true) : CallR X (.builtin "sum") (rSumT X.K) := by
  intro pins s σ H vs us Q I r h
  obtain ⟨a, ns, rfl, hs, q⟩ := h
  obtain ⟨its, rv, hl, _⟩ := I.tuple hs
  rw [Vals.ref1 r]
  have hi := rv.ints
  have hlt : a < s.heap.objs.size := by obtain ⟨_, e, _⟩ := hl; exact Heap.lt_size e
  refine call_sum_walkG (wpAny_pyIter_tuple hl ⟨_, _, _, its.toArray.size, _, _, fun i => ns.getD i 0, rfl, Walks.tuple (A := X.A.in1) (I.ok.hd hc) _ a (Nat.ne_of_lt hlt) its.toArray,
    ⟨⟨_, Heap.get?_push_size _ rfl, rfl, rfl⟩, Heap.IsTuple.push (show s.heap.IsTuple a its.toArray from hl) _⟩, fun b hb => ?_, fun i v hv => ?_, fun h' tk t' hk => ?_⟩)
  · show b < (s.heap.push _).objs.size
    rw [Heap.size_push]
    rcases List.mem_cons.mp hb with rfl | hb
    · exact Nat.lt_succ_self _
    · rcases List.mem_cons.mp hb with rfl | hb
      · exact Nat.lt_succ_of_lt hlt
      · cases hb
  · obtain ⟨n, t, e, hn⟩ := hi.at i v (by simpa using hv)
    exact ⟨t, by show v = Value.int (ns.getD i 0) t; rw [e, List.getD_eq_getElem?_getD, hn]; rfl⟩
  · have hln : its.length = ns.length := by rw [← rv.length]; simp
    rw [PyProof.Rows.preSum_getD, List.take_of_length_le (by simp [hln])]
    exact ⟨.int _, H, I.kept (old_push hk), ⟨_, rfl⟩, q⟩
def rAllT (K : PySem.W.Frag) : List V → Hp → VK → Prop := fun vs H Q => ∃ (a : Addr) (bs : List Bool), vs = [V.ref a] ∧ SqT K H a (bs.map V.bl) ∧ Q (.bl (bs.all id)) H
def rAnyT (K : PySem.W.Frag) : List V → Hp → VK → Prop := fun vs H Q => ∃ (a : Addr) (bs : List Bool), vs = [V.ref a] ∧ SqT K H a (bs.map V.bl) ∧ Q (.bl (bs.any id)) H
theorem cr_allT (hc : X.calm = true) : CallR X (.builtin "all") (rAllT X.K) := by
  intro pins s σ H vs us Q I r h
  obtain ⟨a, bs, rfl, hs, q⟩ := h
  obtain ⟨its, rv, hl, _⟩ := I.tuple hs
  rw [Vals.ref1 r]
  have hb := rv.bls
  have hlt : a < s.heap.objs.size := by obtain ⟨_, e, _⟩ := hl; exact Heap.lt_size e
  refine call_all_walk (wpAny_pyIter_tuple hl ⟨_, _, _, _, _, _, _, rfl, Walks.tuple (A := X.A.in1) (I.ok.hd hc) _ a (Nat.ne_of_lt hlt) its.toArray,
    ⟨⟨_, Heap.get?_push_size _ rfl, rfl, rfl⟩, Heap.IsTuple.push (show s.heap.IsTuple a its.toArray from hl) _⟩, truth_bools hb, fun h' tk hk => ?_⟩)
  refine ⟨.bl _, H, I.kept (old_push hk), ?_, q⟩
  show Value.bool _ = Value.bool _
  rw [← all_range, hb, List.size_toArray, List.length_map]
theorem cr_anyT (hc : X.calm = true) : CallR X (.builtin "any") (rAnyT X.K) := by
  intro pins s σ H vs us Q I r h
  obtain ⟨a, bs, rfl, hs, q⟩ := h
  obtain ⟨its, rv, hl, _⟩ := I.tuple hs
  rw [Vals.ref1 r]
  have hb := rv.bls
  have hlt : a < s.heap.objs.size := by obtain ⟨_, e, _⟩ := hl; exact Heap.lt_size e
  refine call_any_walk (wpAny_pyIter_tuple hl ⟨_, _, _, _, _, _, _, rfl, Walks.tuple (A := X.A.in1) (I.ok.hd hc) _ a (Nat.ne_of_lt hlt) its.toArray,
    ⟨⟨_, Heap.get?_push_size _ rfl, rfl, rfl⟩, Heap.IsTuple.push (show s.heap.IsTuple a its.toArray from hl) _⟩, truth_bools hb, fun h' tk hk => ?_⟩)
  refine ⟨.bl _, H, I.kept (old_push hk), ?_, q⟩
  show Value.bool _ = Value.bool _
  rw [← any_range, hb, List.size_toArray, List.length_map]
end

theorem maxL_mem : ∀ {ns : List Int}, ns ≠ [] → maxL ns ∈ ns ∧ ∀ y ∈ ns, y ≤ maxL ns
  | [], h => absurd rfl h
  | [x], _ => by simp [maxL]
  | x :: y :: r, _ => by
    obtain ⟨h1, h2⟩ := maxL_mem (ns := y :: r) (by simp)
    unfold maxL
    split
    · rename_i hle
      refine ⟨List.mem_cons_self, fun z hz => ?_⟩
      rcases List.mem_cons.mp hz with rfl | hz
      · exact Int.le_refl _
      · have := h2 z hz; omega
    · rename_i hle
      refine ⟨List.mem_cons_of_mem _ h1, fun z hz => ?_⟩
      rcases List.mem_cons.mp hz with rfl | hz
      · omega
      · exact h2 z hz
theorem minL_mem : ∀ {ns : List Int}, ns ≠ [] → minL ns ∈ ns ∧ ∀ y ∈ ns, minL ns ≤ y
  | [], h => absurd rfl h
  | [x], _ => by simp [minL]
  | x :: y :: r, _ => by
    obtain ⟨h1, h2⟩ := minL_mem (ns := y :: r) (by simp)
    unfold minL
    split
    · rename_i hle
      refine ⟨List.mem_cons_self, fun z hz => ?_⟩
      rcases List.mem_cons.mp hz with rfl | hz
      · exact Int.le_refl _
      · have := h2 z hz; omega
    · rename_i hle
      refine ⟨List.mem_cons_of_mem _ h1, fun z hz => ?_⟩
      rcases List.mem_cons.mp hz with rfl | hz
      · omega
      · exact h2 z hz

/-- the value that a builtin's name has, and the name -/
def BI.val : BI → Value
  | .len => .builtin "len" | .int => .type "int" | .abs => .builtin "abs" | .min2 => .builtin "min" | .max2 => .builtin "max" | .sum => .builtin "sum" | .all => .builtin "all" | .any => .builtin "any"
  | .tuple => .type "tuple" | .list => .type "list" | .max1 => .builtin "max" | .min1 => .builtin "min"
section
variable {K : PySem.W.Frag} {F : Cx → Prop} {ρ : List Addr} {H : Hp} {m : Mem} {x y : D} {v w : V} {Q : VK}
theorem seq_ints {ns : List Int} (R : Rel K ρ m H) (r : RV K ρ H x v) (h : lintsD m x = some ns) : ∃ a, v = .ref a ∧ (SqL K H a (ns.map V.int) ∨ SqT K H a (ns.map V.int)) := by
  unfold lintsD at h
  obtain ⟨xs, e1, e2⟩ := Option.bind_eq_some_iff.mp h
  obtain ⟨a, vs, rfl, rs, hk⟩ := r.seq R e1
  have := rs.ints e2
  subst this
  rcases hk with ⟨_, _, hk⟩ | ⟨_, hk⟩
  · exact ⟨a, rfl, .inl hk⟩
  · exact ⟨a, rfl, .inr hk⟩
theorem seq_intsL {n : Nat} {ns : List Int} (R : Rel K ρ m H) (r : RV K ρ H (.ref n) v) (h : lintsD m (.ref n) = some ns) : ∃ a, v = .ref a ∧ SqL K H a (ns.map V.int) := by
  unfold lintsD at h
  obtain ⟨xs, e1, e2⟩ := Option.bind_eq_some_iff.mp h
  obtain ⟨a, vs, rfl, rs, hk⟩ := r.seq R e1
  have := rs.ints e2
  subst this
  rcases hk with ⟨_, _, hk⟩ | ⟨hd, hk⟩
  · exact ⟨a, rfl, hk⟩
  · cases hd
theorem seq_bools {ns : List Bool} (R : Rel K ρ m H) (r : RV K ρ H x v) (h : lboolsD m x = some ns) : ∃ a, v = .ref a ∧ (SqL K H a (ns.map V.bl) ∨ SqT K H a (ns.map V.bl)) := by
  unfold lboolsD at h
  obtain ⟨xs, e1, e2⟩ := Option.bind_eq_some_iff.mp h
  obtain ⟨a, vs, rfl, rs, hk⟩ := r.seq R e1
  have := rs.bools e2
  subst this
  rcases hk with ⟨_, _, hk⟩ | ⟨_, hk⟩
  · exact ⟨a, rfl, .inl hk⟩
  · exact ⟨a, rfl, .inr hk⟩
theorem bi_ok (hF : Few K F) {f : BI} {ds : List D} {vs : List V} (R : Rel K ρ m H) (r : RVs K ρ H ds vs) (h : Post K (RV K) ρ H Q (biD f ds m)) : bCa F f.val vs H Q := by
  unfold biD at h
  split at h
  case h_1 =>
    obtain ⟨v, rfl, rv⟩ := r.one_inv
    rename_i d
    split at h
    · rename_i n e
      refine ⟨fun xs H Q => ∃ x n, xs = [x] ∧ LenV K x H n ∧ Q (.int n) H, fun X hX => hF.eK X hX ▸ call_len, v, n, rfl, ?_, h.ok R (by simp [RV])⟩
      unfold lenD at e
      split at e
      · split at e
        · rename_i hl
          cases e
          simp only [RV] at rv; subst rv
          exact ⟨hl, rfl⟩
        · cases e
      · obtain ⟨xs, e1, rfl⟩ := Option.map_eq_some_iff.mp e
        obtain ⟨a, vs, rfl, rs, hk⟩ := rv.seq R e1
        rcases hk with ⟨_, _, hk⟩ | ⟨_, hk⟩
        · exact .inl ⟨vs, hk, rs.len.symm⟩
        · exact .inr ⟨vs, hk, rs.len.symm⟩
    · exact h.elim
  case h_2 => obtain ⟨v, rfl, rv⟩ := r.one_inv; simp only [RV] at rv; subst rv; exact ⟨_, fun X _ => call_int1, .inl ⟨_, rfl, h.ok R (by simp [RV])⟩⟩
  case h_3 => obtain ⟨v, rfl, rv⟩ := r.one_inv; simp only [RV] at rv; subst rv; exact ⟨_, fun X _ => call_int1, .inr ⟨_, rfl, h.ok R (by simp [RV])⟩⟩
  case h_4 => obtain ⟨v, rfl, rv⟩ := r.one_inv; simp only [RV] at rv; subst rv; exact ⟨_, fun X _ => call_abs, _, rfl, h.ok R (by simp [RV])⟩
  case h_5 => obtain ⟨v, w, rfl, rv, rw'⟩ := r.two_inv; simp only [RV] at rv rw'; subst rv; subst rw'; exact ⟨_, fun X hX => call_min2 (hF.calm X hX), _, _, rfl, h.ok R (by simp [RV])⟩
  case h_6 => obtain ⟨v, w, rfl, rv, rw'⟩ := r.two_inv; simp only [RV] at rv rw'; subst rv; subst rw'; exact ⟨_, fun X hX => call_max2 (hF.calm X hX), _, _, rfl, h.ok R (by simp [RV])⟩
  case h_7 =>
    obtain ⟨v, rfl, rv⟩ := r.one_inv
    split at h
    · rename_i ns e
      obtain ⟨a, rfl, hs⟩ := seq_ints R rv e
      rcases hs with hs | hs
      · exact ⟨rSum K, fun X hX => hF.eK X hX ▸ cr_sum (hF.calm X hX), a, ns, rfl, hs, h.ok R (by simp [RV])⟩
      · exact ⟨rSumT K, fun X hX => hF.eK X hX ▸ cr_sumT (hF.calm X hX), a, ns, rfl, hs, h.ok R (by simp [RV])⟩
    · exact h.elim
  case h_8 =>
    obtain ⟨v, rfl, rv⟩ := r.one_inv
    split at h
    · rename_i ns e
      split at h
      · exact h.elim
      · rename_i hne
        obtain ⟨a, rfl, hs⟩ := seq_intsL R rv e
        have q := h.ok (b := .int (maxL ns)) R (by simp [RV])
        obtain ⟨h1, h2⟩ := maxL_mem hne
        · exact ⟨rMax K, fun X hX => hF.eK X hX ▸ cr_max (hF.calm X hX), a, ns, rfl, hs, List.length_pos_iff.mpr hne, fun M k1 k2 => by
            have : M = maxL ns := Int.le_antisymm (h2 M k1) (k2 _ h1)
            rw [this]; exact q⟩
    · exact h.elim
  case h_9 =>
    obtain ⟨v, rfl, rv⟩ := r.one_inv
    split at h
    · rename_i ns e
      split at h
      · exact h.elim
      · rename_i hne
        obtain ⟨a, rfl, hs⟩ := seq_intsL R rv e
        have q := h.ok (b := .int (minL ns)) R (by simp [RV])
        obtain ⟨h1, h2⟩ := minL_mem hne
        · exact ⟨rMin K, fun X hX => hF.eK X hX ▸ cr_min (hF.calm X hX), a, ns, rfl, hs, List.length_pos_iff.mpr hne, fun M k1 k2 => by
            have : M = minL ns := Int.le_antisymm (k2 _ h1) (h2 M k1)
            rw [this]; exact q⟩
    · exact h.elim
  case h_10 =>
    obtain ⟨v, rfl, rv⟩ := r.one_inv
    split at h
    · rename_i ns e
      obtain ⟨a, rfl, hs⟩ := seq_bools R rv e
      rcases hs with hs | hs
      · exact ⟨rAll K, fun X hX => hF.eK X hX ▸ cr_all (hF.calm X hX), a, ns, rfl, hs, h.ok R (by simp [RV])⟩
      · exact ⟨rAllT K, fun X hX => hF.eK X hX ▸ cr_allT (hF.calm X hX), a, ns, rfl, hs, h.ok R (by simp [RV])⟩
    · exact h.elim
  case h_11 =>
    obtain ⟨v, rfl, rv⟩ := r.one_inv
    split at h
    · rename_i ns e
      obtain ⟨a, rfl, hs⟩ := seq_bools R rv e
      rcases hs with hs | hs
      · exact ⟨rAny K, fun X hX => hF.eK X hX ▸ cr_any (hF.calm X hX), a, ns, rfl, hs, h.ok R (by simp [RV])⟩
      · exact ⟨rAnyT K, fun X hX => hF.eK X hX ▸ cr_anyT (hF.calm X hX), a, ns, rfl, hs, h.ok R (by simp [RV])⟩
    · exact h.elim
  case h_12 =>
    obtain ⟨v, rfl, rv⟩ := r.one_inv
    split at h
    · rename_i d xs e
      obtain ⟨a, vs, rfl, rs, hk⟩ := rv.seq R e
      refine ⟨fun xs H Q => ∃ p ys, xs = [.ref p] ∧ ((SqL K H p ys ∧ ∀ l, H l = none → Q (.ref l) (upd H l (.tup ys))) ∨ (SqT K H p ys ∧ Q (.ref p) H)), fun X hX => hF.eK X hX ▸ call_tuple_of, a, vs, rfl, ?_⟩
      rcases hk with ⟨_, _, hk⟩ | ⟨ed, hk⟩
      · exact .inl ⟨hk, post_newT R rs h⟩
      · exact .inr ⟨hk, h.ok R (by subst ed; exact rv)⟩
    · exact h.elim
  case h_13 =>
    obtain ⟨v, rfl, rv⟩ := r.one_inv
    split at h
    · rename_i d xs e
      obtain ⟨a, vs, rfl, rs, hk⟩ := rv.seq R e
      refine ⟨fun xs H Q => ∃ p ys, xs = [.ref p] ∧ (SqL K H p ys ∨ SqT K H p ys) ∧ ∀ l, H l = none → Q (.ref l) (upd H l (.lst ys)), fun X hX => hF.eK X hX ▸ call_list_of, a, vs, rfl, ?_, post_newL R rs h⟩
      rcases hk with ⟨_, _, hk⟩ | ⟨_, hk⟩
      · exact .inl hk
      · exact .inr hk
    · exact h.elim
  case h_14 => exact h.elim
end
end PC

/-! PCk: the model's syntax against the small one -/
namespace PC
open PySem L2
abbrev Sc := List (Str × NameKind)
def isGl (sc : Sc) (x : Str) : Bool := match sc.lookup x with | some .globalImplicit => true | _ => false
def isLoc (sc : Sc) (x : Str) : Bool := match sc.lookup x with | some .local => true | some .cell => true | _ => false
def isLocal (sc : Sc) (x : Str) : Bool := match sc.lookup x with | some .local => true | _ => false
def isVis (sc : Sc) (x : Str) : Bool := match sc.lookup x with | some .local => true | some .cell => true | some .free => true | _ => false
def nDebug (x : Str) : Bool := !(x == ("__debug__" : Str)) && !(x == ("__classdict__" : Str))
def nName (x : Str) : Bool := decide (x ≠ "__name__")
def noSt : Expr → Bool | .Starred _ _ => false | _ => true
def noSup : Expr → Bool | .Call (.Name _ _) [] [] _ => false | _ => true
def noSlc : Expr → Bool | .Slice _ _ _ _ => false | _ => true
def noSet : Expr → Bool | .Set _ _ _ => false | _ => true
def noComp : Expr → Bool | .ListComp _ _ _ _ => false | .SetComp _ _ _ _ => false | .DictComp _ _ _ _ _ => false | _ => true
def plainT : Expr → Bool | .UnaryOp .Not _ _ => false | .BoolOp _ _ _ => false | .IfExp _ _ _ _ => false | .Compare _ _ _ _ => false | _ => true
def litOk : Const → D → Bool
  | .none, .none => true
  | .bool b, .bool c => b == c
  | .int b, .int c => b == c
  | .str b, .str c => b == c
  | _, _ => false
def BI.name : BI → Str
  | .len => "len" | .int => "int" | .abs => "abs" | .min2 => "min" | .max2 => "max" | .sum => "sum" | .all => "all" | .any => "any"
  | .tuple => "tuple" | .list => "list" | .max1 => "max" | .min1 => "min"
def MT.name : MT → Str
  | .append => "append" | .pop => "pop" | .popAt => "pop" | .extend => "extend" | .bitLength => "bit_length"
  | .split => "split" | .join => "join" | .insert => "insert" | .reverse => "reverse" | .index => "index"
/-- builtin names: none of them may be a name of the module -/
def bltN : List Str := ["len", "int", "abs", "min", "max", "sum", "all", "any", "tuple", "list", "isinstance", "range", "zip", "enumerate", "reversed", "bool", "str"]
def typN (T : String) : Bool := T == "int" || T == "bool" || T == "str" || T == "tuple" || T == "list"
def ckAll (f : Expr → CE → Bool) : List Expr → CEs → Bool
  | [], .nil => true
  | e :: es, .cons c cs => noSt e && f e c && ckAll f es cs
  | _, _ => false
def ckTs (f : Expr → CT → Bool) : List Expr → CTs → Bool
  | [], .nil => true
  | e :: es, .cons c cs => noSt e && f e c && ckTs f es cs
  | _, _ => false
def ckOp (f : Expr → CE → Bool) : Option Expr → CO → Bool
  | none, .none => true
  | some e, .some c => f e c
  | _, _ => false
def ckBsV (f : Expr → CE → Bool) (op : BoolOp) : List Expr → CE → Bool
  | [e], c => f e c
  | e :: es, .and x y => (match op with | .And => true | _ => false) && f e x && ckBsV f op es y
  | e :: es, .or x y => (match op with | .Or => true | _ => false) && f e x && ckBsV f op es y
  | _, _ => false
def ckBsT (f : Expr → CB → Bool) (op : BoolOp) : List Expr → CB → Bool
  | [e], c => f e c
  | e :: es, .and x y => (match op with | .And => true | _ => false) && f e x && ckBsT f op es y
  | e :: es, .or x y => (match op with | .Or => true | _ => false) && f e x && ckBsT f op es y
  | _, _ => false
def ownOf (N : List Str) (vs : List Nat) : List (Str × Nat) := vs.map fun i => (N.getD i "", i)
def decEqOp : Operator → Operator → Bool := fun a b => decide (a = b)
def decEqC : CmpOp → CmpOp → Bool := fun a b => decide (a = b)
mutual
def ckE (N : List Str) : Nat → Sc → Expr → CE → Bool
  | 0, _, _, _ => false
  | n + 1, sc, e, .gc x => ckE N n sc e x
  | n + 1, sc, .Name x _, .var i => decide (N[i]? = some x) && isVis sc x && nDebug x
  | n + 1, sc, .Name x _, .glob y => decide (x = y) && isGl sc x && nDebug x
  | n + 1, sc, .Constant c _ _, .lit d => litOk c d
  | n + 1, sc, .BinOp a o b _, .bin p x y => decEqOp o p && ckE N n sc a x && ckE N n sc b y
  | n + 1, sc, .UnaryOp .USub a _, .neg x => ckE N n sc a x
  | n + 1, sc, .UnaryOp .Invert a _, .inv x => ckE N n sc a x
  | n + 1, sc, .UnaryOp .Not a _, .not x => ckE N n sc a x
  | n + 1, sc, .Compare a [o] [b] _, .cmp p x y => decEqC o p && noSet b && ckE N n sc a x && ckE N n sc b y
  | n + 1, sc, .Compare a [o, o'] [b, c] _, .chain p p' x y z => decEqC o p && decEqC o' p' && noSet b && noSet c && ckE N n sc a x && ckE N n sc b y && ckE N n sc c z
  | n + 1, sc, .BoolOp op vs _, c => ckBsV (ckE N n sc) op vs c
  | n + 1, sc, .IfExp t a b _, .ife c x y => ckB N n sc t c && ckE N n sc a x && ckE N n sc b y
  | n + 1, sc, .Tuple es _ _, .tup cs => ckAll (ckE N n sc) es cs && decide (es.length ≤ 1000)
  | n + 1, sc, .List es _, .lst cs => ckAll (ckE N n sc) es cs && decide (es.length ≤ 1000)
  | n + 1, sc, .Subscript a (.Slice lo hi none _) _, .slc x l h => ckE N n sc a x && ckOp (ckE N n sc) lo l && ckOp (ckE N n sc) hi h
  | n + 1, sc, .Subscript a i _, .idx x y => noSlc i && ckE N n sc a x && ckE N n sc i y
  | n + 1, sc, .Call (.Name f _) es [] _, .call g cs => decide (f = g) && isGl sc f && nDebug f && ckAll (ckE N n sc) es cs
  | n + 1, sc, .Call (.Name f _) es [] _, .bi b cs => decide (f = b.name) && isGl sc f && !es.isEmpty && ckAll (ckE N n sc) es cs
  | n + 1, sc, .Call (.Name f _) [e, .Name T _] [] _, .isin x T' => decide (f = "isinstance") && isGl sc f && decide (T = Str.ofString T') && isGl sc T && typN T' && noSt e && ckE N n sc e x
  | n + 1, sc, .Call (.Attribute o f ap) es [] cp, .meth g x cs => decide (f = g.name) && noSup o && (ap.endLine == cp.line) && decide (es.length < 30) && ckE N n sc o x && ckAll (ckE N n sc) es cs
  | n + 1, sc, .ListComp e [⟨tg, it, ifs, 0⟩] scope _, .comp vs t i c x => blkC N ⟨.function, sc, false, false, []⟩ scope (ownOf N vs) && noSet it && tgtIn vs t && ckI N n sc tg it i && ckT N n scope.names tg t && ckBO N n scope.names ifs c && ckE N n scope.names e x
  | n + 1, sc, .Call (.Name f _) [.Call (.Name g _) [a] [] _] [] _, .lrng1 x => decide (f = "list") && isGl sc f && decide (g = "range") && isGl sc g && noSt a && ckE N n sc a x
  | n + 1, sc, .Call (.Name f _) [.Call (.Name g _) [a, b] [] _] [] _, .lrng2 x y => decide (f = "list") && isGl sc f && decide (g = "range") && isGl sc g && noSt a && noSt b && ckE N n sc a x && ckE N n sc b y
  | _, _, _, _ => false
def ckB (N : List Str) : Nat → Sc → Expr → CB → Bool
  | 0, _, _, _ => false
  | n + 1, sc, .UnaryOp .Not a _, .not x => ckB N n sc a x
  | n + 1, sc, .BoolOp op vs _, c => ckBsT (ckB N n sc) op vs c
  | n + 1, sc, .Compare a [o] [b] _, .val (.cmp p x y) => decEqC o p && noSet b && ckE N n sc a x && ckE N n sc b y
  | n + 1, sc, .Compare a [o, o'] [b, c] _, .val (.chain p p' x y z) => decEqC o p && decEqC o' p' && noSet b && noSet c && ckE N n sc a x && ckE N n sc b y && ckE N n sc c z
  | n + 1, sc, e, .val x => plainT e && ckE N n sc e x
  | _, _, _, _ => false
def ckBO (N : List Str) : Nat → Sc → List Expr → CBO → Bool
  | 0, _, _, _ => false
  | n + 1, sc, [], .none => true
  | n + 1, sc, [e], .some c => ckB N n sc e c
  | _, _, _, _ => false
def ckI (N : List Str) : Nat → Sc → Expr → Expr → CI → Bool
  | 0, _, _, _, _ => false
  | n + 1, sc, tg, e, .plain x => ckE N n sc e x
  | n + 1, sc, tg, .Call (.Name f _) [a] [] _, .rng1 x => decide (f = "range") && isGl sc f && noSt a && ckE N n sc a x
  | n + 1, sc, tg, .Call (.Name f _) [a, b] [] _, .rng2 x y => decide (f = "range") && isGl sc f && noSt a && noSt b && ckE N n sc a x && ckE N n sc b y
  | n + 1, sc, .Tuple _ _ _, .Call (.Name f _) [a, b] [] _, .zip x y => decide (f = "zip") && isGl sc f && noSt a && noSt b && ckE N n sc a x && ckE N n sc b y
  | n + 1, sc, .Tuple _ _ _, .Call (.Name f _) [a] [] _, .enum x => decide (f = "enumerate") && isGl sc f && noSt a && ckE N n sc a x
  | n + 1, sc, tg, .Call (.Name f _) [a] [] _, .rev x => decide (f = "reversed") && isGl sc f && noSt a && ckE N n sc a x
  | _, _, _, _, _ => false
def ckT (N : List Str) : Nat → Sc → Expr → CT → Bool
  | 0, _, _, _ => false
  | n + 1, sc, .Name x _, .name i => decide (N[i]? = some x) && isLoc sc x
  | n + 1, sc, .Tuple es _ _, .tup ts => ckTs (ckT N n sc) es ts
  | n + 1, sc, .Subscript o i _, .sub x y => noSlc i && ckE N n sc o x && ckE N n sc i y
  | _, _, _, _ => false
end
/-- an assignment of a comprehension to a plain local name: the store comes ahead of the clearing -/
def swB (sc : Sc) (y : Str) (py : Pos) : Expr → Bool
  | .ListComp _ _ scope pos => isLocal sc y && (py.line == pos.line) && !(scope.names.any fun (n, k) => n == y && (k == .local || k == .cell))
  | _ => false
/-- an assignment of a comprehension that is an ordinary one -/
def noSw (sc : Sc) : Expr → Expr → Bool
  | .Name y _, e => noComp e || !isLocal sc y
  | _, _ => true
def tupOf : Expr → Option (List Expr)
  | .Tuple es _ _ => some es
  | .List es _ => some es
  | _ => none
def namesOf (sc : Sc) (line : Nat) : List Expr → List Str
  | [] => []
  | .Name x pos :: r => if isLocal sc x && pos.line == line then x :: namesOf sc line r else namesOf sc line r
  | _ :: r => namesOf sc line r
/-- the two stores stand in the written order -/
def noPar (sc : Sc) (t e : Expr) : Bool :=
  match t, e with
  | .Tuple ts _ _, .Tuple vs _ _ => !(ts.length == 2 || ts.length == 3) || (namesOf sc ((ts.head?.map (·.pos.line)).getD 0) ts).length != ts.length
  | .List _ _, _ => false
  | _, _ => true
def parB (sc : Sc) (vs : List Expr) (line : Nat) (ts : List Expr) : Bool :=
  vs.all noSt && (namesOf sc line ts).length == ts.length && (namesOf sc line ts).eraseDups.length == (namesOf sc line ts).length && !(vs.all (foldedForSure 8)) && !(vs.all (constantsAlone 8))
mutual
def ckS (N : List Str) : Nat → Sc → Stmt → CS → Bool
  | 0, _, _, _ => false
  | n + 1, sc, .Assign [.Name y py] e pos, .asg (.name i) c =>
      decide (N[i]? = some y) && isLoc sc y && ((swB sc y py e && (match c with | .comp _ _ _ _ _ => true | _ => false)) || noSw sc (.Name y py) e) && ckE N n sc e c
  | n + 1, sc, .Assign [.Tuple [.Name x px, .Name y py] k1 p1] (.Tuple [a, b] k2 p2) pos, .asg (.tup (.cons (.name i) (.cons (.name j) .nil))) (.tup (.cons c (.cons d .nil))) =>
      decide (N[i]? = some x) && decide (N[j]? = some y) && isLoc sc x && isLoc sc y && noSt a && noSt b &&
        ((parB sc [a, b] px.line [.Name x px, .Name y py] && decide (i ≠ j)) || noPar sc (.Tuple [.Name x px, .Name y py] k1 p1) (.Tuple [a, b] k2 p2)) && ckE N n sc a c && ckE N n sc b d
  | n + 1, sc, .Assign [t] e pos, .asg ct c => (match t with | .Name _ _ => false | _ => true) && noSt t && noComp e && noPar sc t e && ckE N n sc e c && ckT N n sc t ct
  | n + 1, sc, .AugAssign (.Name x _) o e _, .aug i p c => decEqOp o p && decide (N[i]? = some x) && isLoc sc x && ckE N n sc e c
  | n + 1, sc, .AugAssign (.Subscript o i _) p e _, .augS x y q z => decEqOp p q && noSlc i && ckE N n sc o x && ckE N n sc i y && ckE N n sc e z
  | n + 1, sc, .Expr e _, .expr c => noComp e && ckE N n sc e c
  | n + 1, sc, .Return (some e) _, .ret c => ckE N n sc e c
  | n + 1, sc, .Return none _, .retN => true
  | n + 1, sc, .Pass _, .pass => true
  | n + 1, sc, .Break _, .brk => true
  | n + 1, sc, .Continue _, .cont => true
  | n + 1, sc, .If t a b _, .ite c x y => ckB N n sc t c && ckSs N n sc a x && ckSs N n sc b y
  | n + 1, sc, .While t b [] _, .whl c x => ckB N n sc t c && ckSs N n sc b x
  | n + 1, sc, .For tg it b [] _, .fr t i x => noSet it && ckI N n sc tg it i && ckT N n sc tg t && ckSs N n sc b x
  | n + 1, sc, .Assign [.Tuple [.Name x px, .Name y py, .Name z pz] k1 p1] (.Tuple [a, b, c] k2 p2) pos, .par3 i j l u v w =>
      decide (N[i]? = some x) && decide (N[j]? = some y) && decide (N[l]? = some z) && noSt a && noSt b && noSt c && decide (i ≠ j) && decide (i ≠ l) && decide (j ≠ l) &&
        parB sc [a, b, c] px.line [.Name x px, .Name y py, .Name z pz] && ckE N n sc a u && ckE N n sc b v && ckE N n sc c w
  | _, _, _, _ => false
def ckSs (N : List Str) : Nat → Sc → List Stmt → CSs → Bool
  | 0, _, _, _ => false
  | n + 1, sc, [], .nil => true
  | n + 1, sc, s :: ss, .cons c cs => ckS N n sc s c && ckSs N n sc ss cs
  | _, _, _, _ => false
end
end PC

/-! PSnd: what the small syntax means is what the model does. -/
namespace PC
open PySem L2 Classical

/-! ### the model's side conditions, by shape -/
theorem starEach_cons {e : Expr} {es : List Expr} {env : Env} (h : noSt e = true) : starEach (e :: es) env = (false, eval e env) :: starEach es env := by
  cases e <;> first | rfl | (simp [noSt] at h)
theorem ckAll_noSt {f : Expr → CE → Bool} : ∀ {es : List Expr} {cs : CEs}, ckAll f es cs = true → es.all noSt = true
  | [], _, _ => rfl
  | e :: es, .nil, h => by simp [ckAll] at h
  | e :: es, .cons c cs, h => by
    simp only [ckAll, Bool.and_eq_true] at h
    simp only [List.all_cons, Bool.and_eq_true]
    exact ⟨h.1.1, ckAll_noSt h.2⟩
theorem back_any {pos : Pos} {env : Env} : ∀ {es : List Expr}, es.all noSt = true → (backTo pos (starEach es env)).any (·.1) = false
  | [], _ => rfl
  | e :: es, h => by
    simp only [List.all_cons, Bool.and_eq_true] at h
    rw [starEach_cons h.1]
    show (false || (backTo pos (starEach es env)).any (·.1)) = false
    rw [back_any h.2]; rfl
theorem back_all {pos : Pos} {env : Env} : ∀ {es : List Expr}, es.all noSt = true → (backTo pos (starEach es env)).all (fun x => !x.1) = true
  | [], _ => rfl
  | e :: es, h => by
    simp only [List.all_cons, Bool.and_eq_true] at h
    rw [starEach_cons h.1]
    show (true && (backTo pos (starEach es env)).all (fun x => !x.1)) = true
    rw [back_all h.2]; rfl
theorem back_few {pos : Pos} {env : Env} {es : List Expr} (h : es.all noSt = true) (h30 : es.length < 30) :
    ((backTo pos (starEach es env)).all (fun x => !x.1) && (backToKw pos (keywordEach [] env)).all (fun x => x.1.isSome) && decide (es.length + ([] : List Keyword).length + (if ([] : List Keyword).isEmpty then 0 else 1) < 30)) = true := by
  rw [back_all h]
  show (true && true && decide (es.length + 0 + 0 < 30)) = true
  simpa using h30
theorem base_sup {o : Expr} {attr : Str} {env : Env} (h : noSup o = true) : attributeBase o attr env (eval o env) = eval o env := by
  unfold attributeBase
  split
  · simp [noSup] at h
  · rfl
theorem plain_ix {b : Expr} (h : noSlc b = true) : PlainIx b := fun o i => by
  cases b <;> first | rfl | (simp [noSlc] at h)
theorem mark_no {op : CmpOp} {b : Expr} (h : noSet b = true) : behindInMarks op b = false := by
  cases b <;> first | rfl | (simp [noSet] at h)
theorem fold_no {b : Expr} {env : Env} (h : noSet b = true) : ∀ x, foldedSetIterable b env x = pure x := fun x => by
  cases b <;> first | rfl | (simp [noSet] at h)
theorem plain_test {e : Expr} {env : Env} (h : plainT e = true) : ∀ whole, isTrue e env whole = (do let v ← whole; standAt e.pos; holding [v] (truthy v)) := fun whole => by
  cases e with
  | UnaryOp op x pos => cases op <;> first | rfl | (simp [plainT] at h)
  | BoolOp => simp [plainT] at h
  | IfExp => simp [plainT] at h
  | Compare => simp [plainT] at h
  | _ => rfl
theorem sw_no {e : Expr} {tg : Option Expr} {l : Nat} {env : Env} (h : noComp e = true) : swapsWith e tg l env = pure false := by
  cases e <;> first | rfl | (simp [noComp] at h)
theorem augS_no {i : Expr} (h : noSlc i = true) : ∀ ov iv new, augStore i ov iv new = (do holding [new, ov, iv] (setItem ov iv new); release [new, ov, iv] []; pure .next) := fun ov iv new => by
  cases i <;> first | rfl | (simp [noSlc] at h)
theorem assignEach_cons {e : Expr} {es : List Expr} {env : Env} (h : noSt e = true) : assignEach (e :: es) env = (false, assign e env) :: assignEach es env := by
  cases e <;> first | rfl | (simp [noSt] at h)
theorem assign_len {env : Env} : ∀ {es : List Expr}, es.all noSt = true → (assignEach es env).length = es.length ∧ (assignEach es env).findIdx? (·.1) = none
  | [], _ => ⟨rfl, rfl⟩
  | e :: es, h => by
    simp only [List.all_cons, Bool.and_eq_true] at h
    rw [assignEach_cons h.1]
    obtain ⟨h1, h2⟩ := assign_len (env := env) h.2
    refine ⟨by simp [h1], ?_⟩
    rw [List.findIdx?_cons]
    simp [h2]
theorem ckTs_noSt {f : Expr → CT → Bool} : ∀ {es : List Expr} {cs : CTs}, ckTs f es cs = true → es.all noSt = true
  | [], _, _ => rfl
  | e :: es, .nil, h => by simp [ckTs] at h
  | e :: es, .cons c cs, h => by
    simp only [ckTs, Bool.and_eq_true] at h
    simp only [List.all_cons, Bool.and_eq_true]
    exact ⟨h.1.1, ckTs_noSt h.2⟩

/-! ### the family of contexts -/
abbrev spI (K : PySem.W.Frag) (n : Nat) (run : List D → Mem → Res D) : Sp := fun vs H Q _ => vs.length = n ∧ ∃ ds m ρ, Rel K ρ m H ∧ RVs K ρ H ds vs ∧ Post K (RV K) ρ H Q (run ds m)
structure Fam (K : PySem.W.Frag) (mg : Str → Option Value) (Γ : Fn) (G : Str → Option D) (N : List Str) (k : Nat) (sc : Sc) (F : Cx → Prop) : Prop extends Few K F where
  eg : ∀ X, F X → X.mg = mg
  eN : ∀ X, F X → X.N = N
  nd : N.Nodup
  kind : ∀ X, F X → X.env.scope.kind = .function
  lk : ∀ X, F X → ∀ x, X.env.scope.names.lookup x = sc.lookup x ∨ (sc.lookup x = some .free ∧ X.env.scope.names.lookup x = some .cell)
  fn : ∀ X, F X → ∀ x, (sc.lookup x = some .local ∨ sc.lookup x = some .cell) → X.fn x = true ∨ X.env.scope.names.lookup x = some .local
  po : ∀ X, F X → PassesOwn (model X.prog X.w) X.A X.env X.xe
  room : ∀ X, F X → Room k X.A
  calls : ∀ f ds m, Γ f ds m ≠ .bad → ∃ a fd ps, ds.length = ps.length ∧ mg f = some (.ref a) ∧ PySem.W.keepIn K (.ref a) = true ∧ Binds K fd ps [] ∧ ∀ X, F X → FnOk X.prog X.w X.K X.mg X.base CX0 k a fd ps (spI K ps.length (Γ f))
  glob : ∀ x d, G x = some d → ∃ u v, mg x = some u ∧ RelV v u ∧ ∀ ρ H, RV K ρ H d v
  blt : ∀ x ∈ bltN, mg x = none

section
variable {K : PySem.W.Frag} {mg : Str → Option Value} {Γ : Fn} {G : Str → Option D} {N : List Str} {k : Nat} {sc : Sc} {F : Cx → Prop}
theorem Fam.vis (hF : Fam K mg Γ G N k sc F) {x : Str} (h : isVis sc x = true) {X : Cx} (hX : F X) : Vis X.env.scope x := by
  unfold isVis at h
  rcases hF.lk X hX x with e | ⟨_, e⟩
  · unfold Vis; rw [e]
    split at h <;> simp_all
  · exact .inr (.inl e)
theorem Fam.loc (hF : Fam K mg Γ G N k sc F) {x : Str} (h : isLoc sc x = true) {X : Cx} (hX : F X) : L2.Loc X.env.scope x ∧ (X.fn x = true ∨ X.env.scope.names.lookup x = some .local) := by
  unfold isLoc at h
  have h' : sc.lookup x = some .local ∨ sc.lookup x = some .cell := by split at h <;> simp_all
  refine ⟨?_, hF.fn X hX x h'⟩
  rcases hF.lk X hX x with e | ⟨e1, e2⟩
  · unfold L2.Loc; rw [e]; exact h'
  · exact .inr e2
theorem isLocal_eq {x : Str} (h : isLocal sc x = true) : sc.lookup x = some .local := by
  unfold isLocal at h; split at h <;> simp_all
theorem Fam.local_ (hF : Fam K mg Γ G N k sc F) {x : Str} (h : isLocal sc x = true) {X : Cx} (hX : F X) : X.env.scope.names.lookup x = some .local := by
  rcases hF.lk X hX x with e | ⟨e1, e2⟩
  · rw [e]; exact isLocal_eq h
  · rw [isLocal_eq h] at e1; cases e1
theorem Fam.gl (hF : Fam K mg Γ G N k sc F) {x : Str} (h : isGl sc x = true) {X : Cx} (hX : F X) : Gl X x := by
  have h' : sc.lookup x = some .globalImplicit := by unfold isGl at h; split at h <;> simp_all
  unfold Gl Env.kindOf
  rcases hF.lk X hX x with e | ⟨e1, e2⟩
  · rw [e]; exact h'
  · rw [h'] at e1; cases e1
theorem nDebug_1 {x : Str} (h : nDebug x = true) : (x == ("__debug__" : Str)) = false ∧ (x == ("__classdict__" : Str)) = false := by
  unfold nDebug at h
  simp only [Bool.and_eq_true, Bool.not_eq_true'] at h
  exact h

/-- the boolean test's relation -/
abbrev RB : List Addr → Hp → Bool → Bool → Prop := fun _ _ a b => a = b
abbrev RI (ρ : List Addr) (H : Hp) (a : Option Int) (b : Option Int) : Prop := a = b
/-- what is walked -/
structure RIt (K : PySem.W.Frag) (ρ : List Addr) (H : Hp) (p : Itr) (J : It) : Prop where
  ex : ∃ (Gd : Hp → Prop) (Y : Nat → Hp → V → Hp → Prop), Walk J p.1.length Gd Y ∧
    (∀ ρ' m' H', Rel K ρ' m' H' → ρ <+: ρ' → Ext H H' → guardOk p.2 m' → Gd H') ∧
    ∀ i H1 x H2 ρ1 m1, i < p.1.length → Rel K ρ1 m1 H1 → ρ <+: ρ1 → Ext H H1 → guardOk p.2 m1 → Y i H1 x H2 → Rel K ρ1 m1 H2 ∧ Ext H1 H2 ∧ (∀ a ∈ ρ1, H2 a = H1 a) ∧ ∃ d, p.1[i]? = some d ∧ RV K ρ1 H2 d x
abbrev RLp (K : PySem.W.Frag) (P : L2.St → Prop) (ρ : List Addr) (H : Hp) (σ : Loc) (σV : L2.St) : Prop := RL K ρ H σ σV ∧ P σV

/-- the soundness at a fuel -/
structure Snd (K : PySem.W.Frag) (mg : Str → Option Value) (Γ : Fn) (G : Str → Option D) (N : List Str) (k n : Nat) : Prop where
  sE : ∀ {sc F}, Fam K mg Γ G N k sc F → ∀ {e ce}, ckE N n sc e ce = true → ∀ {σ m ρ σV H Q}, Rel K ρ m H → RL K ρ H σ σV → Post K (RV K) ρ H Q (dE Γ G ce σ m) → bE F e σV H Q
  sB : ∀ {sc F}, Fam K mg Γ G N k sc F → ∀ {e ce}, ckB N n sc e ce = true → ∀ {σ m ρ σV H Q}, Rel K ρ m H → RL K ρ H σ σV → Post K RB ρ H Q (dB Γ G ce σ m) → bT F e σV H Q
  sBO : ∀ {sc F}, Fam K mg Γ G N k sc F → ∀ {es ce}, ckBO N n sc es ce = true → ∀ {σ m ρ σV H Q}, Rel K ρ m H → RL K ρ H σ σV → Post K RB ρ H Q (dBO Γ G ce σ m) → bTs F es σV H Q
  sI : ∀ {sc F}, Fam K mg Γ G N k sc F → ∀ {tg e ce}, ckI N n sc tg e ce = true → ∀ {σ m ρ σV H R}, Rel K ρ m H → RL K ρ H σ σV → Post K (RIt K) ρ H R (dI Γ G ce σ m) → bI F tg e σV H R
  sT : ∀ {sc F}, Fam K mg Γ G N k sc F → ∀ {t ct}, ckT N n sc t ct = true → ∀ {d v σ m ρ σV H Q} (P : L2.St → Prop), (∀ i v s, tgtHas ct i = true → P s → P (s.set i (some v))) → P σV → Rel K ρ m H → RL K ρ H σ σV → RV K ρ H d v →
    Post K (RLp K P) ρ H Q (dT Γ G ct d σ m) → bG F t v σV H Q

/-! ### lists of parts, given the parts -/
abbrev SndE (K : PySem.W.Frag) (Γ : Fn) (G : Str → Option D) (F : Cx → Prop) (f : Expr → CE → Bool) : Prop :=
  ∀ {e ce}, f e ce = true → ∀ {σ m ρ σV H Q}, Rel K ρ m H → RL K ρ H σ σV → Post K (RV K) ρ H Q (dE Γ G ce σ m) → bE F e σV H Q
theorem args_ok {f : Expr → CE → Bool} (hE : SndE K Γ G F f) : ∀ {es : List Expr} {cs : CEs}, ckAll f es cs = true → ∀ {σ m ρ σV H} {Q : List V → Hp → Prop}, Rel K ρ m H → RL K ρ H σ σV → Post K (RVs K) ρ H Q (dEs Γ G cs σ m) → bA F es σV H Q
  | [], .nil, _, σ, m, ρ, σV, H, Q, R, rl, h => ⟨_, fun X _ => pa_nil, Post.ok (a := ([] : List D)) (by simpa only [dEs] using h) R (by simp [RVs])⟩
  | [], .cons _ _, h, _, _, _, _, _, _, _, _, _ => by simp [ckAll] at h
  | e :: es, .nil, h, _, _, _, _, _, _, _, _, _ => by simp [ckAll] at h
  | e :: es, .cons c cs, hc, σ, m, ρ, σV, H, Q, R, rl, h => by
    simp only [ckAll, Bool.and_eq_true] at hc
    simp only [dEs] at h
    refine ⟨tCons (bE F e) (bA F es), fun X hX => pa_cons (bE_ok hX e) (bA_ok hX es) (starEach_cons hc.1.1), ?_⟩
    refine hE hc.1.2 R rl (h.bind fun d m1 ρ1 H1 v R1 p1 x1 r1 h1 => ?_)
    refine args_ok hE hc.2 R1 (rl.mono p1 x1) (h1.bind fun ds m2 ρ2 H2 vs R2 p2 x2 r2 h2 => ?_)
    exact Post.ok h2 R2 (by simp only [RVs]; exact ⟨v, vs, rfl, r1.mono p2 x2, r2⟩)
theorem opt_ok {f : Expr → CE → Bool} (hE : SndE K Γ G F f) : ∀ {e : Option Expr} {c : CO}, ckOp f e c = true → ∀ {σ m ρ σV H} {Q : Option Int → Hp → Prop}, Rel K ρ m H → RL K ρ H σ σV → Post K RI ρ H Q (dO Γ G c σ m) → bO F e σV H Q
  | none, .none, _, σ, m, ρ, σV, H, Q, R, rl, h => ⟨_, fun X _ => po_none, Post.ok (a := (none : Option Int)) (by simpa only [dO] using h) R rfl⟩
  | none, .some _, h, _, _, _, _, _, _, _, _, _ => by simp [ckOp] at h
  | some _, .none, h, _, _, _, _, _, _, _, _, _ => by simp [ckOp] at h
  | some e, .some c, hc, σ, m, ρ, σV, H, Q, R, rl, h => by
    simp only [ckOp] at hc
    simp only [dO] at h
    refine ⟨tPart (bE F e), fun X hX => po_some (bE_ok hX e), ?_⟩
    refine hE hc R rl (h.bind fun d m1 ρ1 H1 v R1 p1 x1 r1 h1 => ?_)
    split at h1
    · simp only [RV] at r1; subst r1; exact ⟨_, rfl, h1.ok R1 rfl⟩
    · exact h1.elim

/-! ### truth -/
theorem tru_rel {ρ : List Addr} {m : Mem} {H : Hp} {d : D} {v : V} {b : Bool} (R : Rel K ρ m H) (r : RV K ρ H d v) (h : truD m d = some b) : TruV K v H b := by
  cases d with
  | none => simp only [RV] at r; subst r; simp only [truD, Option.some.injEq] at h; exact h.symm
  | bool c => simp only [RV] at r; subst r; simp only [truD, Option.some.injEq] at h; exact h.symm
  | int c => simp only [RV] at r; subst r; simp only [truD, Option.some.injEq] at h; exact h.symm
  | str c =>
    simp only [RV] at r; subst r; simp only [truD] at h
    split at h
    · rename_i hl; cases h; exact ⟨hl, rfl⟩
    · cases h
  | tup xs =>
    simp only [RV] at r
    obtain ⟨a, vs, rfl, h2, h3⟩ := r
    simp only [truD, Option.some.injEq] at h
    refine .inr (.inl ⟨vs, h2, ?_⟩)
    rw [← h]
    cases xs <;> cases vs <;> simp_all [RVs]
  | kl xs =>
    simp only [RV] at r
    obtain ⟨a, vs, rfl, h2, h3⟩ := r
    simp only [truD, Option.some.injEq] at h
    refine .inl ⟨vs, h2.sq, ?_⟩
    rw [← h]
    cases xs <;> cases vs <;> simp_all [RVs]
  | ref n =>
    simp only [RV] at r
    obtain ⟨a, ha, rfl⟩ := r
    obtain ⟨o, ho, ro⟩ := R.there ha
    simp only [truD, ho] at h
    cases o with
    | lst xs =>
      obtain ⟨vs, h1, h2⟩ := ro
      simp only [Option.some.injEq] at h
      refine .inl ⟨vs, SqL.of h1, ?_⟩
      rw [← h]
      cases xs <;> cases vs <;> simp_all [RVs]
    | dk kvs =>
      obtain ⟨ws, h1, h2⟩ := ro
      simp only [Option.some.injEq] at h
      refine .inr (.inr ⟨ws, h1, ?_⟩)
      rw [← h]
      cases kvs with
      | nil => rw [show ws = [] from h2]; rfl
      | cons p ps => obtain ⟨v, r, e, _⟩ := h2; rw [e]; rfl
    | dt kvs => simp at h
theorem and_or_ok {f : Expr → CE → Bool} (hE : SndE K Γ G F f) (hK : ∀ X, F X → X.K = K) {op : BoolOp} {pos : Pos} : ∀ {es : List Expr} {c : CE}, ckBsV f op es c = true → ∀ {σ m ρ σV H Q}, Rel K ρ m H → RL K ρ H σ σV → Post K (RV K) ρ H Q (dE Γ G c σ m) → bE F (.BoolOp op es pos) σV H Q
  | [], c, h, _, _, _, _, _, _, _, _, _ => by cases c <;> simp [ckBsV] at h
  | [e], c, hc, σ, m, ρ, σV, H, Q, R, rl, h => by
    refine ⟨bE F e, fun X hX => pe_one (bE_ok hX e), hE ?_ R rl h⟩
    unfold ckBsV at hc; exact hc
  | e :: e2 :: es, c, hc, σ, m, ρ, σV, H, Q, R, rl, h => by
    cases c with
    | and x y =>
      simp only [ckBsV, Bool.and_eq_true] at hc
      have hop : op = .And := by revert hc; cases op <;> simp
      subst hop
      simp only [dE] at h
      refine ⟨tAndT K (bE F e) (bE F (.BoolOp .And (e2 :: es) pos)), fun X hX => hK X hX ▸ pe_andT (bE_ok hX e) (bE_ok hX _), ?_⟩
      refine hE hc.1.2 R rl (h.bind fun d m1 ρ1 H1 v R1 p1 x1 r1 h1 => ?_)
      cases e : truD m1 d with
      | none => rw [e] at h1; exact h1.elim
      | some b =>
        rw [e] at h1
        refine ⟨b, tru_rel R1 r1 e, ?_⟩
        cases b with
        | true => exact and_or_ok hE hK hc.2 R1 (rl.mono p1 x1) h1
        | false => exact h1.ok R1 r1
    | or x y =>
      simp only [ckBsV, Bool.and_eq_true] at hc
      have hop : op = .Or := by revert hc; cases op <;> simp
      subst hop
      simp only [dE] at h
      refine ⟨tOrT K (bE F e) (bE F (.BoolOp .Or (e2 :: es) pos)), fun X hX => hK X hX ▸ pe_orT (bE_ok hX e) (bE_ok hX _), ?_⟩
      refine hE hc.1.2 R rl (h.bind fun d m1 ρ1 H1 v R1 p1 x1 r1 h1 => ?_)
      cases e : truD m1 d with
      | none => rw [e] at h1; exact h1.elim
      | some b =>
        rw [e] at h1
        refine ⟨b, tru_rel R1 r1 e, ?_⟩
        cases b with
        | true => exact h1.ok R1 r1
        | false => exact and_or_ok hE hK hc.2 R1 (rl.mono p1 x1) h1
    | _ => simp [ckBsV] at hc
def bW (F : Cx → Prop) (e : Expr) : TT := fun σ H Q => ∃ t, (∀ X, F X → PW X e t) ∧ t σ H Q
theorem bW_ok {X : Cx} (h : F X) (e : Expr) : PW X e (bW F e) := ⟨fun wh pins s σ H Q I ⟨_, ht, q⟩ => (ht X h).run wh pins s σ H Q I q⟩
abbrev SndB (K : PySem.W.Frag) (Γ : Fn) (G : Str → Option D) (F : Cx → Prop) (f : Expr → CB → Bool) : Prop :=
  ∀ {e ce}, f e ce = true → ∀ {σ m ρ σV H Q}, Rel K ρ m H → RL K ρ H σ σV → Post K RB ρ H Q (dB Γ G ce σ m) → bT F e σV H Q
theorem and_or_t {f : Expr → CB → Bool} (hE : SndB K Γ G F f) {op : BoolOp} {pos : Pos} : ∀ {es : List Expr} {c : CB}, ckBsT f op es c = true → ∀ {σ m ρ σV H Q}, Rel K ρ m H → RL K ρ H σ σV → Post K RB ρ H Q (dB Γ G c σ m) → bW F (.BoolOp op es pos) σV H Q
  | [], c, h, _, _, _, _, _, _, _, _, _ => by cases c <;> simp [ckBsT] at h
  | [e], c, hc, σ, m, ρ, σV, H, Q, R, rl, h => by
    refine ⟨bT F e, fun X hX => ?_, hE (by unfold ckBsT at hc; exact hc) R rl h⟩
    cases op
    · exact pw_and1 (bT_ok hX e)
    · exact pw_or1 (bT_ok hX e)
  | e :: e2 :: es, c, hc, σ, m, ρ, σV, H, Q, R, rl, h => by
    cases c with
    | and x y =>
      simp only [ckBsT, Bool.and_eq_true] at hc
      have hop : op = .And := by revert hc; cases op <;> simp
      subst hop
      simp only [dB] at h
      refine ⟨tAnd (bT F e) (bW F (.BoolOp .And (e2 :: es) pos)), fun X hX => pw_and (bT_ok hX e) (bW_ok hX _), ?_⟩
      refine hE hc.1.2 R rl (h.bind fun b m1 ρ1 H1 v R1 p1 x1 r1 h1 => ?_)
      subst r1
      cases b with
      | true => exact and_or_t hE hc.2 R1 (rl.mono p1 x1) h1
      | false => exact h1.ok R1 rfl
    | or x y =>
      simp only [ckBsT, Bool.and_eq_true] at hc
      have hop : op = .Or := by revert hc; cases op <;> simp
      subst hop
      simp only [dB] at h
      refine ⟨tOr (bT F e) (bW F (.BoolOp .Or (e2 :: es) pos)), fun X hX => pw_or (bT_ok hX e) (bW_ok hX _), ?_⟩
      refine hE hc.1.2 R rl (h.bind fun b m1 ρ1 H1 v R1 p1 x1 r1 h1 => ?_)
      subst r1
      cases b with
      | true => exact h1.ok R1 rfl
      | false => exact and_or_t hE hc.2 R1 (rl.mono p1 x1) h1
    | _ => simp [ckBsT] at hc
end
end PC

namespace PC
open PySem L2 Classical
theorem boot_bi (b : BI) : bootBuiltins b.name = some b.val := by
  cases b <;> decide +kernel
theorem name_bi (b : BI) : b.name ∈ bltN := by cases b <;> decide +kernel
theorem nn_bi (b : BI) : b.name ≠ "__name__" ∧ (b.name == ("__debug__" : Str)) = false := by cases b <;> decide +kernel
theorem typ_boot {T : String} (h : typN T = true) : bootBuiltins (Str.ofString T) = some (.type T) ∧ Str.ofString T ∈ bltN ∧ Str.ofString T ≠ "__name__" ∧ (Str.ofString T == ("__debug__" : Str)) = false := by
  simp only [typN, Bool.or_eq_true, beq_iff_eq] at h
  rcases h with (((rfl | rfl) | rfl) | rfl) | rfl <;> decide +kernel
theorem typ_kit {T T' : String} (h : typN T = true) (h' : T' = "NoneType" ∨ T' = "bool" ∨ T' = "int" ∨ T' = "str" ∨ T' = "tuple" ∨ T' = "list") : ∃ b, kitB T' T = some b ∧
    (T' = "NoneType" → b = false) ∧ (T' = "bool" → b = (T == "int" || T == "bool")) ∧ (T' = "int" → b = (T == "int")) ∧ (T' = "str" → b = (T == "str")) ∧ (T' = "tuple" → b = (T == "tuple")) ∧ (T' = "list" → b = (T == "list")) := by
  simp only [typN, Bool.or_eq_true, beq_iff_eq] at h
  rcases h with (((rfl | rfl) | rfl) | rfl) | rfl <;> rcases h' with rfl | rfl | rfl | rfl | rfl | rfl <;>
    first
    | exact ⟨true, by decide +kernel, by decide, by decide, by decide, by decide, by decide, by decide⟩
    | exact ⟨false, by decide +kernel, by decide, by decide, by decide, by decide, by decide, by decide⟩
section
variable {K : PySem.W.Frag} {mg : Str → Option Value} {Γ : Fn} {G : Str → Option D} {N : List Str} {k n : Nat} {sc : Sc} {F : Cx → Prop} {ρ : List Addr} {H : Hp} {m : Mem}
theorem isin_ok {T : String} (ht : typN T = true) {d : D} {v : V} {b : Bool} (R : Rel K ρ m H) (r : RV K ρ H d v) (h : isinD m T d = some b) :
    ∃ t, TyX K H v t ∧ PySem.W.kitOne K t (.type T) = some b := by
  cases d with
  | none =>
    simp only [RV] at r; subst r; simp only [isinD, Option.some.injEq] at h; subst h
    obtain ⟨b, hb, h1, _⟩ := typ_kit (T' := "NoneType") ht (.inl rfl)
    rw [h1 rfl] at hb
    exact ⟨_, .base .non, kit_ty hb⟩
  | bool c =>
    simp only [RV] at r; subst r; simp only [isinD, Option.some.injEq] at h; subst h
    obtain ⟨b, hb, _, h1, _⟩ := typ_kit (T' := "bool") ht (by simp)
    rw [h1 rfl] at hb
    exact ⟨_, .base (.bl c), kit_ty hb⟩
  | int c =>
    simp only [RV] at r; subst r; simp only [isinD, Option.some.injEq] at h; subst h
    obtain ⟨b, hb, _, _, h1, _⟩ := typ_kit (T' := "int") ht (by simp)
    rw [h1 rfl] at hb
    exact ⟨_, .base (.int c), kit_ty hb⟩
  | str c =>
    simp only [RV] at r; subst r; simp only [isinD, Option.some.injEq] at h; subst h
    obtain ⟨b, hb, _, _, _, h1, _⟩ := typ_kit (T' := "str") ht (by simp)
    rw [h1 rfl] at hb
    exact ⟨_, .base (.str c), kit_ty hb⟩
  | tup xs =>
    simp only [RV] at r
    obtain ⟨a, vs, rfl, h2, h3⟩ := r
    simp only [isinD, Option.some.injEq] at h; subst h
    obtain ⟨b, hb, _, _, _, _, h1, _⟩ := typ_kit (T' := "tuple") ht (by simp)
    rw [h1 rfl] at hb
    refine ⟨.type "tuple", ?_, kit_ty hb⟩
    rcases h2 with (h2 | ⟨o, h2⟩) | ⟨o, its, nn, h2, h4, _⟩
    · exact .base (.tup h2)
    · exact .fTuple h2
    · exact .kTuple h2 h4
  | kl xs =>
    simp only [RV] at r
    obtain ⟨a, vs, rfl, h2, h3⟩ := r
    simp only [isinD, Option.some.injEq] at h; subst h
    obtain ⟨b', hb, _, _, _, _, _, h1⟩ := typ_kit (T' := "list") ht (by simp)
    rw [h1 rfl] at hb
    refine ⟨.type "list", ?_, kit_ty hb⟩
    rcases h2 with ⟨o, h2⟩ | ⟨o, its, nn, h2, h4, _⟩
    · exact .base (.frz h2)
    · exact .kList h2 h4
  | ref j =>
    simp only [RV] at r
    obtain ⟨a, ha, rfl⟩ := r
    obtain ⟨o, ho, ro⟩ := R.there ha
    simp only [isinD, ho] at h
    obtain ⟨b', hb, _, _, _, _, _, h1⟩ := typ_kit (T' := "list") ht (by simp)
    rw [h1 rfl] at hb
    cases o with
    | lst xs =>
      obtain ⟨vs, k1, k2⟩ := ro
      simp only [Option.some.injEq] at h; subst h
      exact ⟨.type "list", .base (.lst k1), kit_ty hb⟩
    | dk kvs => simp at h
    | dt kvs => simp at h
theorem lit_ok {c : Const} {d : D} (h : litOk c d = true) {j : Nat} {pos : Pos} : ∃ v, (∀ X, PE X (.Constant c j pos) (tC v)) ∧ ∀ ρ H, RV K ρ H d v := by
  unfold litOk at h
  split at h
  · exact ⟨_, fun X => pe_non, fun ρ H => by simp only [RV]⟩
  · rename_i b c; have : b = c := by simpa using h
    subst this; exact ⟨_, fun X => pe_bl, fun ρ H => by simp only [RV]⟩
  · rename_i b c; have : b = c := by simpa using h
    subst this; exact ⟨_, fun X => pe_int, fun ρ H => by simp only [RV]⟩
  · rename_i b c; have : b = c := by simpa using h
    subst this; exact ⟨_, fun X => pe_str, fun ρ H => by simp only [RV]⟩
  · cases h
/-! methods -/
theorem bm0_ok (hF : Fam K mg Γ G N k sc F) {T id : String} {name : Str} (pa : PlainAttrs T) (slot : Slot T name id) (hty : typeOf (.builtin id) = pure (.type "method_descriptor")) {o : Expr} {ap cp : Pos} (hs : noSup o = true) (hl : (ap.endLine == cp.line) = true)
    {σV : L2.St} {Q : VK} (q : bE F o σV H fun x H1 => tyV K T x H1 ∧ bMt F id x [] H1 Q) : bE F (.Call (.Attribute o name ap) [] [] cp) σV H Q :=
  ⟨tBM0 K T (bMt F id) (bE F o), fun X hX => hF.eK X hX ▸ pe_bm0 pa slot hty (bMt_ok hX id) (bE_ok hX o) (base_sup hs) hl, q⟩
theorem bm_ok (hF : Fam K mg Γ G N k sc F) {T id : String} {name : Str} (pa : PlainAttrs T) (slot : Slot T name id) (hty : typeOf (.builtin id) = pure (.type "method_descriptor")) {o e : Expr} {es : List Expr} {ap cp : Pos} (hs : noSup o = true) (hl : (ap.endLine == cp.line) = true)
    (hns : (e :: es).all noSt = true) (h30 : (e :: es).length < 30) {σV : L2.St} {Q : VK} (q : bE F o σV H fun x H1 => tyV K T x H1 ∧ bA F (e :: es) σV H1 fun xs H2 => bMt F id x xs H2 Q) : bE F (.Call (.Attribute o name ap) (e :: es) [] cp) σV H Q := by
  have h2 := hns
  simp only [List.all_cons, Bool.and_eq_true] at h2
  exact ⟨tBM K T (bMt F id) (bE F o) (bA F (e :: es)), fun X hX => hF.eK X hX ▸ pe_bm pa slot hty (bMt_ok hX id) (bE_ok hX o) (bA_ok hX (e :: es)) (base_sup hs) (back_few hns h30) hl (starEach_cons h2.1) (back_any h2.2), q⟩
def MT.ty : MT → String
  | .bitLength => "int" | .split => "str" | .join => "str" | _ => "list"
def MT.id : MT → String
  | .append => "list.append" | .pop => "list.pop" | .popAt => "list.pop" | .extend => "list.extend" | .bitLength => "int.bit_length"
  | .split => "str.split" | .join => "str.join" | .insert => "list.insert" | .reverse => "list.reverse" | .index => "list.index"
theorem mt_facts {g : MT} (hg : g ≠ .bitLength) : PlainAttrs g.ty ∧ Slot g.ty g.name g.id ∧ typeOf (.builtin g.id) = pure (.type "method_descriptor") := by
  cases g
  · exact ⟨PySem.F.plainAttrs_list, PySem.F.slot_list_append, PySem.F.type_list_append⟩
  · exact ⟨PySem.F.plainAttrs_list, PySem.F.slot_list_pop, PySem.F.type_list_pop⟩
  · exact ⟨PySem.F.plainAttrs_list, PySem.F.slot_list_pop, PySem.F.type_list_pop⟩
  · exact ⟨PySem.F.plainAttrs_list, PySem.F.slot_list_extend, PySem.F.type_list_extend⟩
  · exact absurd rfl hg
  · exact ⟨PySem.F.plainAttrs_str, PySem.F.slot_str_split, PySem.F.type_str_split⟩
  · exact ⟨PySem.F.plainAttrs_str, PySem.F.slot_str_join, PySem.F.type_str_join⟩
  · exact ⟨PySem.F.plainAttrs_list, PySem.F.slot_list_insert, PySem.F.type_list_insert⟩
  · exact ⟨PySem.F.plainAttrs_list, PySem.F.slot_list_reverse, PySem.F.type_list_reverse⟩
  · exact ⟨PySem.F.plainAttrs_list, PySem.F.slot_list_index, PySem.F.type_list_index⟩
theorem mt_ty {g : MT} (hg : g ≠ .bitLength) {d : D} {v : V} (R : Rel K ρ m H) (r : RV K ρ H d v) (hp : mtPre g d m = true) : tyV K g.ty v H := by
  by_cases hst : g = .split ∨ g = .join
  · have ht : g.ty = "str" := by rcases hst with rfl | rfl <;> rfl
    rw [ht]
    cases d with
    | str s => simp only [RV] at r; subst r; rfl
    | _ => rcases hst with rfl | rfl <;> simp [mtPre] at hp
  have ht : g.ty = "list" := by cases g <;> first | rfl | exact absurd rfl hg | exact absurd (.inl rfl) hst | exact absurd (.inr rfl) hst
  rw [ht]
  cases d with
  | ref j =>
    simp only [RV] at r
    obtain ⟨a, h1, rfl⟩ := r
    have : ∃ xs, m[j]? = some (.lst xs) := by
      unfold mtPre at hp
      cases g <;> first | (exact absurd rfl hg) | (exact absurd (.inl rfl) hst) | (exact absurd (.inr rfl) hst) | (simp only at hp; split at hp <;> first | exact ⟨_, by assumption⟩ | cases hp)
    obtain ⟨xs, e⟩ := this
    obtain ⟨vs, k1, _⟩ := R.lst e h1
    exact .inl ⟨rfl, vs, SqL.of k1⟩
  | _ => cases g <;> first | (exact absurd (.inl rfl) hst) | (exact absurd (.inr rfl) hst) | simp_all [mtPre]
theorem seqIndex_ix {n : Nat} {i : Int} {j : Nat} (h : ixN n i = some j) : seqIndex? i n = some j := (ixN_seq h).1
theorem strs_rv : ∀ ys : List Str, RVs K ρ H (ys.map D.str) (ys.map V.str)
  | [] => by simp only [List.map_nil, RVs]
  | y :: ys => by simp only [List.map_cons, RVs]; exact ⟨_, _, rfl, by simp only [RV], strs_rv ys⟩
theorem RVs.strs : ∀ {ds : List D} {vs : List V} {ns : List Str}, RVs K ρ H ds vs → strsD ds = some ns → vs = ns.map V.str
  | [], _, _, h, q => by simp only [RVs] at h; simp only [strsD, Option.some.injEq] at q; subst q; exact h
  | d :: ds, vs, ns, h, q => by
    simp only [RVs] at h
    obtain ⟨v, ws, rfl, h2, h3⟩ := h
    cases d with
    | str i =>
      simp only [strsD] at q
      cases e : strsD ds with
      | none => rw [e] at q; simp at q
      | some r =>
        rw [e] at q; simp at q; subst q
        simp only [RV] at h2
        rw [h2, RVs.strs h3 e]; rfl
    | _ => simp [strsD] at q
theorem mt_rule (hF : Few K F) {g : MT} (hg : g ≠ .bitLength) {d : D} {ds : List D} {v : V} {vs : List V} {Q : VK} (R : Rel K ρ m H) (r : RV K ρ H d v) (rs : RVs K ρ H ds vs) (h : Post K (RV K) ρ H Q (mtD g d ds m)) : bMt F g.id v vs H Q := by
  unfold mtD at h
  split at h
  case h_1 =>
    obtain ⟨w, rfl, rw'⟩ := rs.one_inv
    split at h
    · rename_i xs e
      split at h
      · rename_i hl
        simp only [RV] at r
        obtain ⟨a, ha, rfl⟩ := r
        obtain ⟨us, h1, h2⟩ := R.lst e ha
        obtain ⟨R', X'⟩ := R.writeL ha h1 (h2.app (RVs.one rw'))
        exact ⟨_, fun X _ => mt_append, a, us, w, rfl, rfl, h1, by rw [h2.len]; exact hl, h _ _ _ R' (List.prefix_refl _) X' (by simp [RV])⟩
      · exact h.elim
    · exact h.elim
  case h_2 =>
    obtain ⟨w, rfl, rw'⟩ := rs.one_inv
    split at h
    · rename_i xs ys e e2
      split at h
      · rename_i hl
        simp only [RV] at r rw'
        obtain ⟨a, ha, rfl⟩ := r
        obtain ⟨b, hb, rfl⟩ := rw'
        obtain ⟨us, h1, h2⟩ := R.lst e ha
        obtain ⟨ws, k1, k2⟩ := R.lst e2 hb
        obtain ⟨R', X'⟩ := R.writeL ha h1 (h2.app k2)
        exact ⟨_, fun X _ => mt_extend, a, b, us, ws, rfl, rfl, h1, k1, by rw [h2.len, k2.len]; exact hl, h _ _ _ R' (List.prefix_refl _) X' (by simp [RV])⟩
      · exact h.elim
    · exact h.elim
  case h_3 =>
    have := rs.nil_inv
    subst this
    split at h
    · rename_i xs e
      split at h
      · rename_i y ey
        simp only [RV] at r
        obtain ⟨a, ha, rfl⟩ := r
        obtain ⟨us, h1, h2⟩ := R.lst e ha
        obtain ⟨R', X'⟩ := R.writeL ha h1 h2.dropLast
        obtain ⟨u, eu, ru⟩ := h2.get ey
        exact ⟨_, fun X _ => mt_pop, a, us, u, rfl, rfl, h1, by rw [h2.len]; exact eu, h _ _ _ R' (List.prefix_refl _) X' (ru.mono (List.prefix_refl _) X')⟩
      · exact h.elim
    · exact h.elim
  case h_4 =>
    obtain ⟨w, rfl, rw'⟩ := rs.one_inv
    split at h
    · rename_i xs e
      split at h
      · rename_i hl
        split at h
        · rename_i j ej
          split at h
          · rename_i y ey
            simp only [RV] at r rw'
            subst rw'
            obtain ⟨a, ha, rfl⟩ := r
            obtain ⟨us, h1, h2⟩ := R.lst e ha
            obtain ⟨R', X'⟩ := R.writeL ha h1 (h2.erase j)
            obtain ⟨u, eu, ru⟩ := h2.get ey
            exact ⟨_, fun X _ => mt_popAt, a, us, _, j, u, rfl, rfl, h1, hl.1, hl.2, by rw [h2.len]; exact seqIndex_ix ej, eu, h _ _ _ R' (List.prefix_refl _) X' (ru.mono (List.prefix_refl _) X')⟩
          · exact h.elim
        · exact h.elim
      · exact h.elim
    · exact h.elim
  case h_5 => exact absurd rfl hg
  case h_6 =>
    obtain ⟨w, rfl, rw'⟩ := rs.one_inv
    simp only [RV] at r rw'
    subst r
    subst rw'
    split at h
    · rename_i hl
      exact ⟨_, fun X _ => mt_split, _, _, rfl, rfl, by simpa using hl.1, hl.2, fun p hp => post_newL (vs := List.map V.str _) R (strs_rv _) h p hp⟩
    · exact h.elim
  case h_7 =>
    obtain ⟨w, rfl, rw'⟩ := rs.one_inv
    simp only [RV] at r
    subst r
    split at h
    · rename_i ys e
      obtain ⟨xs, e1, e2⟩ := Option.bind_eq_some_iff.mp e
      obtain ⟨p, us, rfl, rx, hk⟩ := rw'.seq R e1
      have := rx.strs e2
      subst this
      split at h
      · rename_i hl
        refine ⟨fun x xs H Q => ∃ a p, ∃ ys : List Str, x = .str a ∧ xs = [.ref p] ∧ (SqL K H p (ys.map V.str) ∨ SqT K H p (ys.map V.str)) ∧ (ys.map (·.length)).sum + ys.length * a.length ≤ 16777216 ∧ Q (.str (Txt.join a ys)) H, fun X hX => hF.eK X hX ▸ (mt_join (X := X)), _, p, ys, rfl, rfl, ?_, hl, h.ok R (by simp only [RV])⟩
        rcases hk with ⟨_, _, hk⟩ | ⟨_, hk⟩
        · exact .inl hk
        · exact .inr hk
      · exact h.elim
    · exact h.elim
  case h_8 =>
    obtain ⟨w, w2, rfl, rw', rw2⟩ := rs.two_inv
    split at h
    · rename_i xs e
      split at h
      · rename_i hl
        simp only [RV] at r rw'
        subst rw'
        obtain ⟨a, ha, rfl⟩ := r
        obtain ⟨us, h1, h2⟩ := R.lst e ha
        obtain ⟨R', X'⟩ := R.writeL ha h1 (((h2.take _).app (RVs.one rw2)).app (h2.drop _))
        exact ⟨_, fun X _ => mt_insert, a, us, _, w2, rfl, rfl, h1, by rw [h2.len]; exact hl.1, hl.2.1, hl.2.2, h _ _ _ R' (List.prefix_refl _) X' (by simp [RV])⟩
      · exact h.elim
    · exact h.elim
  case h_9 =>
    have := rs.nil_inv
    subst this
    split at h
    · rename_i xs e
      simp only [RV] at r
      obtain ⟨a, ha, rfl⟩ := r
      obtain ⟨us, h1, h2⟩ := R.lst e ha
      obtain ⟨R', X'⟩ := R.writeL ha h1 h2.rev
      exact ⟨_, fun X _ => mt_reverse, a, us, rfl, rfl, h1, h _ _ _ R' (List.prefix_refl _) X' (by simp [RV])⟩
    · exact h.elim
  case h_10 =>
    obtain ⟨w, rfl, rw'⟩ := rs.one_inv
    split at h
    · rename_i ds z e1 e2
      split at h
      · rename_i hl
        split at h
        · rename_i j ej
          obtain ⟨q1, _⟩ := pyOf_dp R r e1
          obtain ⟨q2, _⟩ := pyOf_dp R rw' e2
          simp only [RV] at r
          obtain ⟨a, ha, rfl⟩ := r
          obtain ⟨hj, k1, k2⟩ := List.findIdx?_eq_some_iff_getElem.mp ej
          refine ⟨rIndexD K, fun X hX => hF.eK X hX ▸ mt_indexD (X := X) (by have := hF.un X hX; omega), a, w, z, ds, j, ds[j], rfl, rfl, q1, q2, hl.1, hl.2, List.getElem?_eq_getElem hj, k1, fun i z' hi hz => ?_, h.ok R (by simp only [RV])⟩
          have hz' : z' = ds[i]'(by omega) := by
            have := (List.getElem?_eq_some_iff.mp hz).2
            exact this.symm
          have := k2 i hi
          rw [hz']
          simpa using this
        · exact h.elim
      · exact h.elim
    · exact h.elim
  case h_11 => exact h.elim
theorem meth_ok (hF : Fam K mg Γ G N k sc F) {f : Expr → CE → Bool} (hE : SndE K Γ G F f) {o : Expr} {es : List Expr} {ap cp : Pos} {g : MT} {x : CE} {cs : CEs} (hs : noSup o = true) (hl : (ap.endLine == cp.line) = true)
    (h30 : es.length < 30) (ho : f o x = true) (ha : ckAll f es cs = true) {σ : Loc} {σV : L2.St} {Q : VK} (R : Rel K ρ m H) (rl : RL K ρ H σ σV) (h : Post K (RV K) ρ H Q (dE Γ G (.meth g x cs) σ m)) :
    bE F (.Call (.Attribute o g.name ap) es [] cp) σV H Q := by
  simp only [dE] at h
  have hns := ckAll_noSt ha
  by_cases hg : g = .bitLength
  · subst hg
    cases es with
    | cons e es =>
      cases cs with
      | nil => simp [ckAll] at ha
      | cons c cs =>
        exfalso
        cases e1 : dE Γ G x σ m with
        | bad => rw [e1] at h; exact h
        | ex => rw [e1] at h; exact h
        | ok d m1 =>
          rw [e1] at h
          simp only [Res.ok_bind] at h
          split at h
          · cases e2 : dEs Γ G (.cons c cs) σ m1 with
            | bad => rw [e2] at h; exact h
            | ex => rw [e2] at h; exact h
            | ok ds m2 =>
              rw [e2] at h
              simp only [Res.ok_bind] at h
              have : ∃ d' ds', ds = d' :: ds' := by
                simp only [dEs] at e2
                cases e3 : dE Γ G c σ m1 with
                | bad => rw [e3] at e2; simp at e2
                | ex => rw [e3] at e2; simp at e2
                | ok d' m3 =>
                  rw [e3] at e2
                  simp only [Res.ok_bind] at e2
                  cases e4 : dEs Γ G cs σ m3 with
                  | bad => rw [e4] at e2; simp at e2
                  | ex => rw [e4] at e2; simp at e2
                  | ok ds' m4 => rw [e4] at e2; simp at e2; exact ⟨d', ds', e2.1.symm⟩
              obtain ⟨d', ds', rfl⟩ := this
              unfold mtD at h
              split at h <;> first | exact h | (rename_i heq; cases heq) | skip
              all_goals (first | exact h | (simp_all))
          · exact h
    | nil =>
      refine ⟨tBits (bE F o), fun X hX => pe_bits (bE_ok hX o) (base_sup hs) hl, ?_⟩
      refine hE ho R rl (h.bind fun d m1 ρ1 H1 v R1 p1 x1 r1 h1 => ?_)
      cases cs with
      | cons _ _ => simp [ckAll] at ha
      | nil =>
        cases d with
        | int i =>
          simp only [RV] at r1; subst r1
          refine ⟨i, rfl, ?_⟩
          simp only [dEs, mtPre, if_true, Res.ok_bind, mtD] at h1
          exact h1.ok R1 (by simp [RV])
        | _ => simp only [mtPre] at h1; exact h1.elim
  · obtain ⟨f1, f2, f3⟩ := mt_facts hg
    cases es with
    | nil =>
      cases cs with
      | cons _ _ => simp [ckAll] at ha
      | nil =>
        refine bm0_ok hF f1 f2 f3 hs hl (hE ho R rl (h.bind fun d m1 ρ1 H1 v R1 p1 x1 r1 h1 => ?_))
        split at h1
        · rename_i hp
          simp only [dEs, Res.ok_bind] at h1
          exact ⟨mt_ty hg R1 r1 hp, mt_rule hF.toFew hg R1 r1 (by simp [RVs]) h1⟩
        · exact h1.elim
    | cons e es =>
      refine bm_ok hF f1 f2 f3 hs hl hns h30 (hE ho R rl (h.bind fun d m1 ρ1 H1 v R1 p1 x1 r1 h1 => ?_))
      split at h1
      · rename_i hp
        refine ⟨mt_ty hg R1 r1 hp, args_ok hE ha R1 (rl.mono p1 x1) (h1.bind fun ds m2 ρ2 H2 vs R2 p2 x2 r2 h2 => ?_)⟩
        exact mt_rule hF.toFew hg R2 (r1.mono p2 x2) r2 h2
      · exact h1.elim
end
end PC

namespace PC
open PySem L2 Classical
/-! ### the block of a comprehension -/
def blkF (F : Cx → Prop) (scope : Scope) : Cx → Prop := fun Y => ∃ X s H C cl fp, F X ∧ Y = X.blk s H scope (compEnvC scope cl C X.env) fp
theorem relabel_lookup {env : Env} : ∀ {names : List (Str × NameKind)} (x : Str),
    (names.map fun (n, k) => if (k == NameKind.free && env.scope.kind == .function && env.kindOf n == some .cell) then (n, NameKind.cell) else (n, k)).lookup x = names.lookup x ∨
      (names.lookup x = some .free ∧ (names.map fun (n, k) => if (k == NameKind.free && env.scope.kind == .function && env.kindOf n == some .cell) then (n, NameKind.cell) else (n, k)).lookup x = some .cell)
  | [], x => .inl rfl
  | (n, k) :: r, x => by
    simp only [List.map_cons]
    by_cases hx : x = n
    · subst hx
      split
      · rename_i hk
        simp only [Bool.and_eq_true, beq_iff_eq] at hk
        right
        simp [hk.1.1]
      · left; simp
    · have hb : (x == n) = false := by simpa using hx
      have := relabel_lookup (env := env) (names := r) x
      split <;> simpa [List.lookup_cons, hb] using this
theorem wipe_len (σ : L2.St) : ∀ vs, (wipe σ vs).length = σ.length
  | [] => rfl
  | v :: vs => by simp [wipe, wipe_len σ vs]
theorem wipe_get (σ : L2.St) : ∀ (vs : List Nat) (j : Nat), (wipe σ vs)[j]? = if j ∈ vs then (if j < σ.length then some none else none) else σ[j]?
  | [], j => by simp [wipe]
  | v :: vs, j => by
    simp only [wipe, List.getElem?_set, wipe_len, wipe_get σ vs j, List.mem_cons]
    by_cases h : v = j
    · subst h; simp
    · simp [h, Ne.symm h, show ¬ j = v from fun e => h e.symm]
theorem wipe_set {σ : L2.St} {vs : List Nat} {i : Nat} {x : Option V} (h : i ∈ vs) : wipe (σ.set i x) vs = wipe σ vs := by
  apply List.ext_getElem?
  intro j
  rw [wipe_get, wipe_get]
  by_cases hj : j ∈ vs
  · simp [hj]
  · have : i ≠ j := fun e => hj (e ▸ h)
    simp [hj, List.getElem?_set_ne this]
theorem wipe_wipe {σ : L2.St} {vs : List Nat} : wipe (wipe σ vs) vs = wipe σ vs := by
  apply List.ext_getElem?
  intro j
  rw [wipe_get, wipe_get, wipe_len]
  by_cases hj : j ∈ vs <;> simp [hj]
theorem wipeL_len (σ : Loc) : ∀ vs, (wipeL σ vs).length = σ.length
  | [] => rfl
  | v :: vs => by simp [wipeL, wipeL_len σ vs]
theorem wipeL_get (σ : Loc) : ∀ (vs : List Nat) (j : Nat), (wipeL σ vs)[j]? = if j ∈ vs then (if j < σ.length then some none else none) else σ[j]?
  | [], j => by simp [wipeL]
  | v :: vs, j => by
    simp only [wipeL, List.getElem?_set, wipeL_len, wipeL_get σ vs j, List.mem_cons]
    by_cases h : v = j
    · subst h; simp
    · simp [h, Ne.symm h, show ¬ j = v from fun e => h e.symm]
theorem tgtIn_has {vs : List Nat} : ∀ {t : CT}, tgtIn vs t = true → ∀ i, tgtHas t i = true → i ∈ vs
  | .name j, h, i, hi => by
    simp only [tgtIn, List.contains_iff_mem] at h
    simp only [tgtHas, beq_iff_eq] at hi
    exact hi ▸ h
  | .sub _ _, h, _, _ => by simp [tgtIn] at h
  | .tup ts, h, i, hi => by
    simp only [tgtIn] at h
    simp only [tgtHas] at hi
    exact go h i hi
where
  go : ∀ {ts : CTs}, tgtsIn vs ts = true → ∀ i, tgtsHas ts i = true → i ∈ vs
  | .nil, _, _, hi => by simp [tgtsHas] at hi
  | .cons t ts, h, i, hi => by
    simp only [tgtsIn, Bool.and_eq_true] at h
    simp only [tgtsHas, Bool.or_eq_true] at hi
    rcases hi with hi | hi
    · exact tgtIn_has h.1 i hi
    · exact go h.2 i hi
section
variable {K : PySem.W.Frag} {mg : Str → Option Value} {Γ : Fn} {G : Str → Option D} {N : List Str} {k n : Nat} {sc : Sc} {F : Cx → Prop} {ρ : List Addr} {H : Hp} {m : Mem}
theorem RL.wipe {σ : Loc} {σV : L2.St} (h : RL K ρ H σ σV) (vs : List Nat) : RL K ρ H (wipeL σ vs) (L2.wipe σV vs) := by
  refine ⟨by rw [wipe_len, wipeL_len]; exact h.1, fun i d e => ?_⟩
  rw [wipeL_get] at e
  rw [wipe_get]
  by_cases hi : i ∈ vs
  · simp only [hi, if_true] at e
    split at e <;> cases e
  · simp only [hi, if_false] at e ⊢
    exact h.2 i d e
theorem Fam.blk (hF : Fam K mg Γ G N k sc F) {scope : Scope} (hk : scope.kind = .function) : Fam K mg Γ G N k scope.names (blkF F scope) where
  eK := by rintro Y ⟨X, s, H, C, cl, fp, hX, rfl⟩; exact hF.eK X hX
  calm := by rintro Y ⟨X, s, H, C, cl, fp, hX, rfl⟩; exact hF.calm X hX
  un := by rintro Y ⟨X, s, H, C, cl, fp, hX, rfl⟩; exact hF.un X hX
  eg := by rintro Y ⟨X, s, H, C, cl, fp, hX, rfl⟩; exact hF.eg X hX
  eN := by rintro Y ⟨X, s, H, C, cl, fp, hX, rfl⟩; exact hF.eN X hX
  nd := hF.nd
  kind := by rintro Y ⟨X, s, H, C, cl, fp, hX, rfl⟩; exact hk
  lk := by rintro Y ⟨X, s, H, C, cl, fp, hX, rfl⟩ x; exact relabel_lookup (env := X.env) (names := scope.names) x
  fn := by
    rintro Y ⟨X, s, H, C, cl, fp, hX, rfl⟩ x h
    rcases h with h | h
    · right
      rcases relabel_lookup (env := X.env) (names := scope.names) x with e | ⟨e, _⟩
      · show (relabel scope X.env).names.lookup x = _
        exact e.trans h
      · rw [h] at e; cases e
    · left
      show (scope.names.lookup x == some .cell) = true
      rw [h]; rfl
  po := by rintro Y ⟨X, s, H, C, cl, fp, hX, rfl⟩; exact PassesOwn.never
  room := by rintro Y ⟨X, s, H, C, cl, fp, hX, rfl⟩; exact hF.room X hX
  calls := fun f ds m h => by
    obtain ⟨a, fd, ps, h1, h2, h3, h4, h5⟩ := hF.calls f ds m h
    exact ⟨a, fd, ps, h1, h2, h3, h4, by rintro Y ⟨X, s, H, C, cl, fp, hX, rfl⟩; exact h5 X hX⟩
  glob := hF.glob
  blt := hF.blt
theorem blk_ok (hF : Fam K mg Γ G N k sc F) {scope : Scope} {own : List (Str × Nat)} (h : blkC N ⟨.function, sc, false, false, []⟩ scope own = true) {X : Cx} (hX : F X) : BlkOk X.N X.env.scope scope own := by
  obtain ⟨h1, h2, h3, h4, h5⟩ := blkOk_by h
  rw [hF.eN X hX]
  refine ⟨h1, h2, h3, fun y hy e => ?_, h5⟩
  rcases hF.lk X hX y.1 with q | ⟨q1, q2⟩
  · rw [q]; exact h4 y hy e
  · exact .inl q2
theorem own_snd (N : List Str) (vs : List Nat) : (ownOf N vs).map (·.2) = vs := by
  unfold ownOf; rw [List.map_map]; exact List.map_id vs
theorem comp_guard {gs : List (Nat × List D)} {j : Nat} {body : D → Mem → Res (Option D)} {Q : VK} {mi : Mem} : ∀ {xs : List D}, Post K (RV K) ρ H Q (compD gs j body xs mi) → guardOk gs mi
  | [], h => by unfold compD at h; split at h <;> first | assumption | exact h.elim
  | _ :: _, h => by unfold compD at h; split at h <;> first | assumption | exact h.elim
/-- an item of a comprehension, or none -/
def RCo (K : PySem.W.Frag) (ρ : List Addr) (H : Hp) : Option D → Option V → Prop
  | some d, some u => RV K ρ H d u
  | none, none => True
  | _, _ => False
/-- the turns of a comprehension -/
theorem comp_ok {J : It} {p : Itr} {σV : L2.St} {vs : List Nat} {Q : VK} {g : TG} {tt : TT} {te : TE} {body : D → Mem → Res (Option D)} (R : Rel K ρ m H) (W : RIt K ρ H p J)
    (h : Post K (RV K) ρ H Q (compD p.2 m.length body p.1 (m ++ [.lst []])))
    (hb : ∀ x v m1 ρ1 H1 H2 (Qs : V → Hp → Prop) (Qn : Hp → Prop), Rel K ρ1 m1 H1 → ρ <+: ρ1 → Ext H H1 → Rel K ρ1 m1 H2 → Ext H1 H2 → RV K ρ1 H2 x v → Post K (RCo K) ρ1 H2 (fun ov H' => match ov with | some u => Qs u H' | none => Qn H') (body x m1) →
      g v (wipe σV vs) H2 fun σ2 H3 => wipe σ2 vs = wipe σV vs ∧ tt σ2 H3 fun b H4 => if b = true then te σ2 H4 Qs else Qn H4) :
    ∀ D, H D = none → ∃ W : Nat → Nat → Hp → Prop, (∃ m, W 0 m (upd H D (.lst []))) ∧ ∀ i m H, W i m H →
      (J.stop i H ∧ Q (.ref D) H) ∨ (J.go i H ∧ ∃ Nx : Hp → Prop, (∀ H', Nx H' → ∃ m', m' < m ∧ W (i + 1) m' H') ∧ ∀ x H', J.yld i H x H' → g x (wipe σV vs) H' fun σ2 H2 => wipe σ2 vs = wipe σV vs ∧ tt σ2 H2 fun b H3 =>
        if b = true then te σ2 H3 fun y H4 => ∃ acc, H4 D = some (.lst acc) ∧ acc.length < sizeLine ∧ Nx (upd H4 D (.lst (acc ++ [y]))) else Nx H3) := by
  intro D hD
  obtain ⟨Gd, Y, w, hG, hY⟩ := W.ex
  have hext : Ext H (upd H D (.lst [])) := .new hD
  refine lc_it w (fun i H1 => ∃ mi ρi, Rel K ρi mi H1 ∧ (ρ ++ [D]) <+: ρi ∧ Ext H H1 ∧ Post K (RV K) ρ H Q (compD p.2 m.length body (p.1.drop i) mi)) ?_ ?_ ?_ ?_
  · exact ⟨m ++ [.lst []], ρ ++ [D], R.allocL hD (by simp [RVs]), List.prefix_refl _, hext, by simpa using h⟩
  · rintro i H1 hi ⟨mi, ρi, R1, p1, x1, h1⟩
    have hg : guardOk p.2 mi := comp_guard h1
    exact hG ρi mi H1 R1 ((List.prefix_append _ _).trans p1) x1 hg
  · rintro i x H1 H2 hi ⟨mi, ρi, R1, p1, x1, h1⟩ y
    have pρ : ρ <+: ρi := (List.prefix_append _ _).trans p1
    obtain ⟨R2, x2, k2, d, ed, rd⟩ := hY i H1 x H2 ρi mi hi R1 pρ x1 (comp_guard h1) y
    have hdrop : p.1.drop i = d :: p.1.drop (i + 1) := by
      have := (List.getElem?_eq_some_iff.mp ed).2
      rw [List.drop_eq_getElem_cons hi, this]
    rw [hdrop] at h1
    unfold compD at h1
    split at h1
    · rename_i hg
      refine hb d x mi ρi H1 H2 _ _ R1 pρ x1 R2 x2 rd ?_
      cases eb : body d mi with
      | bad => rw [eb] at h1; exact h1
      | ex => rw [eb] at h1; exact h1
      | ok o m2 =>
        rw [eb] at h1
        simp only [Res.ok_bind] at h1
        intro ρ2 H3 ov R3 p3 x3 r3
        cases o with
        | none =>
          cases ov with
          | some _ => exact r3.elim
          | none => exact ⟨m2, ρ2, R3, p1.trans p3, x1.trans (x2.trans x3), h1⟩
        | some d' =>
          cases ov with
          | none => exact r3.elim
          | some u =>
            simp only at h1
            split at h1
            · rename_i acc ea
              split at h1
              · rename_i hl
                have hρ : ρ2[m.length]? = some D := by
                  refine pre_get (p1.trans p3) ?_
                  rw [← R.len]; simp
                obtain ⟨us, k1, k3⟩ := R3.lst ea hρ
                obtain ⟨R4, x4⟩ := R3.writeL hρ k1 (k3.app (RVs.one (show RV K ρ2 H3 d' u from r3)))
                exact ⟨us, k1, by rw [k3.len]; exact hl, _, ρ2, R4, p1.trans p3, x1.trans (x2.trans (x3.trans x4)), h1⟩
              · exact h1.elim
            · exact h1.elim
    · exact h1.elim
  · rintro H1 ⟨mi, ρi, R1, p1, x1, h1⟩
    rw [List.drop_length] at h1
    unfold compD at h1
    split at h1
    · refine h1 ρi H1 _ R1 ((List.prefix_append _ _).trans p1) x1 ?_
      simp only [RV]
      exact ⟨D, pre_get p1 (by rw [← R.len]; simp), rfl⟩
    · exact h1.elim

/-! ### what is walked -/
theorem it_list {a : Addr} {xs : List D} {gs : List (Nat × List D)} (hg : ∀ (ρ' : List Addr) (m' : Mem) (H' : Hp), Rel K ρ' m' H' → ρ <+: ρ' → Ext H H' → guardOk gs m' → ∃ vs, SqL K H' a vs ∧ RVs K ρ' H' xs vs) : RIt K ρ H (xs, gs) (Itl K a) where
  ex := by
    refine ⟨fun H' => ∃ vs, SqL K H' a vs ∧ vs.length = xs.length, fun i H1 x H2 => H2 = H1 ∧ ∀ vs, SqL K H1 a vs → vs[i]? = some x, ⟨fun i H' hi ⟨vs, h1, h2⟩ => ⟨vs, vs[i]'(by rw [h2]; exact hi), h1, by simp [h2, hi]⟩, fun H' ⟨vs, h1, h2⟩ => ⟨vs, h1, by rw [h2]; exact Nat.le_refl _⟩, fun i H' x H2 hi _ y => y⟩, fun ρ' m' H' R p x g => ?_, ?_⟩
    · obtain ⟨vs, h1, h2⟩ := hg ρ' m' H' R p x g
      exact ⟨vs, h1, h2.len⟩
    · rintro i H1 x H2 ρ1 m1 hi R p e g ⟨rfl, y⟩
      obtain ⟨vs, h1, h2⟩ := hg ρ1 m1 H2 R p e g
      obtain ⟨v, hv, rv⟩ := h2.get (List.getElem?_eq_getElem hi)
      rw [y vs h1] at hv; cases hv
      exact ⟨R, .refl _, fun _ _ => rfl, xs[i], List.getElem?_eq_getElem hi, rv⟩
theorem it_tup {a : Addr} {xs : List D} {vs : List V} (h : SqT K H a vs) (r : RVs K ρ H xs vs) : RIt K ρ H (xs, []) (Itt K a) where
  ex := by
    refine ⟨fun H' => ∃ vs, SqT K H' a vs ∧ vs.length = xs.length, fun i H1 x H2 => H2 = H1 ∧ ∀ vs, SqT K H1 a vs → vs[i]? = some x, ⟨fun i H' hi ⟨vs, h1, h2⟩ => ⟨vs, vs[i]'(by rw [h2]; exact hi), h1, by simp [h2, hi]⟩, fun H' ⟨vs, h1, h2⟩ => ⟨vs, h1, by rw [h2]; exact Nat.le_refl _⟩, fun i H' x H2 hi _ y => y⟩, fun ρ' m' H' R p x g => ?_, ?_⟩
    · exact ⟨vs, x.sqt h, r.len⟩
    · rintro i H1 x H2 ρ1 m1 hi R p e g ⟨rfl, y⟩
      obtain ⟨v, hv, rv⟩ := (r.mono p e).get (List.getElem?_eq_getElem hi)
      rw [y vs (e.sqt h)] at hv; cases hv
      exact ⟨R, .refl _, fun _ _ => rfl, xs[i], List.getElem?_eq_getElem hi, rv⟩
theorem it_str {z : Str} : RIt K ρ H (z.cps.toList.map fun c => .str ⟨#[c]⟩, []) (Its z) where
  ex := by
    refine ⟨_, _, (by show Walk (Its z) (z.cps.toList.map fun c => (D.str ⟨#[c]⟩)).length _ _; rw [List.length_map, Array.length_toList]; exact walk_str), fun _ _ _ _ _ _ _ => trivial, ?_⟩
    rintro i H1 x H2 ρ1 m1 hi R p e g ⟨rfl, c, hc, rfl⟩
    refine ⟨R, .refl _, fun _ _ => rfl, .str ⟨#[c]⟩, ?_, by simp only [RV]⟩
    rw [List.getElem?_map, Array.getElem?_toList, hc]; rfl
theorem it_range {lo hi : Int} : RIt K ρ H (rngD lo hi, []) (L2.Itr lo (hi - lo).toNat) where
  ex := by
    refine ⟨_, _, (by show Walk _ (rngD lo hi).length _ _; rw [show (rngD lo hi).length = (hi - lo).toNat by simp [rngD]]; exact walk_range), fun _ _ _ _ _ _ _ => trivial, ?_⟩
    rintro i H1 x H2 ρ1 m1 hi' R p e g ⟨rfl, rfl⟩
    have hl : i < (hi - lo).toNat := by simpa [rngD] using hi'
    refine ⟨R, .refl _, fun _ _ => rfl, .int (lo + (i : Nat)), ?_, by simp only [RV]⟩
    simp [rngD, hl]
/-- a list or a tuple that is walked: its readings at all later states -/
theorem iterS_ok {d : D} {v : V} {p : PC.Itr} (R : Rel K ρ m H) (r : RV K ρ H d v) (h : iterS m d = some p) : ∃ a, v = .ref a ∧
    ((((∃ n, d = .ref n) ∨ d = .kl p.1) ∧ guardOk p.2 m) ∧ (∀ (ρ' : List Addr) (m' : Mem) (H' : Hp), Rel K ρ' m' H' → ρ <+: ρ' → Ext H H' → guardOk p.2 m' → ∃ vs, SqL K H' a vs ∧ RVs K ρ' H' p.1 vs) ∨
     (∃ vs, d = .tup p.1 ∧ p.2 = [] ∧ SqT K H a vs ∧ RVs K ρ H p.1 vs)) := by
  cases d with
  | tup xs =>
    simp only [iterS, Option.some.injEq] at h; subst h
    simp only [RV] at r
    obtain ⟨a, vs, rfl, h2, h3⟩ := r
    exact ⟨a, rfl, .inr ⟨vs, rfl, rfl, h2, h3⟩⟩
  | ref n =>
    simp only [RV] at r
    obtain ⟨a, ha, rfl⟩ := r
    obtain ⟨o, ho, ro⟩ := R.there ha
    simp only [iterS, ho] at h
    cases o with
    | lst xs =>
      simp only [Option.some.injEq] at h; subst h
      refine ⟨a, rfl, .inl ⟨⟨.inl ⟨n, rfl⟩, fun z hz => by rw [List.mem_singleton.mp hz]; exact ho⟩, fun ρ' m' H' R' p' x' g => ?_⟩⟩
      obtain ⟨vs, h1, h2⟩ := R'.lst (g (n, xs) (by simp)) (pre_get p' ha)
      exact ⟨vs, SqL.of h1, h2⟩
    | _ => simp at h
  | kl xs =>
    simp only [iterS, Option.some.injEq] at h; subst h
    simp only [RV] at r
    obtain ⟨a, vs, rfl, h2, h3⟩ := r
    exact ⟨a, rfl, .inl ⟨⟨.inr rfl, fun z hz => by cases hz⟩, fun ρ' m' H' R' p' x' g => ⟨vs, (x'.fzl h2).sq, h3.mono p' x'⟩⟩⟩
  | _ => simp [iterS] at h
end
end PC

/-! PZip: zip and enumerate of lists and tuples, in any mix -/
namespace PC
open PySem L2 Classical
open PyProof.Rows (Call_)
/-- a list (true) or a tuple (false) -/
def SqB (K : PySem.W.Frag) (b : Bool) (H : Hp) (a : Addr) (xs : List V) : Prop := match b with | true => SqL K H a xs | false => SqT K H a xs
def IterB (b : Bool) (h : Heap) (it a : Addr) (i : Nat) : Prop := match b with | true => h.IsListIter it a i | false => h.IsTupleIter it a i
def IsB (b : Bool) (h : Heap) (a : Addr) (its : Array Value) : Prop := match b with | true => h.IsList a its | false => h.IsTuple a its
theorem IterB.at {b : Bool} {h h' : Heap} {it a : Addr} {i : Nat} (x : IterB b h it a i) (e : ∀ o, h.get? it = some o → h'.get? it = some o) : IterB b h' it a i := by
  cases b
  · exact Heap.IsTupleIter.at x e
  · exact Heap.IsListIter.at x e
theorem IterB.obj {b : Bool} {h : Heap} {it a : Addr} {i : Nat} (x : IterB b h it a i) : ∃ o, h.get? it = some o ∧ ∀ v, o.data ≠ .cell v := by
  cases b
  · obtain ⟨o, e, _, d⟩ := x; exact ⟨o, e, fun v q => by rw [d] at q; cases q⟩
  · obtain ⟨o, e, _, d⟩ := x; exact ⟨o, e, fun v q => by rw [d] at q; cases q⟩
theorem SqB.is {b : Bool} {X : Cx} {pins : List (Addr × Obj)} {σ : L2.St} {H : Hp} {s : Shared} {a : Addr} {xs : List V} (I : Inv X pins σ H s) (h : SqB X.K b H a xs) : ∃ its : List Value, Vals xs its ∧ IsB b s.heap a its.toArray ∧ a < s.heap.objs.size := by
  cases b
  · obtain ⟨its, rv, p, _⟩ := I.tuple h
    exact ⟨its, rv, p, by obtain ⟨_, e, _⟩ := p; exact Heap.lt_size e⟩
  · obtain ⟨its, rv, p, _⟩ := I.list h
    exact ⟨its, rv, p.isList, p.lt⟩
theorem SqB.inj {b : Bool} {X : Cx} {pins : List (Addr × Obj)} {σ : L2.St} {H : Hp} {s : Shared} {a : Addr} {xs ys : List V} (I : Inv X pins σ H s) (h : SqB X.K b H a xs) (h' : SqB X.K b H a ys) : xs = ys := by
  cases b
  · exact I.tuple_inj h h'
  · exact I.list_inj h h'
theorem iterB_ne {b : Bool} {h : Heap} {a it a' : Addr} {i : Nat} {its : Array Value} (p : IsB b h a its) (q : IterB b h it a' i) : a ≠ it := fun e => by
  subst e
  cases b
  · obtain ⟨_, e1, c1, _⟩ := p; obtain ⟨_, e2, c2, _⟩ := q; rw [e1] at e2; cases e2; rw [c1] at c2; exact absurd c2 (by simp)
  · obtain ⟨_, e1, c1, _⟩ := p; obtain ⟨_, e2, c2, _⟩ := q; rw [e1] at e2; cases e2; rw [c1] at c2; exact absurd c2 (by simp)
def StB (b : Bool) (it a : Addr) (its : Array Value) : Nat → Heap → Prop := fun i h => IterB b h it a i ∧ IsB b h a its
theorem drawsB {prog : Program} {w : World} {A : Around} (b : Bool) (hh : A.handled = none) (it l : Addr) (hne : l ≠ it) (items : Array Value) :
    Draws prog w A it [it, l] items.size (fun i v => items[i]? = some v) (StB b it l items) := by
  cases b
  · exact Draws.tuple hh it l hne items
  · exact Draws.list hh it l hne items
def itoB (b : Bool) (a : Addr) : Obj := match b with | true => { cls := .type "list_iterator", data := .fields #[.ref a, .int 0 0] } | false => { cls := .type "tuple_iterator", data := .fields #[.ref a, .int 0 0] }
theorem beginsB (b : Bool) (a : Addr) (its : Array Value) : Begins (.ref a) (itoB b a) (fun h => IsB b h a its) := by
  cases b
  · exact begins_tuple a its
  · exact begins_list a its
theorem iterB_new {b : Bool} {h : Heap} {it a : Addr} (e : h.get? it = some (itoB b a)) : IterB b h it a 0 := by
  cases b
  · exact ⟨_, e, rfl, rfl⟩
  · exact ⟨_, e, rfl, rfl⟩
/-- zip's turns -/
def ItzB (K : PySem.W.Frag) (b1 b2 : Bool) (a b : Addr) : It :=
  ⟨fun i H => ∃ (xs ys : List V) (x y : V), SqB K b1 H a xs ∧ SqB K b2 H b ys ∧ xs[i]? = some x ∧ ys[i]? = some y,
    fun i H v H' => ∃ T x y, v = .ref T ∧ H T = none ∧ H' = upd H T (.tup [x, y]) ∧ (∀ xs, SqB K b1 H a xs → xs[i]? = some x) ∧ ∀ ys, SqB K b2 H b ys → ys[i]? = some y,
    fun i H => ∃ xs ys : List V, SqB K b1 H a xs ∧ SqB K b2 H b ys ∧ i ≤ xs.length ∧ i ≤ ys.length ∧ (xs.length = i ∨ ys.length = i)⟩
theorem turn_zipB {P : Program} {w : World} {K : PySem.W.Frag} {elts : List Expr} {kk : Nat} {tpos : Pos} (b1 b2 : Bool) {a b z TI TO i1 i2 : Addr} (S : ZipSep2 z TI TO i1 i2 [i1, a] [i2, b]) :
    Turn P w K (.Tuple elts kk tpos) (ItzB K b1 b2 a b) [z, TI, TO, i1, i2] z (fun i h => IsZip h z TI TO .none ∧ IsTupOf2 h TI (.ref i1) (.ref i2) ∧ (∃ x y, IsTupOf2 h TO x y) ∧ IterB b1 h i1 a i ∧ IterB b2 h i2 b i) where
  mem := by simp
  obj := fun i h st c hc => by
    obtain ⟨hz, hTI, ⟨x, y, hTO⟩, h1, h2⟩ := st
    have e' : c = z ∨ c = TI ∨ c = TO ∨ c = i1 ∨ c = i2 := by simpa using hc
    rcases e' with q | q | q | q | q
    · rw [q]; exact ⟨_, hz, fun v q => nomatch q⟩
    · rw [q]; exact ⟨_, hTI, fun v q => nomatch q⟩
    · rw [q]; exact ⟨_, hTO, fun v q => nomatch q⟩
    · rw [q]; exact h1.obj
    · rw [q]; exact h2.obj
  keep := fun i h h' st k => by
    obtain ⟨hz, hTI, ⟨x, y, hTO⟩, h1, h2⟩ := st
    exact ⟨k z (by simp) _ hz, k TI (by simp) _ hTI, ⟨x, y, k TO (by simp) _ hTO⟩, h1.at fun o q => k i1 (by simp) o q, h2.at fun o q => k i2 (by simp) o q⟩
  item := by
    intro X hP hw hK hc i pins s σ H E I hf st hg
    subst hP hw hK
    obtain ⟨hz, hTI, ⟨x0, y0, hTO⟩, h1, h2⟩ := st
    obtain ⟨xs, ys, x, y, hqx, hqy, hx, hy⟩ := hg
    obtain ⟨its, rv, p, la⟩ := hqx.is I
    obtain ⟨its2, rv2, p2, lb⟩ := hqy.is I
    obtain ⟨u, hu, ru⟩ := rv.get hx
    obtain ⟨u2, hu2, ru2⟩ := rv2.get hy
    have hzl : z < s.heap.objs.size := Heap.lt_size hz
    have hlt1 : i < its.toArray.size := by simpa using (List.getElem?_eq_some_iff.mp hu).1
    have hlt2 : i < its2.toArray.size := by simpa using (List.getElem?_eq_some_iff.mp hu2).1
    have hai : a ≠ i1 := iterB_ne p h1
    have hbi : b ≠ i2 := iterB_ne p2 h2
    refine wpAny_pyNext_zipD2_item S (drawsB (A := X.A.in1) b1 (I.ok.hd hc) i1 a hai its.toArray) (drawsB (A := X.A.in1) b2 (I.ok.hd hc) i2 b hbi its2.toArray) hz hTI hTO ⟨h1, p⟩ ⟨h2, p2⟩ hlt1 hlt2 fun w1 w2 h' tk e1 e2 z' TO' st1 st2 hT hsz hk => ?_
    have e1' : w1 = u := by simp at e1; rw [hu] at e1; exact (Option.some.inj e1).symm
    have e2' : w2 = u2 := by simp at e2; rw [hu2] at e2; exact (Option.some.inj e2).symm
    subst e1' e2'
    refine ⟨_, rfl, wpAny_letOwnedTupleGo_zip (s := { s with heap := h', toks := tk }) z' fun h'' z'' sb => ?_⟩
    have hT2 : h''.get? s.heap.objs.size = some { cls := .type "tuple", data := .seq #[w1, w2] } := (sb.2 _ (Nat.ne_of_gt hzl)).trans hT
    have new : ObjOk X.prog X.w (upd H s.heap.objs.size (.tup [x, y])) h'' s.heap.objs.size (.tup [x, y]) :=
      ⟨by show 2 ≤ sizeLine; decide, [w1, w2], .cons ru (.cons ru2 .nil), ⟨_, hT2, rfl, _, rfl⟩⟩
    have I1 : Inv X pins σ (upd H s.heap.objs.size (.tup [x, y])) { s with heap := h'', toks := tk } :=
      I.turnedNew (t' := tk) (ch := [z, TI, TO, i1, i2]) (fun c o hb q => (sb.2 c (fun q' => hb (by simp [q']))).trans (hk c o (fun q' => hb (by simp [q'])) (fun q' => hb (by simp [q'])) (fun q' => hb (by simp [q'])) (fun q' => hb (by simp [q'])) q)) hf (Nat.le_refl _) new
    refine ⟨.ref s.heap.objs.size, _, I1, rfl, ⟨_, x, y, rfl, I.hok.fresh (Nat.le_refl _), rfl, fun l hl => by rw [SqB.inj I hl hqx]; exact hx, fun l hl => by rw [SqB.inj I hl hqy]; exact hy⟩, ⟨z'', ?_, ⟨w1, w2, ?_⟩, ?_, ?_⟩, fun c hcm => ?_⟩
    · exact (sb.2 _ S.TIz).trans (hk _ _ S.TIz S.TITO S.TIi1 S.TIi2 hTI)
    · exact (sb.2 _ S.TOz).trans TO'
    · exact IterB.at st1.1 fun o q => (sb.2 _ (Ne.symm S.zi1)).trans q
    · exact IterB.at st2.1 fun o q => (sb.2 _ (Ne.symm S.zi2)).trans q
    · have hlt : c < s.heap.objs.size := by
        have e' : c = z ∨ c = TI ∨ c = TO ∨ c = i1 ∨ c = i2 := by simpa using hcm
        rcases e' with q | q | q | q | q
        · rw [q]; exact hzl
        · rw [q]; exact Heap.lt_size hTI
        · rw [q]; exact Heap.lt_size hTO
        · rw [q]; obtain ⟨_, e1, _⟩ := h1.obj; exact Heap.lt_size e1
        · rw [q]; obtain ⟨_, e2, _⟩ := h2.obj; exact Heap.lt_size e2
      rw [upd_ne (Nat.ne_of_lt hlt)]
      exact (hf c hcm).1
  done := by
    intro X hP hw hK hc i pins s σ H E I hf st hg
    subst hP hw hK
    obtain ⟨hz, hTI, ⟨x0, y0, hTO⟩, h1, h2⟩ := st
    obtain ⟨xs, ys, hqx, hqy, l1, l2, hend⟩ := hg
    obtain ⟨its, rv, p, la⟩ := hqx.is I
    obtain ⟨its2, rv2, p2, lb⟩ := hqy.is I
    have k1 := rv.length
    have k2 := rv2.length
    have hai : a ≠ i1 := iterB_ne p h1
    have hbi : b ≠ i2 := iterB_ne p2 h2
    exact wpAny_pyNext_zipD2_end S (drawsB (A := X.A.in1) b1 (I.ok.hd hc) i1 a hai its.toArray) (drawsB (A := X.A.in1) b2 (I.ok.hd hc) i2 b hbi its2.toArray) hz hTI hTO ⟨h1, p⟩ ⟨h2, p2⟩ (by simp; omega) (by simp; omega) (by simp; omega) fun h' tk hk =>
      ⟨rfl, I.turnedL (t' := tk) (ch := [z, TI, TO, i1, i2]) (fun c o hb q => hk c o (fun q' => hb (by simp [q'])) (fun q' => hb (by simp [q'])) (fun q' => hb (by simp [q'])) (fun q' => hb (by simp [q'])) q) hf⟩
  self := fun A i s Q E st h => wpAny_pyIter_zip st.1 h
def iZipB (K : PySem.W.Frag) (ta : TA) : TI := fun σ H R => ta σ H fun vs H1 => ∃ b1 b2 a b xs ys, vs = [.ref a, .ref b] ∧ SqB K b1 H1 a xs ∧ SqB K b2 H1 b ys ∧ R (ItzB K b1 b2 a b) H1
theorem pi_zipB {X : Cx} {e e2 : Expr} {ta : TA} {p pos tpos : Pos} {elts : List Expr} {kk : Nat} (hg : Gl X "zip") (hm : X.mg "zip" = none) (ha : PA X [e, e2] ta)
    (hs : starEach [e, e2] X.env = (false, eval e X.env) :: starEach [e2] X.env) (hpl : (backTo pos (starEach [e2] X.env)).any (·.1) = false) :
    PI X (.Tuple elts kk tpos) (.Call (.Name "zip" p) [e, e2] [] pos) (iZipB X.K ta) := by
  refine ⟨fun pins s σ H R I h => ?_⟩
  refine Call_ (ld_blt I hg hm PyProof.Rows.boot_zip (PyProof.Rows.callWith_type1 (thn (ha.run pos pins s σ H _ I h) fun us s1 ⟨vs, H1, I1, r1, q1⟩ => ?_) hs hpl))
  obtain ⟨b1, b2, a, b, xs, ys, ex, hqx, hqy, q1⟩ := q1
  subst ex
  cases r1 with
  | cons r rr =>
    cases rr with
    | cons r' rr =>
      cases rr
      cases r
      cases r'
      obtain ⟨its, rv, p1, la⟩ := hqx.is I1
      obtain ⟨its2, rv2, p2, lb⟩ := hqy.is I1
      refine zip_begins2 (beginsB b1 a its.toArray) (beginsB b2 b its2.toArray) p1 p2 fun h' hz hTI hTO h1 h2 hsz hk => wpAny_pyIter_zip hz ?_
      have I2 : Inv X pins σ H1 { s1 with heap := h' } := I1.kept (t' := s1.toks) hk
      refine ⟨s1.heap.objs.size + 4, [s1.heap.objs.size + 4, s1.heap.objs.size + 2, s1.heap.objs.size + 3, s1.heap.objs.size, s1.heap.objs.size + 1], _, _, H1, rfl, I2,
        turn_zipB b1 b2 (zip_sep2 (N := s1.heap.objs.size) (fp1 := [a]) (fp2 := [b]) (fun c hc => by rw [List.mem_singleton.mp hc]; exact la) (fun c hc => by rw [List.mem_singleton.mp hc]; exact lb)), ⟨hz, hTI, ⟨_, _, hTO⟩, iterB_new h1, iterB_new h2⟩, fun c hcm => ?_, q1⟩
      have e' : c = s1.heap.objs.size + 4 ∨ c = s1.heap.objs.size + 2 ∨ c = s1.heap.objs.size + 3 ∨ c = s1.heap.objs.size ∨ c = s1.heap.objs.size + 1 := by simpa using hcm
      have hle : s1.heap.objs.size ≤ c := by
        rcases e' with z | z | z | z | z
        · rw [z]; exact Nat.le_add_right _ _
        · rw [z]; exact Nat.le_add_right _ _
        · rw [z]; exact Nat.le_add_right _ _
        · rw [z]; exact Nat.le_refl _
        · rw [z]; exact Nat.le_add_right _ _
      exact I1.fpOk hle (I1.hok.fresh hle)
/-! ### enumerate -/
set_option maxHeartbeats 1000000 in
theorem meets_enumerate_new1 {v : Value} {o : Obj} {H : Heap → Prop} (B : Begins v o H) :
    Meets (Builtin.«enumerate.__new__» ⟨[.type "enumerate", v], []⟩) (fun _ R s => H s.heap ∧
      R (.ok (.ret (.ref (s.heap.push o).objs.size))) { s with heap := (s.heap.push o).push { cls := .type "enumerate", data := .fields #[.none, .bool false, .ref s.heap.objs.size, rawInt 0, .none, .none] } }) :=
  .of_wp fun prog w A R s h => by
    obtain ⟨hp, g, d, tk, os⟩ := s; obtain ⟨h1, h⟩ := h
    have hsub := sub_enumerate
    have q1 : ∀ {A' : Around} {E : Value → Shared → Prop} {Q : Value → Shared → Prop}, Q (.ref hp.objs.size) ⟨hp.push o, g, d, tk, os⟩ → wpAny (model prog w) A' (pyIter v) Q E ⟨hp, g, d, tk, os⟩ :=
      fun q => B.iter prog w _ _ ⟨hp, g, d, tk, os⟩ _ h1 q
    wp_walk using q1
    refine wpAny_stack_any fun st => wpAny_pure ?_
    split
    · rename_i c _ _ _ _ _
      cases (c == Value.type "enumerate")
      · wp_walk using q1
        exact ⟨_, rfl, h⟩
      · wp_walk using q1
        exact ⟨_, rfl, h⟩
    · wp_walk using q1
      exact ⟨_, rfl, h⟩
theorem enum_begins1 {prog : Program} {w : World} {A : Around} {E : Value → Shared → Prop} {s : Shared} {v : Value} {o : Obj} {H : Heap → Prop} {Q : Value → Shared → Prop} (B : Begins v o H) (h1 : H s.heap)
    (h : ∀ h', IsEnum h' (s.heap.objs.size + 1) s.heap.objs.size 0 .none → h'.get? s.heap.objs.size = some o → h'.objs.size = s.heap.objs.size + 2 →
      (∀ b o, s.heap.get? b = some o → h'.get? b = some o) → Q (.ref (s.heap.objs.size + 1)) { s with heap := h' }) :
    wpAny (model prog w) A (call (.type "enumerate") [v]) Q E s := by
  refine callType_new F.called_enumerate (by decide) (F.typeCall_enumerate_1 _) (F.newCall_enumerate_1 _) (fun obj => F.args_object_init_2 obj _) F.entry_enumerate_new
    (meets_enumerate_new1 B) ⟨h1, ?_⟩
  have hz : (s.heap.push o).objs.size = s.heap.objs.size + 1 := Heap.size_push ..
  show _ ∧ _
  rw [hz]
  have he : IsEnum ((s.heap.push o).push { cls := .type "enumerate", data := .fields #[.none, .bool false, .ref s.heap.objs.size, rawInt 0, .none, .none] }) (s.heap.objs.size + 1) s.heap.objs.size 0 .none := by
    have := Heap.get?_push_size (s.heap.push o) (o := { cls := .type "enumerate", data := .fields #[.none, .bool false, .ref s.heap.objs.size, rawInt 0, .none, .none] }) rfl
    rw [hz] at this; exact this
  refine ⟨⟨_, he, rfl⟩, h _ he (Heap.get?_push_of_some _ (Heap.get?_push_size _ B.free)) (by rw [Heap.size_push, hz]) fun b o x => Heap.get?_push_of_some _ (Heap.get?_push_of_some _ x)⟩
def IteB (K : PySem.W.Frag) (b : Bool) (c : Int) (a : Addr) : It :=
  ⟨fun i H => ∃ (xs : List V) (x : V), SqB K b H a xs ∧ xs[i]? = some x, fun i H v H' => ∃ T x, v = .ref T ∧ H T = none ∧ H' = upd H T (.tup [.int (c + (i : Nat)), x]) ∧ ∀ xs, SqB K b H a xs → xs[i]? = some x, fun i H => ∃ xs : List V, SqB K b H a xs ∧ xs.length = i⟩
theorem turn_enumB {P : Program} {w : World} {K : PySem.W.Frag} {elts : List Expr} {kk : Nat} {tpos : Pos} (b : Bool) (c : Int) (a e it : Addr) :
    Turn P w K (.Tuple elts kk tpos) (IteB K b c a) [e, it] e (fun i h => (∃ old, IsEnum h e it (c + ((i : Nat) : Int)) old) ∧ IterB b h it a i ∧ e ≠ it ∧ e ≠ a) where
  mem := by simp
  obj := fun i h st q hq => by
    obtain ⟨⟨old, he⟩, h1, _⟩ := st
    have e' : q = e ∨ q = it := by simpa using hq
    rcases e' with z | z
    · rw [z]; exact ⟨_, he, fun v q => nomatch q⟩
    · rw [z]; exact h1.obj
  keep := fun i h h' st k => let ⟨⟨old, he⟩, hi, hne⟩ := st; ⟨⟨old, k e (by simp) _ he⟩, hi.at fun o q => k it (by simp) o q, hne⟩
  item := by
    intro X hP hw hK hc i pins s σ H E I hf st hg
    subst hP hw hK
    obtain ⟨⟨old, he⟩, hit, hne, hea⟩ := st
    obtain ⟨xs, x, hq, hx⟩ := hg
    obtain ⟨its, rv, p, la⟩ := hq.is I
    obtain ⟨u, hu, ru⟩ := rv.get hx
    have hel : e < s.heap.objs.size := Heap.lt_size he
    have hil : it < s.heap.objs.size := by obtain ⟨_, q, _⟩ := hit.obj; exact Heap.lt_size q
    have hlt1 : i < its.toArray.size := by simpa using (List.getElem?_eq_some_iff.mp hu).1
    refine wpAny_pyNext_enum_itemC (drawsB (A := X.A.in1) b (I.ok.hd hc) it a (iterB_ne p hit) its.toArray) he ⟨hit, p⟩ hlt1 hne (by simp [hne, hea]) fun y h' tk e1 ho st' hT hsz hk => ?_
    have e1' : y = u := by simp at e1; rw [hu] at e1; exact (Option.some.inj e1).symm
    subst e1'
    refine ⟨_, rfl, wpAny_letOwnedTupleGo_enum (s := { s with heap := h', toks := tk + 1 }) ho fun h'' he' sb => ?_⟩
    have hT2 : h''.get? s.heap.objs.size = some { cls := .type "tuple", data := .seq #[.int (c + (i : Nat)) tk, y] } := (sb.2 _ (Nat.ne_of_gt hel)).trans hT
    have new : ObjOk X.prog X.w (upd H s.heap.objs.size (.tup [.int (c + (i : Nat)), x])) h'' s.heap.objs.size (.tup [.int (c + (i : Nat)), x]) :=
      ⟨by show 2 ≤ sizeLine; decide, [.int (c + (i : Nat)) tk, y], .cons ⟨_, rfl⟩ (.cons ru .nil), ⟨_, hT2, rfl, _, rfl⟩⟩
    have I1 : Inv X pins σ (upd H s.heap.objs.size (.tup [.int (c + (i : Nat)), x])) { s with heap := h'', toks := tk + 1 } :=
      I.turnedNew (ch := [e, it]) (fun b ob hb q => (sb.2 b (fun z => hb (by simp [z]))).trans (hk b ob (fun z => hb (by simp [z])) (fun z => hb (by simp [z])) q)) hf (Nat.le_refl _) new
    refine ⟨.ref s.heap.objs.size, _, I1, rfl, ⟨_, x, rfl, I.hok.fresh (Nat.le_refl _), rfl, fun ys hy => by rw [SqB.inj I hy hq]; exact hx⟩, ⟨⟨y, ?_⟩, IterB.at st'.1 fun o q => (sb.2 it (Ne.symm hne)).trans q, hne, hea⟩, fun q hb => ?_⟩
    · have e1 : c + ((i + 1 : Nat) : Int) = c + (i : Int) + 1 := by omega
      rw [e1]; exact he'
    · have hb' : q < s.heap.objs.size := by
        have e' : q = e ∨ q = it := by simpa using hb
        rcases e' with z | z
        · rw [z]; exact hel
        · rw [z]; exact hil
      rw [upd_ne (Nat.ne_of_lt hb')]
      exact (hf q hb).1
  done := by
    intro X hP hw hK hc i pins s σ H E I hf st hg
    subst hP hw hK
    obtain ⟨⟨old, he⟩, hit, hne, hea⟩ := st
    obtain ⟨xs, hq, hx⟩ := hg
    obtain ⟨its, rv, p, la⟩ := hq.is I
    obtain ⟨f0, f1, f2, f3, f4, f5⟩ := hf it (by simp)
    have hl := rv.length
    have hn : i = its.toArray.size := by simp; omega
    subst hn
    exact wpAny_pyNext_enum_endD (drawsB (A := X.A.in1) b (I.ok.hd hc) it a (iterB_ne p hit) its.toArray) he ⟨hit, p⟩ fun h' eb => ⟨rfl, I.turned (t' := s.toks) (fun b o hb q => eb b o hb q) f0 f1 f3 f4 f5⟩
  self := fun A i s Q E st h => let ⟨⟨_, he⟩, _⟩ := st; wpAny_pyIter_enum he h
def iEnumB (K : PySem.W.Frag) (ta : TA) : TI := fun σ H R => ta σ H fun vs H1 => ∃ b a xs, vs = [.ref a] ∧ SqB K b H1 a xs ∧ R (IteB K b 0 a) H1
theorem pi_enumB {X : Cx} {e : Expr} {ta : TA} {p pos tpos : Pos} {elts : List Expr} {kk : Nat} (hg : Gl X "enumerate") (hm : X.mg "enumerate" = none) (ha : PA X [e] ta) (hs : starEach [e] X.env = [(false, eval e X.env)]) :
    PI X (.Tuple elts kk tpos) (.Call (.Name "enumerate" p) [e] [] pos) (iEnumB X.K ta) := by
  refine ⟨fun pins s σ H R I h => ?_⟩
  refine Call_ (ld_blt I hg hm (by decide +kernel : bootBuiltins "enumerate" = some (.type "enumerate")) (PyProof.Rows.callWith_type1 (thn (ha.run pos pins s σ H _ I h) fun us s1 ⟨vs, H1, I1, r1, q1⟩ => ?_) hs rfl))
  obtain ⟨b, a, xs, ex, hq, q⟩ := q1
  subst ex
  cases r1 with
  | cons r rr =>
    cases rr
    cases r
    obtain ⟨its, rv, p', la⟩ := hq.is I1
    refine enum_begins1 (beginsB b a its.toArray) p' fun h' he hit hsz hk => wpAny_pyIter_enum he ?_
    have I2 : Inv X pins σ H1 { s1 with heap := h' } := I1.kept (t' := s1.toks) hk
    refine ⟨s1.heap.objs.size + 1, [s1.heap.objs.size + 1, s1.heap.objs.size], _, _, H1, rfl, I2, turn_enumB b 0 a (s1.heap.objs.size + 1) s1.heap.objs.size, ⟨⟨.none, by simpa using he⟩, iterB_new hit, Nat.succ_ne_self _, Nat.ne_of_gt (Nat.lt_succ_of_lt la)⟩, fun b hb => ?_, q⟩
    have e' : b = s1.heap.objs.size + 1 ∨ b = s1.heap.objs.size := by simpa using hb
    have hle : s1.heap.objs.size ≤ b := by
      rcases e' with z | z
      · rw [z]; exact Nat.le_add_right _ _
      · rw [z]; exact Nat.le_refl _
    exact I1.fpOk hle (I1.hok.fresh hle)

/-! ### as walks over data -/
section
variable {K : PySem.W.Frag} {ρ : List Addr} {H : Hp} {m : Mem}
theorem SqB.ext {b : Bool} {H' : Hp} {a : Addr} {vs : List V} (h : SqT K H a vs) (x : Ext H H') : SqT K H' a vs := x.sqt h
/-- what is read of a list or tuple at all later states -/
abbrev Later (K : PySem.W.Frag) (ρ : List Addr) (H : Hp) (b : Bool) (a : Addr) (p : PC.Itr) : Prop := ∀ (ρ' : List Addr) (m' : Mem) (H' : Hp), Rel K ρ' m' H' → ρ <+: ρ' → Ext H H' → guardOk p.2 m' → ∃ vs, SqB K b H' a vs ∧ RVs K ρ' H' p.1 vs
theorem later {d : D} {v : V} {p : PC.Itr} (R : Rel K ρ m H) (r : RV K ρ H d v) (h : iterS m d = some p) : ∃ a b, v = .ref a ∧ Later K ρ H b a p ∧ ∃ vs, SqB K b H a vs ∧ vs.length = p.1.length := by
  obtain ⟨a, rfl, h0⟩ := iterS_ok R r h
  rcases h0 with ⟨⟨_, hg⟩, h0⟩ | ⟨vs, rfl, e, h1, h2⟩
  · obtain ⟨vs, h1, h2⟩ := h0 ρ m H R (List.prefix_refl _) (.refl _) hg
    exact ⟨a, true, rfl, h0, vs, h1, h2.len⟩
  · exact ⟨a, false, rfl, fun ρ' m' H' R' p' x' g => ⟨vs, x'.sqt h1, h2.mono p' x'⟩, vs, h1, h2.len⟩
theorem pair_rv {ρ1 : List Addr} {m1 : Mem} {H1 : Hp} {T : Addr} {x y : V} {d e : D} (R : Rel K ρ1 m1 H1) (hT : H1 T = none) (rx : RV K ρ1 H1 d x) (ry : RV K ρ1 H1 e y) :
    Rel K ρ1 m1 (upd H1 T (.tup [x, y])) ∧ Ext H1 (upd H1 T (.tup [x, y])) ∧ (∀ a ∈ ρ1, upd H1 T (.tup [x, y]) a = H1 a) ∧ RV K ρ1 (upd H1 T (.tup [x, y])) (.tup [d, e]) (.ref T) :=
  ⟨R.new hT, .new hT, fun a ha => upd_ne fun e => R.fresh hT (e ▸ ha), rv_tup hT (by simp only [RVs]; exact ⟨x, [y], rfl, rx, y, [], rfl, ry, rfl⟩)⟩
theorem it_zip {a b : Addr} {b1 b2 : Bool} {p q : PC.Itr} (hp : Later K ρ H b1 a p) (hq : Later K ρ H b2 b q) : RIt K ρ H (zipD p.1 q.1, p.2 ++ q.2) (ItzB K b1 b2 a b) where
  ex := by
    have hl : (zipD p.1 q.1).length = min p.1.length q.1.length := by simp [zipD]
    refine ⟨fun H' => ∃ vs ws, SqB K b1 H' a vs ∧ vs.length = p.1.length ∧ SqB K b2 H' b ws ∧ ws.length = q.1.length, fun i H1 v H2 => ∃ T x y, v = .ref T ∧ H1 T = none ∧ H2 = upd H1 T (.tup [x, y]) ∧ (∀ xs, SqB K b1 H1 a xs → xs[i]? = some x) ∧ ∀ ys, SqB K b2 H1 b ys → ys[i]? = some y, ⟨?_, ?_, fun i H' x H2 hi _ y => y⟩, fun ρ' m' H' R p' x' g => ?_, ?_⟩
    · rintro i H' hi ⟨vs, ws, h1, h2, h3, h4⟩
      simp only [hl] at hi
      exact ⟨vs, ws, vs[i]'(by omega), ws[i]'(by omega), h1, h3, List.getElem?_eq_getElem (by omega), List.getElem?_eq_getElem (by omega)⟩
    · rintro H' ⟨vs, ws, h1, h2, h3, h4⟩
      simp only [hl]
      exact ⟨vs, ws, h1, h3, by omega, by omega, by omega⟩
    · obtain ⟨vs, h1, h2⟩ := hp ρ' m' H' R p' x' (fun z hz => g z (List.mem_append_left _ hz))
      obtain ⟨ws, h3, h4⟩ := hq ρ' m' H' R p' x' (fun z hz => g z (List.mem_append_right _ hz))
      exact ⟨vs, ws, h1, h2.len, h3, h4.len⟩
    · rintro i H1 v H2 ρ1 m1 hi R p' x' g ⟨T, x, y, rfl, hT, rfl, f1, f2⟩
      simp only [hl] at hi
      obtain ⟨vs, h1, h2⟩ := hp ρ1 m1 H1 R p' x' (fun z hz => g z (List.mem_append_left _ hz))
      obtain ⟨ws, h3, h4⟩ := hq ρ1 m1 H1 R p' x' (fun z hz => g z (List.mem_append_right _ hz))
      have hi1 : i < p.1.length := by omega
      have hi2 : i < q.1.length := by omega
      obtain ⟨u, hu, ru⟩ := h2.get (List.getElem?_eq_getElem hi1)
      obtain ⟨u2, hu2, ru2⟩ := h4.get (List.getElem?_eq_getElem hi2)
      rw [f1 vs h1] at hu; cases hu
      rw [f2 ws h3] at hu2; cases hu2
      obtain ⟨k1, k2, k3, k4⟩ := pair_rv R hT ru ru2
      exact ⟨k1, k2, k3, .tup [p.1[i], q.1[i]], by simp [zipD, List.getElem?_zip_eq_some, hi1, hi2], k4⟩
theorem it_enum {a : Addr} {b1 : Bool} {p : PC.Itr} (hp : Later K ρ H b1 a p) : RIt K ρ H (enumD p.1, p.2) (IteB K b1 0 a) where
  ex := by
    have hl : (enumD p.1).length = p.1.length := by simp [enumD]
    refine ⟨fun H' => ∃ vs, SqB K b1 H' a vs ∧ vs.length = p.1.length, fun i H1 v H2 => ∃ T x, v = .ref T ∧ H1 T = none ∧ H2 = upd H1 T (.tup [.int (0 + (i : Nat)), x]) ∧ ∀ xs, SqB K b1 H1 a xs → xs[i]? = some x, ⟨?_, ?_, fun i H' x H2 hi _ y => y⟩, fun ρ' m' H' R p' x' g => ?_, ?_⟩
    · rintro i H' hi ⟨vs, h1, h2⟩
      simp only [hl] at hi
      exact ⟨vs, vs[i]'(by omega), h1, List.getElem?_eq_getElem (by omega)⟩
    · rintro H' ⟨vs, h1, h2⟩
      simp only [hl]
      exact ⟨vs, h1, by omega⟩
    · obtain ⟨vs, h1, h2⟩ := hp ρ' m' H' R p' x' g
      exact ⟨vs, h1, h2.len⟩
    · rintro i H1 v H2 ρ1 m1 hi R p' x' g ⟨T, x, rfl, hT, rfl, f1⟩
      simp only [hl] at hi
      obtain ⟨vs, h1, h2⟩ := hp ρ1 m1 H1 R p' x' g
      obtain ⟨u, hu, ru⟩ := h2.get (List.getElem?_eq_getElem hi)
      rw [f1 vs h1] at hu; cases hu
      obtain ⟨k1, k2, k3, k4⟩ := pair_rv (d := .int (0 + (i : Nat))) (x := .int (0 + (i : Nat))) R hT (by simp only [RV]) ru
      exact ⟨k1, k2, k3, .tup [.int (0 + (i : Nat)), p.1[i]], by simp [enumD, hi], k4⟩
end
end PC

namespace PC
open PySem L2 Classical
section
variable {K : PySem.W.Frag} {mg : Str → Option Value} {Γ : Fn} {G : Str → Option D} {N : List Str} {k n : Nat} {sc : Sc} {F : Cx → Prop} {ρ : List Addr} {H : Hp} {m : Mem}
theorem it_rev {a : Addr} {b1 : Bool} {p : PC.Itr} (hp : Later K ρ H b1 a p) : RIt K ρ H (p.1.reverse, p.2) (match b1 with | true => Itv K a p.1.length | false => RT.ItvT K a p.1.length) where
  ex := by
    have hl : p.1.reverse.length = p.1.length := by simp
    have key : ∀ (i : Nat) H1 x ρ1 m1, i < p.1.reverse.length → Rel K ρ1 m1 H1 → ρ <+: ρ1 → Ext H H1 → guardOk p.2 m1 → (∀ xs, SqB K b1 H1 a xs → xs[p.1.length - 1 - i]? = some x) → ∃ d, p.1.reverse[i]? = some d ∧ RV K ρ1 H1 d x := by
      intro i H1 x ρ1 m1 hi R p' x' g f
      rw [hl] at hi
      obtain ⟨vs, h1, h2⟩ := hp ρ1 m1 H1 R p' x' g
      have hj : p.1.length - 1 - i < p.1.length := by omega
      obtain ⟨u, hu, ru⟩ := h2.get (List.getElem?_eq_getElem hj)
      rw [f vs h1] at hu; cases hu
      exact ⟨_, by rw [List.getElem?_reverse hi]; exact List.getElem?_eq_getElem hj, ru⟩
    cases b1 with
    | true =>
      refine ⟨fun H' => ∃ vs, SqL K H' a vs ∧ vs.length = p.1.length, fun i H1 x H2 => H2 = H1 ∧ ∀ xs, SqL K H1 a xs → xs[p.1.length - 1 - i]? = some x, ⟨?_, ?_, fun i H' x H2 hi _ y => y⟩, fun ρ' m' H' R p' x' g => ?_, ?_⟩
      · rintro i H' hi ⟨vs, h1, h2⟩
        simp only [hl] at hi
        exact ⟨hi, vs, vs[p.1.length - 1 - i]'(by omega), h1, List.getElem?_eq_getElem (by omega)⟩
      · rintro H' ⟨vs, h1, h2⟩
        simp only [hl]
        exact Nat.le_refl _
      · obtain ⟨vs, h1, h2⟩ := hp ρ' m' H' R p' x' g
        exact ⟨vs, h1, h2.len⟩
      · rintro i H1 x H2 ρ1 m1 hi R p' x' g ⟨rfl, f⟩
        exact ⟨R, .refl _, fun _ _ => rfl, key i H2 x ρ1 m1 hi R p' x' g f⟩
    | false =>
      refine ⟨fun H' => ∃ vs, SqT K H' a vs ∧ vs.length = p.1.length, fun i H1 x H2 => H2 = H1 ∧ ∀ xs, SqT K H1 a xs → xs[p.1.length - 1 - i]? = some x, ⟨?_, ?_, fun i H' x H2 hi _ y => y⟩, fun ρ' m' H' R p' x' g => ?_, ?_⟩
      · rintro i H' hi ⟨vs, h1, h2⟩
        simp only [hl] at hi
        exact ⟨hi, vs, vs[p.1.length - 1 - i]'(by omega), h1, List.getElem?_eq_getElem (by omega)⟩
      · rintro H' ⟨vs, h1, h2⟩
        simp only [hl]
        exact Nat.le_refl _
      · obtain ⟨vs, h1, h2⟩ := hp ρ' m' H' R p' x' g
        exact ⟨vs, h1, h2.len⟩
      · rintro i H1 x H2 ρ1 m1 hi R p' x' g ⟨rfl, f⟩
        exact ⟨R, .refl _, fun _ _ => rfl, key i H2 x ρ1 m1 hi R p' x' g f⟩
theorem bO_succ (S : Snd K mg Γ G N k n) (hF : Fam K mg Γ G N k sc F) {es : List Expr} {ce : CBO} (hc : ckBO N (n + 1) sc es ce = true) {σ : Loc} {σV : L2.St} {Q : Bool → Hp → Prop}
    (R : Rel K ρ m H) (rl : RL K ρ H σ σV) (h : Post K RB ρ H Q (dBO Γ G ce σ m)) : bTs F es σV H Q := by
  unfold ckBO at hc
  split at hc
  case h_1 => cases hc
  case h_2 => exact ⟨tYes, fun X _ => pts_nil, Post.ok (a := true) (by simpa only [dBO] using h) R rfl⟩
  case h_3 =>
    rename_i e c hn
    cases hn
    exact ⟨bT F e, fun X hX => pts_one (bT_ok hX e), S.sB hF hc R rl (by simpa only [dBO] using h)⟩
  case h_4 => cases hc
theorem cmp_bool {o : CmpOp} {x y : D} {Q : VK} {v w : V} (hF : Few K F) (R : Rel K ρ m H) (rx : RV K ρ H x v) (ry : RV K ρ H y w) {Qb : Bool → Hp → Prop}
    (h : Post K RB ρ H Qb ((opC o x y m).bind truR)) : bOp F (compareOp o) v w H (fun z H' => ∃ b, z = .bl b ∧ Qb b H') := by
  have hb : ∀ d m', opC o x y m = .ok d m' → ∃ b, d = .bool b := by
    intro d m' e
    unfold opC at e
    split at e <;> first
      | (cases e; exact ⟨_, rfl⟩)
      | (unfold ofB at e; split at e <;> first | (cases e; exact ⟨_, rfl⟩) | cases e)
      | (unfold ofNB at e; split at e <;> first | (cases e; exact ⟨_, rfl⟩) | cases e)
      | (split at e <;> first | cases e | (unfold ofB at e; split at e <;> first | (cases e; exact ⟨_, rfl⟩) | cases e) | (unfold ofNB at e; split at e <;> first | (cases e; exact ⟨_, rfl⟩) | cases e))
      | cases e
  refine opC_ok hF R rx ry ?_
  cases e : opC o x y m with
  | bad => rw [e] at h; exact h
  | ex => rw [e] at h; exact h
  | ok d m' =>
    obtain ⟨b, rfl⟩ := hb d m' e
    rw [e] at h
    simp only [Res.ok_bind, truR, truD] at h
    intro ρ' H' v' R' p' x' r'
    simp only [RV] at r'
    exact ⟨b, r', h ρ' H' b R' p' x' rfl⟩
theorem bB_succ (S : Snd K mg Γ G N k n) (hF : Fam K mg Γ G N k sc F) {e : Expr} {ce : CB} (hc : ckB N (n + 1) sc e ce = true) {σ : Loc} {σV : L2.St} {Q : Bool → Hp → Prop}
    (R : Rel K ρ m H) (rl : RL K ρ H σ σV) (h : Post K RB ρ H Q (dB Γ G ce σ m)) : bT F e σV H Q := by
  unfold ckB at hc
  split at hc
  case h_1 => cases hc
  case h_2 =>
    rename_i a pos x hn
    cases hn
    simp only [dB] at h
    refine ⟨tNot (bT F a), fun X hX => pt_not (bT_ok hX a), S.sB hF hc R rl (h.bind fun b m1 ρ1 H1 v R1 p1 x1 r1 h1 => ?_)⟩
    subst r1
    exact Post.ok h1 R1 rfl
  case h_3 =>
    rename_i op vs pos hn
    cases hn
    obtain ⟨t, ht, q⟩ := and_or_t (F := F) (f := ckB N n _) (op := op) (pos := pos) (fun {e ce} h => S.sB hF h) hc R rl h
    exact ⟨t, fun X hX => (ht X hX).pt, q⟩
  case h_4 =>
    rename_i a o b pos p x y hn
    cases hn
    simp only [Bool.and_eq_true, decEqC, decide_eq_true_eq] at hc
    obtain ⟨⟨⟨rfl, hs⟩, ha⟩, hb⟩ := hc
    simp only [dB, dE] at h
    refine ⟨tTest (tOp (bOp F (compareOp o)) (bE F a) (bE F b)), fun X hX => pt_cmpR (bOp_ok hX _) (bE_ok hX a) (bE_ok hX b) (mark_no hs), ?_⟩
    have h' : Post K RB ρ H Q ((dE Γ G x σ m).bind fun u m1 => (dE Γ G y σ m1).bind fun w m2 => (opC o u w m2).bind truR) := by
      cases e1 : dE Γ G x σ m with
      | bad => rw [e1] at h; exact h
      | ex => rw [e1] at h; exact h
      | ok u m1 =>
        rw [e1] at h
        simp only [Res.ok_bind] at h ⊢
        cases e2 : dE Γ G y σ m1 with
        | bad => rw [e2] at h; exact h
        | ex => rw [e2] at h; exact h
        | ok w m2 => rw [e2] at h; simpa only [Res.ok_bind] using h
    refine S.sE hF ha R rl (h'.bind fun d m1 ρ1 H1 v R1 p1 x1 r1 h1 => ?_)
    refine S.sE hF hb R1 (rl.mono p1 x1) (h1.bind fun d2 m2 ρ2 H2 v2 R2 p2 x2 r2 h2 => ?_)
    exact cmp_bool (Q := fun _ _ => True) hF.toFew R2 (r1.mono p2 x2) r2 h2
  case h_5 =>
    rename_i a o o' b c pos p p' x y z hn
    cases hn
    simp only [Bool.and_eq_true, decEqC, decide_eq_true_eq] at hc
    obtain ⟨⟨⟨⟨⟨⟨rfl, rfl⟩, hs⟩, hs2⟩, ha⟩, hb⟩, hcc⟩ := hc
    simp only [dB, dE] at h
    have hm : lastMarks [o, o'] [b, c] = false := by show behindInMarks o' c = false; exact mark_no hs2
    refine ⟨tTest (tChain (bOp F (compareOp o)) (bOp F (compareOp o')) (bE F a) (bE F b) (bE F c)), fun X hX => pt_chain (bOp_ok hX _) (bOp_ok hX _) (bE_ok hX a) (bE_ok hX b) (bE_ok hX c) hm, ?_⟩
    have h' : Post K RB ρ H Q ((dE Γ G x σ m).bind fun u m1 => (dE Γ G y σ m1).bind fun w m2 => (opC o u w m2).bind fun d m3 => match d with
        | .bool true => (dE Γ G z σ m3).bind fun w' m4 => (opC o' w w' m4).bind truR
        | .bool false => .ok false m3
        | _ => .bad) := by
      cases e1 : dE Γ G x σ m with
      | bad => rw [e1] at h; exact h
      | ex => rw [e1] at h; exact h
      | ok u m1 =>
        rw [e1] at h
        simp only [Res.ok_bind] at h ⊢
        cases e2 : dE Γ G y σ m1 with
        | bad => rw [e2] at h; exact h
        | ex => rw [e2] at h; exact h
        | ok w m2 =>
          rw [e2] at h
          simp only [Res.ok_bind] at h ⊢
          cases e3 : opC o u w m2 with
          | bad => rw [e3] at h; exact h
          | ex => rw [e3] at h; exact h
          | ok d m3 =>
            rw [e3] at h
            simp only [Res.ok_bind] at h ⊢
            split
            · simp only at h
              cases e4 : dE Γ G z σ m3 with
              | bad => rw [e4] at h; exact h
              | ex => rw [e4] at h; exact h
              | ok w' m4 => rw [e4] at h; simpa only [Res.ok_bind] using h
            · simpa only [Res.ok_bind, truR, truD] using h
            · rename_i h1 h2
              split at h
              · exact absurd rfl h1
              · exact absurd rfl h2
              · exact h
    refine S.sE hF ha R rl (h'.bind fun d m1 ρ1 H1 v R1 p1 x1 r1 h1 => ?_)
    refine S.sE hF hb R1 (rl.mono p1 x1) (h1.bind fun d2 m2 ρ2 H2 v2 R2 p2 x2 r2 h2 => ?_)
    refine opC_ok hF.toFew R2 (r1.mono p2 x2) r2 (h2.bind fun d3 m3 ρ3 H3 v3 R3 p3 x3 r3 h3 => ?_)
    split at h3
    · simp only [RV] at r3
      refine ⟨true, r3, ?_⟩
      show bE F c σV H3 _
      refine S.sE hF hcc R3 (((rl.mono p1 x1).mono p2 x2).mono p3 x3) (h3.bind fun d4 m4 ρ4 H4 v4 R4 p4 x4 r4 h4 => ?_)
      exact cmp_bool (Q := fun _ _ => True) hF.toFew R4 ((r2.mono p3 x3).mono p4 x4) r4 h4
    · simp only [RV] at r3
      refine ⟨false, r3, ?_⟩
      exact ⟨false, rfl, Post.ok h3 R3 rfl⟩
    · exact h3.elim
  case h_6 =>
    rename_i x hn hh0 hh1 hh2
    cases hn
    simp only [Bool.and_eq_true] at hc
    simp only [dB] at h
    refine ⟨fun σ H Q => bE F _ σ H fun x H' => ∃ k, TruV K x H' k ∧ Q k H', fun X hX => hF.eK X hX ▸ pt_truth (bE_ok hX _) (plain_test hc.1), ?_⟩
    refine S.sE hF hc.2 R rl (h.bind fun d m1 ρ1 H1 v R1 p1 x1 r1 h1 => ?_)
    unfold truR at h1
    cases e : truD m1 d with
    | none => rw [e] at h1; exact h1.elim
    | some b =>
      rw [e] at h1
      exact ⟨b, tru_rel R1 r1 e, Post.ok h1 R1 rfl⟩
  case h_7 => cases hc
end
end PC

namespace PC
open PySem L2 Classical
section
variable {K : PySem.W.Frag} {mg : Str → Option Value} {Γ : Fn} {G : Str → Option D} {N : List Str} {k n : Nat} {sc : Sc} {F : Cx → Prop} {ρ : List Addr} {H : Hp} {m : Mem}
theorem bltN_none (hF : Fam K mg Γ G N k sc F) {x : Str} (h : x ∈ bltN) {X : Cx} (hX : F X) : X.mg x = none := by
  rw [hF.eg X hX]; exact hF.blt x h
theorem one_args {f : Expr → CE → Bool} (hE : SndE K Γ G F f) {a : Expr} {x : CE} (ha : noSt a = true) (hx : f a x = true) {σ : Loc} {σV : L2.St} {Q : List V → Hp → Prop} (R : Rel K ρ m H) (rl : RL K ρ H σ σV)
    (h : Post K (RV K) ρ H (fun v H' => Q [v] H') (dE Γ G x σ m)) : bA F [a] σV H Q :=
  ⟨tCons (bE F a) tNil, fun X hX => pa_cons (bE_ok hX a) pa_nil (starEach_cons ha), hE hx R rl h⟩
theorem two_args {f : Expr → CE → Bool} (hE : SndE K Γ G F f) {a b : Expr} {x y : CE} (ha : noSt a = true) (hb : noSt b = true) (hx : f a x = true) (hy : f b y = true) {σ : Loc} {σV : L2.St} {Q : List V → Hp → Prop} (R : Rel K ρ m H) (rl : RL K ρ H σ σV)
    {α β : Type} {RS : List Addr → Hp → α → β → Prop} {Q0 : β → Hp → Prop} {ff : D → D → Mem → Res α}
    (h : Post K RS ρ H Q0 ((dE Γ G x σ m).bind fun u m1 => (dE Γ G y σ m1).bind fun w m2 => ff u w m2))
    (k : ∀ d e m1 ρ1 H1 v w, Rel K ρ1 m1 H1 → ρ <+: ρ1 → Ext H H1 → RV K ρ1 H1 d v → RV K ρ1 H1 e w → Post K RS ρ1 H1 Q0 (ff d e m1) → Q [v, w] H1) : bA F [a, b] σV H Q :=
  ⟨tCons (bE F a) (tCons (bE F b) tNil), fun X hX => pa_cons (bE_ok hX a) (pa_cons (bE_ok hX b) pa_nil (starEach_cons hb)) (starEach_cons ha),
    hE hx R rl (h.bind fun d m1 ρ1 H1 v R1 p1 x1 r1 h1 => hE hy R1 (rl.mono p1 x1) (h1.bind fun d2 m2 ρ2 H2 v2 R2 p2 x2 r2 h2 => k d d2 m2 ρ2 H2 v v2 R2 (p1.trans p2) (x1.trans x2) (r1.mono p2 x2) r2 h2))⟩
theorem call_ok (hF : Fam K mg Γ G N k sc F) {f : Expr → CE → Bool} (hE : SndE K Γ G F f) {fn : Str} {es : List Expr} {cs : CEs} {p pos : Pos} (hg : isGl sc fn = true) (hd : nDebug fn = true) (ha : ckAll f es cs = true)
    {σ : Loc} {σV : L2.St} {Q : VK} (R : Rel K ρ m H) (rl : RL K ρ H σ σV) (h : Post K (RV K) ρ H Q (dE Γ G (.call fn cs) σ m)) : bE F (.Call (.Name fn p) es [] pos) σV H Q := by
  simp only [dE] at h
  have hex : ∃ xs m1, dEs Γ G cs σ m = .ok xs m1 ∧ Γ fn xs m1 ≠ .bad := by
    cases e : dEs Γ G cs σ m with
    | bad => rw [e] at h; exact h.elim
    | ex => rw [e] at h; exact h.elim
    | ok xs m1 =>
      rw [e] at h
      simp only [Res.ok_bind] at h
      exact ⟨xs, m1, rfl, fun z => by rw [z] at h; exact h⟩
  obtain ⟨xs, m1, e1, hb⟩ := hex
  obtain ⟨a, fd, ps, hl, h1, h2, h3, h4⟩ := hF.calls fn xs m1 hb
  have hns := ckAll_noSt ha
  have key : bA F es σV H fun vs H1 => spI K ps.length (Γ fn) (vs ++ []) H1 Q E0 := by
    refine args_ok hE ha R rl (h.bind0 fun ds m2 ρ2 H2 vs e2 R2 p2 x2 r2 h2' => ?_)
    rw [e1] at e2; cases e2
    rw [List.append_nil]
    exact ⟨by rw [r2.len]; exact hl, xs, m1, ρ2, R2, r2, Post.mono p2 x2 h2'⟩
  cases es with
  | nil =>
    refine ⟨tCall (spI K ps.length (Γ fn)) [] E0 tNil, fun X hX => pe_call0 (h4 X hX) (hF.room X hX) (hF.gl hg hX) (by rw [hF.eg X hX]; exact h1) (by rw [hF.eK X hX]; exact h2) (by rw [hF.eK X hX]; exact h3) .nil pass0 (nDebug_1 hd).1, ?_⟩
    cases cs with
    | cons _ _ => simp [ckAll] at ha
    | nil =>
      simp only [dEs] at e1 h
      simp only [Res.ok.injEq] at e1
      obtain ⟨rfl, rfl⟩ := e1
      simp only [Res.ok_bind] at h
      exact ⟨hl, [], m, ρ, R, by simp [RVs], h⟩
  | cons e es =>
    simp only [List.all_cons, Bool.and_eq_true] at hns
    exact ⟨tCall (spI K ps.length (Γ fn)) [] E0 (bA F (e :: es)), fun X hX => pe_call (h4 X hX) (hF.room X hX) (hF.gl hg hX) (by rw [hF.eg X hX]; exact h1) (by rw [hF.eK X hX]; exact h2) (by rw [hF.eK X hX]; exact h3) .nil pass0 (bA_ok hX (e :: es)) (nDebug_1 hd).1 (starEach_cons hns.1) (back_any hns.2), key⟩
theorem biCall_ok (hF : Fam K mg Γ G N k sc F) {f : Expr → CE → Bool} (hE : SndE K Γ G F f) {b : BI} {es : List Expr} {cs : CEs} {p pos : Pos} (hg : isGl sc b.name = true) (hne : es ≠ []) (ha : ckAll f es cs = true)
    {σ : Loc} {σV : L2.St} {Q : VK} (R : Rel K ρ m H) (rl : RL K ρ H σ σV) (h : Post K (RV K) ρ H Q (dE Γ G (.bi b cs) σ m)) : bE F (.Call (.Name b.name p) es [] pos) σV H Q := by
  simp only [dE] at h
  have hns := ckAll_noSt ha
  have key : bA F es σV H fun vs H1 => bCa F b.val vs H1 Q :=
    args_ok hE ha R rl (h.bind fun ds m2 ρ2 H2 vs R2 p2 x2 r2 h2' => bi_ok hF.toFew R2 r2 h2')
  cases es with
  | nil => exact absurd rfl hne
  | cons e es =>
    simp only [List.all_cons, Bool.and_eq_true] at hns
    refine ⟨tCB (bCa F b.val) (bA F (e :: es)), fun X hX => ?_, key⟩
    have k1 : CallR X b.val (bCa F b.val) := bCa_ok hX _
    have k2 := boot_bi b
    cases hv : b.val with
    | builtin id =>
      rw [hv] at k1 k2
      exact pe_callB k1 (hF.gl hg hX) (bltN_none hF (name_bi b) hX) k2 (bA_ok hX (e :: es)) (nn_bi b).1 (nn_bi b).2 (starEach_cons hns.1) (back_any hns.2)
    | type T =>
      rw [hv] at k1 k2
      exact pe_callTy k1 (hF.gl hg hX) (bltN_none hF (name_bi b) hX) k2 (bA_ok hX (e :: es)) (nn_bi b).1 (nn_bi b).2 (starEach_cons hns.1) (back_any hns.2)
    | _ => cases b <;> cases hv
theorem I_succ (S : Snd K mg Γ G N k n) (hF : Fam K mg Γ G N k sc F) {tg e : Expr} {ce : CI} (hc : ckI N (n + 1) sc tg e ce = true) {σ : Loc} {σV : L2.St} {Q : It → Hp → Prop}
    (R : Rel K ρ m H) (rl : RL K ρ H σ σV) (h : Post K (RIt K) ρ H Q (dI Γ G ce σ m)) : bI F tg e σV H Q := by
  have hE : ∀ {sc} {F : Cx → Prop}, Fam K mg Γ G N k sc F → SndE K Γ G F (ckE N n sc) := fun {sc F} hF {e ce} h => S.sE hF h
  unfold ckI at hc
  split at hc
  case h_1 => cases hc
  case h_2 =>
    rename_i x hn
    cases hn
    simp only [dI] at h
    have hex : ∃ d m1, dE Γ G x σ m = .ok d m1 := by
      cases e : dE Γ G x σ m with
      | bad => rw [e] at h; exact h.elim
      | ex => rw [e] at h; exact h.elim
      | ok xs m1 => exact ⟨xs, m1, rfl⟩
    obtain ⟨d, m1, e1⟩ := hex
    cases d with
    | tup xs =>
      refine ⟨iTup K (bE F _), fun X hX => hF.eK X hX ▸ pi_tup (bE_ok hX _), S.sE hF hc R rl (h.bind0 fun d m2 ρ1 H1 v e2 R1 p1 x1 r1 h1 => ?_)⟩
      rw [e1] at e2; cases e2
      simp only [iterD] at h1
      simp only [RV] at r1
      obtain ⟨a, vs, rfl, h2, h3⟩ := r1
      exact ⟨a, rfl, ⟨vs, h2⟩, h1 ρ1 H1 _ R1 p1 x1 (it_tup h2 h3)⟩
    | str z =>
      refine ⟨iStr (bE F _), fun X hX => pi_str (bE_ok hX _), S.sE hF hc R rl (h.bind0 fun d m2 ρ1 H1 v e2 R1 p1 x1 r1 h1 => ?_)⟩
      rw [e1] at e2; cases e2
      simp only [iterD] at h1
      simp only [RV] at r1; subst r1
      exact ⟨z, rfl, h1 ρ1 H1 _ R1 p1 x1 it_str⟩
    | ref j =>
      refine ⟨iList K (bE F _), fun X hX => hF.eK X hX ▸ pi_list (bE_ok hX _), S.sE hF hc R rl (h.bind0 fun d m2 ρ1 H1 v e2 R1 p1 x1 r1 h1 => ?_)⟩
      rw [e1] at e2; cases e2
      simp only [iterD] at h1
      have hS : ∀ p, iterS m1 (.ref j) = some p → Post K (RIt K) ρ H Q (.ok p m1) → ∃ a, v = .ref a ∧ (∃ xs, SqL K H1 a xs) ∧ Q (Itl K a) H1 := by
        intro p hp hq
        obtain ⟨a, b, rfl, hL, vs, hv, _⟩ := later R1 r1 hp
        obtain ⟨a', ea, h0⟩ := iterS_ok R1 r1 hp
        cases ea
        rcases h0 with ⟨⟨_, hg⟩, h0⟩ | ⟨_, hd, _⟩
        · obtain ⟨us, k1, _⟩ := h0 ρ1 m1 H1 R1 (List.prefix_refl _) (.refl _) hg
          exact ⟨a, rfl, ⟨us, k1⟩, hq ρ1 H1 _ R1 p1 x1 (it_list h0)⟩
        · cases hd
      split at h1
      · rename_i p e3
        split at e3
        · rename_i xs e4; cases e3; exact hS _ (by simp [iterS, e4]) h1
        · cases e3
      · exact h1.elim
    | kl xs =>
      refine ⟨iList K (bE F _), fun X hX => hF.eK X hX ▸ pi_list (bE_ok hX _), S.sE hF hc R rl (h.bind0 fun d m2 ρ1 H1 v e2 R1 p1 x1 r1 h1 => ?_)⟩
      rw [e1] at e2; cases e2
      simp only [iterD] at h1
      obtain ⟨a, ea, h0⟩ := iterS_ok (p := (xs, [])) R1 r1 rfl
      subst ea
      rcases h0 with ⟨⟨_, hg⟩, h0⟩ | ⟨_, hd, _⟩
      · obtain ⟨us, k1, _⟩ := h0 ρ1 _ H1 R1 (List.prefix_refl _) (.refl _) hg
        exact ⟨a, rfl, ⟨us, k1⟩, h1 ρ1 H1 _ R1 p1 x1 (it_list h0)⟩
      · cases hd
    | _ => rw [e1] at h; simp only [Res.ok_bind, iterD] at h; exact h.elim
  case h_3 =>
    rename_i f p a pos x hn
    cases hn
    simp only [Bool.and_eq_true, decide_eq_true_eq] at hc
    obtain ⟨⟨⟨rfl, hg⟩, hs⟩, hx⟩ := hc
    simp only [dI] at h
    refine ⟨iRng1 (bA F [a]), fun X hX => pi_range1 (hF.gl hg hX) (bltN_none hF (by decide +kernel) hX) (bA_ok hX _) (starEach_cons hs), one_args (hE hF) hs hx R rl (h.bind fun d m1 ρ1 H1 v R1 p1 x1 r1 h1 => ?_)⟩
    split at h1
    · split at h1
      · rename_i j hj
        simp only [RV] at r1; subst r1
        have hj' : (j - 0).toNat = j.toNat := by rw [Int.sub_zero]
        exact ⟨j, rfl, hj.1, hj.2, h1.ok R1 (by have := it_range (K := K) (ρ := ρ1) (H := H1) (lo := 0) (hi := j); rwa [hj'] at this)⟩
      · exact h1.elim
    · exact h1.elim
  case h_4 =>
    rename_i f p a b pos x y hn
    cases hn
    simp only [Bool.and_eq_true, decide_eq_true_eq] at hc
    obtain ⟨⟨⟨⟨⟨rfl, hg⟩, hs⟩, hs2⟩, hx⟩, hy⟩ := hc
    simp only [dI] at h
    refine ⟨iRng2 (bA F [a, b]), fun X hX => pi_range2 (hF.gl hg hX) (bltN_none hF (by decide +kernel) hX) (bA_ok hX _) (by rw [starEach_cons hs, starEach_cons hs2]; rfl) (starEach_cons hs2), two_args (hE hF) hs hs2 hx hy R rl h fun d e m1 ρ1 H1 v w R1 p1 x1 r1 r2 h1 => ?_⟩
    split at h1
    · rename_i i j
      split at h1
      · rename_i hij
        simp only [RV] at r1 r2; subst r1; subst r2
        exact ⟨i, j, rfl, ⟨hij.1.1, hij.1.2, hij.2.1, hij.2.2⟩, h1.ok R1 it_range⟩
      · exact h1.elim
    · exact h1.elim
  case h_5 =>
    rename_i ts kk tp f p a b pos x y hn
    cases hn
    simp only [Bool.and_eq_true, decide_eq_true_eq] at hc
    obtain ⟨⟨⟨⟨⟨rfl, hg⟩, hs⟩, hs2⟩, hx⟩, hy⟩ := hc
    simp only [dI] at h
    refine ⟨iZipB K (bA F [a, b]), fun X hX => hF.eK X hX ▸ pi_zipB (hF.gl hg hX) (bltN_none hF (by decide +kernel) hX) (bA_ok hX _) (starEach_cons hs) (back_any (by simp [hs2])), two_args (hE hF) hs hs2 hx hy R rl h fun d e m1 ρ1 H1 v w R1 p1 x1 r1 r2 h1 => ?_⟩
    split at h1
    · rename_i p q e1 e2
      obtain ⟨a', b1, rfl, l1, vs, q1, hlen⟩ := later R1 r1 e1
      obtain ⟨b', b2, rfl, l2, ws, q2, _⟩ := later R1 r2 e2
      exact ⟨b1, b2, a', b', vs, ws, rfl, q1, q2, h1.ok R1 (it_zip l1 l2)⟩
    · exact h1.elim
  case h_6 =>
    rename_i ts kk tp f p a pos x hn
    cases hn
    simp only [Bool.and_eq_true, decide_eq_true_eq] at hc
    obtain ⟨⟨⟨rfl, hg⟩, hs⟩, hx⟩ := hc
    simp only [dI] at h
    refine ⟨iEnumB K (bA F [a]), fun X hX => hF.eK X hX ▸ pi_enumB (hF.gl hg hX) (bltN_none hF (by decide +kernel) hX) (bA_ok hX _) (starEach_cons hs), one_args (hE hF) hs hx R rl (h.bind fun d m1 ρ1 H1 v R1 p1 x1 r1 h1 => ?_)⟩
    split at h1
    · rename_i p e1
      obtain ⟨a', b1, rfl, l1, vs, q1, hlen⟩ := later R1 r1 e1
      exact ⟨b1, a', vs, rfl, q1, h1.ok R1 (it_enum l1)⟩
    · exact h1.elim
  case h_7 =>
    rename_i f p a pos x hn
    cases hn
    simp only [Bool.and_eq_true, decide_eq_true_eq] at hc
    obtain ⟨⟨⟨rfl, hg⟩, hs⟩, hx⟩ := hc
    simp only [dI] at h
    refine ⟨RT.iRevA K (bE F a), fun X hX => hF.eK X hX ▸ RT.pi_revA (hF.gl hg hX) (bltN_none hF (by decide +kernel) hX) (bE_ok hX _) (starEach_cons hs), S.sE hF hx R rl (h.bind fun d m1 ρ1 H1 v R1 p1 x1 r1 h1 => ?_)⟩
    split at h1
    · rename_i p e1
      obtain ⟨a', b1, rfl, l1, vs, q1, hlen⟩ := later R1 r1 e1
      have hr := h1.ok R1 (it_rev l1)
      refine ⟨a', vs, rfl, ?_⟩
      cases b1
      · exact .inr ⟨q1, by rw [hlen]; exact hr⟩
      · exact .inl ⟨q1, by rw [hlen]; exact hr⟩
    · exact h1.elim
  case h_8 => cases hc
end
end PC

namespace PC
open PySem L2 Classical
section
variable {K : PySem.W.Frag} {mg : Str → Option Value} {Γ : Fn} {G : Str → Option D} {N : List Str} {k n : Nat} {sc : Sc} {F : Cx → Prop} {ρ : List Addr} {H : Hp} {m : Mem}
/-! ### targets -/
theorem RL.set {σ : Loc} {σV : L2.St} {i : Nat} {d : D} {v : V} (h : RL K ρ H σ σV) (r : RV K ρ H d v) : RL K ρ H (σ.set i (some d)) (σV.set i (some v)) := by
  refine ⟨by simp [h.1], fun j e q => ?_⟩
  by_cases hij : i = j
  · subst hij
    rw [List.getElem?_set_self'] at q ⊢
    cases hs : σ[i]? with
    | none => rw [hs] at q; simp at q
    | some z =>
      rw [hs] at q
      simp at q
      subst q
      have hi : i < σV.length := by rw [h.1]; exact (List.getElem?_eq_some_iff.mp hs).1
      exact ⟨v, by simp [List.getElem?_eq_getElem hi], r⟩
  · rw [List.getElem?_set_ne hij] at q ⊢
    exact h.2 j e q
/-- unpacked from a list -/
theorem pg_tupB {X : Cx} {es : List Expr} {kk : Nat} {pos : Pos} {t : TGs} (hc : X.calm = true) (h : PGs X es t) (hns : es.all noSt = true) : PG X (.Tuple es kk pos) (gTup X.K es.length t) ∧ PG X (.Tuple es kk pos) (gLst X.K es.length t) := by
  obtain ⟨h1, h2⟩ := assign_len (env := X.env) hns
  exact ⟨pg_tup hc h h1 h2, pg_lst hc h h1 h2⟩
theorem ckTs_len {f : Expr → CT → Bool} : ∀ {ts : List Expr} {cts : CTs} {ds : List D} {σ : Loc} {m : Mem}, ckTs f ts cts = true → dTs Γ G cts ds σ m ≠ .bad → (∀ e m', dTs Γ G cts ds σ m ≠ .ex e m') → ds.length = ts.length
  | [], .nil, [], _, _, _, _, _ => rfl
  | [], .nil, _ :: _, _, _, _, h, _ => absurd (by simp only [dTs]) h
  | [], .cons _ _, _, _, _, hc, _, _ => by simp [ckTs] at hc
  | _ :: _, .nil, _, _, _, hc, _, _ => by simp [ckTs] at hc
  | _ :: _, .cons _ _, [], _, _, _, h, _ => absurd (by simp only [dTs]) h
  | t :: ts, .cons ct cts, d :: ds, σ, m, hc, h, h' => by
    simp only [ckTs, Bool.and_eq_true] at hc
    simp only [dTs] at h h'
    cases e : dT Γ G ct d σ m with
    | bad => rw [e] at h; exact absurd rfl h
    | ex e0 m0 => rw [e] at h'; exact absurd rfl (h' e0 m0)
    | ok σ1 m1 =>
      rw [e] at h h'
      simp only [Res.ok_bind] at h h'
      simp [ckTs_len hc.2 h h']
theorem Ts_ok {f : Expr → CT → Bool} (hT : ∀ {t ct}, f t ct = true → ∀ {d v σ m ρ σV H Q} (P : L2.St → Prop), (∀ i v s, tgtHas ct i = true → P s → P (s.set i (some v))) → P σV → Rel K ρ m H → RL K ρ H σ σV → RV K ρ H d v →
    Post K (RLp K P) ρ H Q (dT Γ G ct d σ m) → bG F t v σV H Q) : ∀ {ts : List Expr} {cts : CTs}, ckTs f ts cts = true → ∀ {ds vs σ m ρ σV H Q} (P : L2.St → Prop), (∀ i v s, tgtsHas cts i = true → P s → P (s.set i (some v))) → P σV → Rel K ρ m H → RL K ρ H σ σV → RVs K ρ H ds vs →
    Post K (RLp K P) ρ H Q (dTs Γ G cts ds σ m) → bGs F ts vs σV H Q ∧ ds.length = ts.length
  | [], .nil, _, ds, vs, σ, m, ρ, σV, H, Q, P, hP, h0, R, rl, r, h => by
    cases ds with
    | nil =>
      have := r.nil_inv
      subst this
      exact ⟨⟨gNil, fun X _ => pgs_nil, rfl, Post.ok (RR := RLp K P) (a := σ) (b := σV) (by simpa only [dTs] using h) R ⟨rl, h0⟩⟩, rfl⟩
    | cons d ds => simp only [dTs] at h; exact h.elim
  | [], .cons _ _, hc, _, _, _, _, _, _, _, _, _, _, _, _, _, _, _ => by simp [ckTs] at hc
  | t :: ts, .nil, hc, _, _, _, _, _, _, _, _, _, _, _, _, _, _, _ => by simp [ckTs] at hc
  | t :: ts, .cons ct cts, hc, ds, vs, σ, m, ρ, σV, H, Q, P, hP, h0, R, rl, r, h => by
    cases ds with
    | nil => simp only [dTs] at h; exact h.elim
    | cons d ds =>
      simp only [RVs] at r
      obtain ⟨v, ws, rfl, r1, r2⟩ := r
      simp only [ckTs, Bool.and_eq_true] at hc
      simp only [dTs] at h
      have hlen : ds.length = ts.length := by
        cases e : dT Γ G ct d σ m with
        | bad => rw [e] at h; exact h.elim
        | ex => rw [e] at h; exact h.elim
        | ok σ1 m1 =>
          rw [e] at h
          simp only [Res.ok_bind] at h
          exact ckTs_len hc.2 (fun z => by rw [z] at h; exact h) (fun e' m' z => by rw [z] at h; exact h)
      refine ⟨⟨gCons (bG F t) (bGs F ts), fun X hX => pgs_cons (bG_ok hX t) (bGs_ok hX ts) (by rw [assignEach_cons hc.1.1]; rfl), v, ws, rfl, ?_⟩, by simp [hlen]⟩
      refine hT hc.1.2 P (fun i v s hi => hP i v s (by simp [tgtsHas, hi])) h0 R rl r1 (h.bind fun σ1 m1 ρ1 H1 σV1 R1 p1 x1 rl1 h1 => ?_)
      exact (Ts_ok hT hc.2 P (fun i v s hi => hP i v s (by simp [tgtsHas, hi])) rl1.2 R1 rl1.1 (r2.mono p1 x1) h1).1
theorem T_succ (S : Snd K mg Γ G N k n) (hF : Fam K mg Γ G N k sc F) {t : Expr} {ct : CT} (hc : ckT N (n + 1) sc t ct = true) {d : D} {v : V} {σ : Loc} {σV : L2.St} {Q : L2.St → Hp → Prop} (P : L2.St → Prop)
    (hP : ∀ i v s, tgtHas ct i = true → P s → P (s.set i (some v))) (h0 : P σV) (R : Rel K ρ m H) (rl : RL K ρ H σ σV) (r : RV K ρ H d v) (h : Post K (RLp K P) ρ H Q (dT Γ G ct d σ m)) : bG F t v σV H Q := by
  unfold ckT at hc
  split at hc
  case h_1 => cases hc
  case h_2 =>
    rename_i x pos i hn
    cases hn
    simp only [Bool.and_eq_true, decide_eq_true_eq] at hc
    simp only [dT] at h
    refine ⟨gName i, fun X hX => ?_, Post.ok h R ⟨rl.set r, hP i v σV (by simp [tgtHas]) h0⟩⟩
    obtain ⟨h1, h2⟩ := hF.loc hc.2 hX
    exact pg_name (by rw [hF.eN X hX]; exact hF.nd) (by rw [hF.eN X hX]; exact hc.1) h1 h2
  case h_3 =>
    rename_i es kk pos ts hn
    cases hn
    simp only [dT] at h
    split at h
    · rename_i xs e
      obtain ⟨a, vs, rfl, rs, hk⟩ := r.seq R e
      have hns := ckTs_noSt hc
      obtain ⟨h1, h2⟩ := Ts_ok (F := F) (f := ckT N n _) (fun {t ct} h => S.sT hF h) hc P (fun i v s hi => hP i v s (by simpa [tgtHas] using hi)) h0 R rl rs h
      rcases hk with ⟨_, _, hk⟩ | ⟨_, hk⟩
      · exact ⟨gLst K es.length (bGs F es), fun X hX => hF.eK X hX ▸ (pg_tupB (hF.calm X hX) (bGs_ok hX es) hns).2, a, vs, rfl, hk, by rw [rs.len]; exact h2, h1⟩
      · exact ⟨gTup K es.length (bGs F es), fun X hX => hF.eK X hX ▸ (pg_tupB (hF.calm X hX) (bGs_ok hX es) hns).1, a, vs, rfl, hk, by rw [rs.len]; exact h2, h1⟩
    · exact h.elim
  case h_4 =>
    rename_i o i pos x y hn
    cases hn
    simp only [Bool.and_eq_true] at hc
    obtain ⟨⟨hs, ho⟩, hi⟩ := hc
    simp only [dT] at h
    refine ⟨gSub (bE F o) (bE F i) (bPut F), fun X hX => pg_sub (bE_ok hX o) (bE_ok hX i) (bPut_ok hX) (fun v => ?_), ?_⟩
    · cases i <;> first | rfl | (simp [noSlc] at hs)
    · refine S.sE hF ho R rl (h.bind fun d1 m1 ρ1 H1 v1 R1 p1 x1 r1 h1 => ?_)
      refine S.sE hF hi R1 (rl.mono p1 x1) (h1.bind fun d2 m2 ρ2 H2 v2 R2 p2 x2 r2 h2 => ?_)
      split at h2
      · rename_i m3 e
        refine put_ok R2 (r1.mono p2 x2) r2 ((r.mono p1 x1).mono p2 x2) e fun H' R' x' => ?_
        exact h2 ρ2 H' σV R' (List.prefix_refl _) x' ⟨((rl.mono p1 x1).mono p2 x2).mono (List.prefix_refl _) x', h0⟩
      · exact h2.elim
  case h_5 => cases hc
theorem dEs_len {f : Expr → CE → Bool} : ∀ {es : List Expr} {cs : CEs} {σ : Loc} {m m1 : Mem} {ds : List D}, ckAll f es cs = true → dEs Γ G cs σ m = .ok ds m1 → ds.length = es.length
  | [], .nil, _, _, _, _, _, h => by simp only [dEs, Res.ok.injEq] at h; rw [← h.1]; rfl
  | [], .cons _ _, _, _, _, _, hc, _ => by simp [ckAll] at hc
  | _ :: _, .nil, _, _, _, _, hc, _ => by simp [ckAll] at hc
  | e :: es, .cons c cs, σ, m, m1, ds, hc, h => by
    simp only [ckAll, Bool.and_eq_true] at hc
    simp only [dEs] at h
    cases e1 : dE Γ G c σ m with
    | bad => rw [e1] at h; cases h
    | ex => rw [e1] at h; cases h
    | ok d m2 =>
      rw [e1] at h
      simp only [Res.ok_bind] at h
      cases e2 : dEs Γ G cs σ m2 with
      | bad => rw [e2] at h; cases h
      | ex => rw [e2] at h; cases h
      | ok ds' m3 =>
        rw [e2] at h
        simp only [Res.ok_bind, Res.ok.injEq] at h
        rw [← h.1]
        simp [dEs_len hc.2 e2]
theorem comp_read (S : Snd K mg Γ G N k n) (hF : Fam K mg Γ G N k sc F) {e tg it : Expr} {ifs : List Expr} {scope : Scope} {vs : List Nat} {t : CT} {i : CI} {c : CBO} {x : CE}
    (hb : blkC N { kind := ScopeKind.function, names := sc, isGenerator := false, isCoroutine := false } scope (ownOf N vs) = true) (ht : tgtIn vs t = true) (hci : ckI N n sc tg it i = true) (hct : ckT N n scope.names tg t = true)
    (hcb : ckBO N n scope.names ifs c = true) (hce : ckE N n scope.names e x = true) {σ : Loc} {σV : L2.St} {Q : VK}
    (R : Rel K ρ m H) (rl : RL K ρ H σ σV) (h : Post K (RV K) ρ H Q (dE Γ G (.comp vs t i c x) σ m)) :
    tLc (bI F tg it) (bG (blkF F scope) tg) (bTs (blkF F scope) ifs) (bE (blkF F scope) e) ((ownOf N vs).map (·.2)) σV H Q := by
  simp only [dE] at h
  have hk : scope.kind = .function := (blkOk_by hb).kind
  have hF' := hF.blk hk
  rw [own_snd]
  refine S.sI hF hci R rl (h.bind fun p m1 ρ1 H1 J R1 p1 x1 r1 h1 => comp_ok R1 r1 h1 fun x v m2 ρ2 H2 H3 Qs Qn R2 p2 x2 R3 x3 rx hbody => ?_)
  have rl3 := (rl.mono p1 x1).mono p2 (x2.trans x3)
  refine S.sT hF' hct (fun s => L2.wipe s vs = L2.wipe σV vs) (fun i v s hi hs => by rw [wipe_set (tgtIn_has ht i hi)]; exact hs) wipe_wipe R3 (rl3.wipe vs) rx (hbody.bind fun σ2 m4 ρ4 H4 σ2V R4 p4 x4 r4 h4 => ?_)
  refine ⟨r4.2, S.sBO hF' hcb R4 r4.1 (h4.bind fun b m5 ρ5 H5 b' R5 p5 x5 r5 h5 => ?_)⟩
  subst r5
  cases b with
  | true => exact S.sE hF' hce R5 (r4.1.mono p5 x5) (h5.bind fun y m6 ρ6 H6 u R6 p6 x6 r6 h6 => Post.ok (RR := RCo K) (a := some y) (b := some u) h6 R6 r6)
  | false => exact Post.ok (RR := RCo K) (a := (none : Option D)) (b := none) h5 R5 trivial
theorem rng_rv {ρ : List Addr} {H : Hp} (a b : Int) : RVs K ρ H (rngD a b) (rgV a b) := by
  unfold rngD rgV
  generalize List.range (b - a).toNat = l
  induction l with
  | nil => simp only [List.map_nil, RVs]
  | cons x l ih => simp only [List.map_cons, RVs]; exact ⟨_, _, rfl, by simp only [RV], ih⟩
theorem E_succ (S : Snd K mg Γ G N k n) (hF : Fam K mg Γ G N k sc F) {e : Expr} {ce : CE} (hc : ckE N (n + 1) sc e ce = true) {σ : Loc} {σV : L2.St} {Q : VK}
    (R : Rel K ρ m H) (rl : RL K ρ H σ σV) (h : Post K (RV K) ρ H Q (dE Γ G ce σ m)) : bE F e σV H Q := by
  have hE : ∀ {sc} {F : Cx → Prop}, Fam K mg Γ G N k sc F → SndE K Γ G F (ckE N n sc) := fun {sc F} hF {e ce} h => S.sE hF h
  unfold ckE at hc
  split at hc
  case h_1 => cases hc
  case h_2 =>
    rename_i x hn
    cases hn
    simp only [dE] at h
    refine S.sE hF hc R rl (h.bind0 fun d m1 ρ1 H1 v e1 R1 p1 x1 r1 h1 => ?_)
    have hg : ∃ d' m', gcD m d m1 = .ok d' m' := by
      unfold gcD
      repeat' split
      all_goals exact ⟨_, _, rfl⟩
    obtain ⟨d', m', eg⟩ := hg
    rw [eg] at h1
    obtain ⟨ρ', R', p', r'⟩ := gc_ok R R1 p1 r1 eg
    exact h1 ρ' H1 v R' p' x1 r'
  case h_3 =>
    rename_i x pos i hn
    cases hn
    simp only [Bool.and_eq_true, decide_eq_true_eq] at hc
    simp only [dE] at h
    split at h
    · rename_i d e1
      obtain ⟨v, hv, rv⟩ := rl.2 i d e1
      exact ⟨tVar i, fun X hX => pe_var (by rw [hF.eN X hX]; exact hc.1.1) (hF.vis hc.1.2 hX) (nDebug_1 hc.2).1 (nDebug_1 hc.2).2, v, hv, h.ok R rv⟩
    · exact h.elim
  case h_4 =>
    rename_i x pos y hn
    cases hn
    simp only [Bool.and_eq_true, decide_eq_true_eq] at hc
    obtain ⟨⟨rfl, hg⟩, hd⟩ := hc
    simp only [dE] at h
    split at h
    · rename_i d e1
      obtain ⟨u, v, h1, h2, h3⟩ := hF.glob x d e1
      exact ⟨tC v, fun X hX => pe_glob (hF.gl hg hX) (by rw [hF.eg X hX]; exact h1) h2 (nDebug_1 hd).1, h.ok R (h3 _ _)⟩
    · exact h.elim
  case h_5 =>
    rename_i c j pos d hn
    cases hn
    obtain ⟨v, h1, h2⟩ := lit_ok hc
    simp only [dE] at h
    exact ⟨tC v, fun X _ => h1 X, h.ok R (h2 _ _)⟩
  case h_6 =>
    rename_i a o b pos p x y hn
    cases hn
    simp only [Bool.and_eq_true, decEqOp, decide_eq_true_eq] at hc
    obtain ⟨⟨rfl, ha⟩, hb⟩ := hc
    simp only [dE] at h
    refine ⟨tOp (bOp F (binaryOp o)) (bE F a) (bE F b), fun X hX => pe_op (bOp_ok hX _) (bE_ok hX a) (bE_ok hX b), ?_⟩
    refine S.sE hF ha R rl (h.bind fun d m1 ρ1 H1 v R1 p1 x1 r1 h1 => ?_)
    refine S.sE hF hb R1 (rl.mono p1 x1) (h1.bind fun d2 m2 ρ2 H2 v2 R2 p2 x2 r2 h2 => ?_)
    exact opB_ok hF.toFew R2 (r1.mono p2 x2) r2 h2
  case h_7 =>
    rename_i a pos x hn
    cases hn
    simp only [dE] at h
    refine ⟨tUn (rU fun i => .int (-i)) (bE F a), fun X hX => pe_un un_neg (bE_ok hX a), S.sE hF hc R rl (h.bind fun d m1 ρ1 H1 v R1 p1 x1 r1 h1 => ?_)⟩
    split at h1
    · simp only [RV] at r1; subst r1; exact ⟨_, rfl, h1.ok R1 (by simp [RV])⟩
    · exact h1.elim
  case h_8 =>
    rename_i a pos x hn
    cases hn
    simp only [dE] at h
    refine ⟨tUn (rU fun i => .int (Builtin.bitNot i)) (bE F a), fun X hX => pe_un un_inv (bE_ok hX a), S.sE hF hc R rl (h.bind fun d m1 ρ1 H1 v R1 p1 x1 r1 h1 => ?_)⟩
    split at h1
    · simp only [RV] at r1; subst r1; exact ⟨_, rfl, h1.ok R1 (by simp [RV])⟩
    · exact h1.elim
  case h_9 =>
    rename_i a pos x hn
    cases hn
    simp only [dE] at h
    refine ⟨tNotT K (bE F a), fun X hX => hF.eK X hX ▸ pe_notT (bE_ok hX a), S.sE hF hc R rl (h.bind fun d m1 ρ1 H1 v R1 p1 x1 r1 h1 => ?_)⟩
    obtain ⟨b, e1, q⟩ := post_ofNB R1 h1
    exact ⟨b, tru_rel R1 r1 e1, q⟩
  case h_10 =>
    rename_i a o b pos p x y hn
    cases hn
    simp only [Bool.and_eq_true, decEqC, decide_eq_true_eq] at hc
    obtain ⟨⟨⟨rfl, hs⟩, ha⟩, hb⟩ := hc
    simp only [dE] at h
    refine ⟨tOp (bOp F (compareOp o)) (bE F a) (bE F b), fun X hX => pe_cmpR (bOp_ok hX _) (bE_ok hX a) (bE_ok hX b) (mark_no hs), ?_⟩
    refine S.sE hF ha R rl (h.bind fun d m1 ρ1 H1 v R1 p1 x1 r1 h1 => ?_)
    refine S.sE hF hb R1 (rl.mono p1 x1) (h1.bind fun d2 m2 ρ2 H2 v2 R2 p2 x2 r2 h2 => ?_)
    exact opC_ok hF.toFew R2 (r1.mono p2 x2) r2 h2
  case h_11 =>
    rename_i a o o' b c pos p p' x y z hn
    cases hn
    simp only [Bool.and_eq_true, decEqC, decide_eq_true_eq] at hc
    obtain ⟨⟨⟨⟨⟨⟨rfl, rfl⟩, hs⟩, hs2⟩, ha⟩, hb⟩, hcc⟩ := hc
    simp only [dE] at h
    have hm : lastMarks [o, o'] [b, c] = false := by show behindInMarks o' c = false; exact mark_no hs2
    refine ⟨tChain (bOp F (compareOp o)) (bOp F (compareOp o')) (bE F a) (bE F b) (bE F c), fun X hX => pe_chain (bOp_ok hX _) (bOp_ok hX _) (bE_ok hX a) (bE_ok hX b) (bE_ok hX c) hm, ?_⟩
    refine S.sE hF ha R rl (h.bind fun d m1 ρ1 H1 v R1 p1 x1 r1 h1 => ?_)
    refine S.sE hF hb R1 (rl.mono p1 x1) (h1.bind fun d2 m2 ρ2 H2 v2 R2 p2 x2 r2 h2 => ?_)
    refine opC_ok hF.toFew R2 (r1.mono p2 x2) r2 (h2.bind fun d3 m3 ρ3 H3 v3 R3 p3 x3 r3 h3 => ?_)
    split at h3
    · simp only [RV] at r3
      refine ⟨true, r3, ?_⟩
      show bE F c σV H3 _
      refine S.sE hF hcc R3 (((rl.mono p1 x1).mono p2 x2).mono p3 x3) (h3.bind fun d4 m4 ρ4 H4 v4 R4 p4 x4 r4 h4 => ?_)
      exact opC_ok hF.toFew R4 ((r2.mono p3 x3).mono p4 x4) r4 h4
    · simp only [RV] at r3
      refine ⟨false, r3, ?_⟩
      exact h3.ok R3 (by simp [RV])
    · exact h3.elim
  case h_12 =>
    rename_i op vs pos hn hx
    cases hn
    exact and_or_ok (f := ckE N n _) (hE hF) hF.eK hc R rl h
  case h_13 =>
    rename_i t a b pos c x y hn
    cases hn
    simp only [Bool.and_eq_true] at hc
    obtain ⟨⟨ht, ha⟩, hb⟩ := hc
    simp only [dE] at h
    refine ⟨tIf (bT F t) (bE F a) (bE F b), fun X hX => pe_ifExp (bT_ok hX t) (bE_ok hX a) (bE_ok hX b), ?_⟩
    refine S.sB hF ht R rl (h.bind fun d m1 ρ1 H1 v R1 p1 x1 r1 h1 => ?_)
    subst r1
    cases d with
    | true => exact S.sE hF ha R1 (rl.mono p1 x1) h1
    | false => exact S.sE hF hb R1 (rl.mono p1 x1) h1
  case h_14 =>
    rename_i es kk pos cs hn
    cases hn
    simp only [Bool.and_eq_true, decide_eq_true_eq] at hc
    simp only [dE] at h
    refine ⟨tTup (bA F es), fun X hX => pe_tup (bA_ok hX es), args_ok (hE hF) hc.1 R rl (h.bind0 fun ds m1 ρ1 H1 vs e1 R1 p1 x1 r1 h1 => ?_)⟩
    have hl : vs.length ≤ sizeLine := by rw [r1.len, dEs_len hc.1 e1, sizeLine_eq]; omega
    exact ⟨hl, post_newT R1 r1 (Post.mono p1 x1 h1)⟩
  case h_15 =>
    rename_i es pos cs hn
    cases hn
    simp only [Bool.and_eq_true, decide_eq_true_eq] at hc
    simp only [dE] at h
    refine ⟨tLst (bA F es), fun X hX => pe_lst (bA_ok hX es), args_ok (hE hF) hc.1 R rl (h.bind0 fun ds m1 ρ1 H1 vs e1 R1 p1 x1 r1 h1 => ?_)⟩
    have hl : vs.length ≤ sizeLine := by rw [r1.len, dEs_len hc.1 e1, sizeLine_eq]; omega
    exact ⟨hl, post_newL R1 r1 (Post.mono p1 x1 h1)⟩
  case h_16 =>
    rename_i a lo hi p1 pos x l hh hn
    cases hn
    simp only [Bool.and_eq_true] at hc
    obtain ⟨⟨ha, hl⟩, hh'⟩ := hc
    simp only [dE] at h
    refine ⟨tSl (bSl F) (bE F a) (bO F lo) (bO F hi), fun X hX => pe_slice (bSl_ok hX) (bE_ok hX a) (bO_ok hX lo) (bO_ok hX hi), ?_⟩
    refine S.sE hF ha R rl (h.bind fun d m1 ρ1 H1 v R1 p1 x1 r1 h1 => ?_)
    refine opt_ok (hE hF) hl R1 (rl.mono p1 x1) (h1.bind fun d2 m2 ρ2 H2 v2 R2 p2 x2 r2 h2 => ?_)
    refine opt_ok (hE hF) hh' R2 ((rl.mono p1 x1).mono p2 x2) (h2.bind fun d3 m3 ρ3 H3 v3 R3 p3 x3 r3 h3 => ?_)
    cases r2; cases r3
    exact slc_ok hF.toFew R3 ((r1.mono p2 x2).mono p3 x3) h3
  case h_17 =>
    rename_i a i pos x y hn
    cases hn
    simp only [Bool.and_eq_true] at hc
    obtain ⟨⟨hs, ha⟩, hi⟩ := hc
    simp only [dE] at h
    refine ⟨tOp (bIx F) (bE F a) (bE F i), fun X hX => pe_ix (bIx_ok hX) (bE_ok hX a) (bE_ok hX i) (plain_ix hs), ?_⟩
    refine S.sE hF ha R rl (h.bind fun d m1 ρ1 H1 v R1 p1 x1 r1 h1 => ?_)
    refine S.sE hF hi R1 (rl.mono p1 x1) (h1.bind fun d2 m2 ρ2 H2 v2 R2 p2 x2 r2 h2 => ?_)
    exact idx_ok hF.toFew R2 (r1.mono p2 x2) r2 h2
  case h_18 =>
    rename_i f p es pos g cs hn
    cases hn
    simp only [Bool.and_eq_true, decide_eq_true_eq] at hc
    obtain ⟨⟨⟨rfl, hg⟩, hd⟩, ha⟩ := hc
    exact call_ok hF (hE hF) hg hd ha R rl h
  case h_19 =>
    rename_i f p es pos b cs hn
    cases hn
    simp only [Bool.and_eq_true, decide_eq_true_eq] at hc
    obtain ⟨⟨⟨rfl, hg⟩, hne⟩, ha⟩ := hc
    exact biCall_ok hF (hE hF) hg (by intro z; subst z; simp at hne) ha R rl h
  case h_20 =>
    rename_i f p e T pT pos x T' hn
    cases hn
    simp only [Bool.and_eq_true, decide_eq_true_eq] at hc
    obtain ⟨⟨⟨⟨⟨⟨rfl, hg⟩, rfl⟩, hgT⟩, ht⟩, hs⟩, hx⟩ := hc
    simp only [dE] at h
    obtain ⟨b1, b2, b3, b4⟩ := typ_boot ht
    refine ⟨tCB (rIsi K) (tCons (bE F e) (tCons (tC (.ty T')) tNil)), fun X hX => hF.eK X hX ▸ pe_callB call_isi (hF.gl hg hX) (bltN_none hF (by decide +kernel) hX) (by decide +kernel)
      (pa_cons (bE_ok hX e) (pa_cons (pe_bltn (hF.gl hgT hX) (bltN_none hF b2 hX) b1 (by rfl) b3 b4) pa_nil) (starEach_cons hs)) (by decide) (by decide) (starEach_cons hs) (by rfl), ?_⟩
    refine S.sE hF hx R rl (h.bind fun d m1 ρ1 H1 v R1 p1 x1 r1 h1 => ?_)
    obtain ⟨b, e1, q⟩ := post_ofB R1 h1
    obtain ⟨t, k1, k2⟩ := isin_ok ht R1 r1 e1
    exact ⟨v, .ty T', t, .type T', b, rfl, .ty T', k1, k2, q⟩
  case h_21 =>
    rename_i o f ap es cp g x cs hn
    cases hn
    simp only [Bool.and_eq_true, decide_eq_true_eq] at hc
    obtain ⟨⟨⟨⟨⟨rfl, hs⟩, hl⟩, h30⟩, ho⟩, ha⟩ := hc
    exact meth_ok hF (hE hF) hs hl h30 ho ha R rl h
  case h_22 =>
    rename_i e tg it ifs scope pos vs t i c x hn
    cases hn
    simp only [Bool.and_eq_true] at hc
    obtain ⟨⟨⟨⟨⟨⟨hb, hs⟩, ht⟩, hci⟩, hct⟩, hcb⟩, hce⟩ := hc
    exact ⟨tLc (bI F tg it) (bG (blkF F scope) tg) (bTs (blkF F scope) ifs) (bE (blkF F scope) e) ((ownOf N vs).map (·.2)), fun X hX => pe_lc (hF.calm X hX) (by rw [hF.eN X hX]; exact hF.nd) (bI_ok hX tg it) (blk_ok hF hb hX)
      (fun s H C cl fp => bG_ok ⟨X, s, H, C, cl, fp, hX, rfl⟩ tg) (fun s H C cl fp => bTs_ok ⟨X, s, H, C, cl, fp, hX, rfl⟩ ifs) (fun s H C cl fp => bE_ok ⟨X, s, H, C, cl, fp, hX, rfl⟩ e) (fold_no hs), comp_read S hF hb ht hci hct hcb hce R rl h⟩
  case h_23 =>
    rename_i f p g p2 a pos2 pos x hn
    cases hn
    simp only [Bool.and_eq_true, decide_eq_true_eq] at hc
    obtain ⟨⟨⟨⟨⟨rfl, hg⟩, rfl⟩, hg2⟩, hs⟩, hx⟩ := hc
    simp only [dE] at h
    refine ⟨tLstRg (tRg1 (bE F a)), fun X hX => pe_listRg (hF.calm X hX) (hF.gl hg hX) (bltN_none hF (by decide +kernel) hX) (prg_1 (hF.gl hg2 hX) (bltN_none hF (by decide +kernel) hX) (bE_ok hX a) (starEach_cons hs)) rfl, ?_⟩
    refine S.sE hF hx R rl (h.bind fun d m1 ρ1 H1 v R1 p1 x1 r1 h1 => ?_)
    cases d with
    | int j =>
      simp only [RV] at r1; subst r1
      simp only at h1
      split at h1
      · rename_i hl
        exact ⟨j, rfl, RgOk.of_le (by decide) hl.2 (by decide) hl.1, post_newL R1 (rng_rv 0 j) h1⟩
      · exact h1.elim
    | _ => exact h1.elim
  case h_24 =>
    rename_i f p g p2 a b pos2 pos x y hn
    cases hn
    simp only [Bool.and_eq_true, decide_eq_true_eq] at hc
    obtain ⟨⟨⟨⟨⟨⟨⟨rfl, hg⟩, rfl⟩, hg2⟩, hs⟩, hs2⟩, hx⟩, hy⟩ := hc
    simp only [dE] at h
    refine ⟨tLstRg (tRg2 (bE F a) (bE F b)), fun X hX => pe_listRg (hF.calm X hX) (hF.gl hg hX) (bltN_none hF (by decide +kernel) hX) (prg_2 (hF.gl hg2 hX) (bltN_none hF (by decide +kernel) hX) (bE_ok hX a) (bE_ok hX b) (by rw [starEach_cons hs, starEach_cons hs2]) (starEach_cons hs2) (back_any (by simp [hs2]))) rfl, ?_⟩
    refine S.sE hF hx R rl (h.bind fun d m1 ρ1 H1 v R1 p1 x1 r1 h1 => ?_)
    refine S.sE hF hy R1 (rl.mono p1 x1) (h1.bind fun e m2 ρ2 H2 w R2 p2 x2 r2 h2 => ?_)
    split at h2
    · simp only [RV] at r1 r2; subst r1; subst r2
      split at h2
      · rename_i hl
        exact ⟨_, _, rfl, rfl, RgOk.of_le hl.1 hl.2.2.2 hl.2.1 hl.2.2.1, post_newL R2 (rng_rv _ _) h2⟩
      · exact h2.elim
    · exact h2.elim
  case h_25 => cases hc
end
end PC

namespace PC
open PySem L2 Classical
/-- what is wanted of a statement's end -/
def PostS (K : PySem.W.Frag) (ρ : List Addr) (H : Hp) (Z : Ends) : SR → Prop
  | .nx σ m => ∀ ρ' H' σV, Rel K ρ' m H' → ρ <+: ρ' → Ext H H' → RL K ρ' H' σ σV → Z.nx σV H'
  | .rt d m => ∀ ρ' H' v, Rel K ρ' m H' → ρ <+: ρ' → Ext H H' → RV K ρ' H' d v → Z.rt v H'
  | .bk σ m => ∀ ρ' H' σV, Rel K ρ' m H' → ρ <+: ρ' → Ext H H' → RL K ρ' H' σ σV → Z.bk σV H'
  | .ct σ m => ∀ ρ' H' σV, Rel K ρ' m H' → ρ <+: ρ' → Ext H H' → RL K ρ' H' σ σV → Z.ct σV H'
  | _ => False
section
variable {K : PySem.W.Frag} {mg : Str → Option Value} {Γ : Fn} {G : Str → Option PC.D} {N : List Str} {k n : Nat} {sc : Sc} {F : Cx → Prop} {ρ ρ' : List Addr} {H H' : Hp} {m : Mem} {Z : Ends}
theorem PostS.mono (p : ρ <+: ρ') (e : Ext H H') : ∀ {r : SR}, PostS K ρ H Z r → PostS K ρ' H' Z r
  | .nx _ _, h => fun ρ1 H1 v R q x r => h ρ1 H1 v R (p.trans q) (e.trans x) r
  | .rt _ _, h => fun ρ1 H1 v R q x r => h ρ1 H1 v R (p.trans q) (e.trans x) r
  | .bk _ _, h => fun ρ1 H1 v R q x r => h ρ1 H1 v R (p.trans q) (e.trans x) r
  | .ct _ _, h => fun ρ1 H1 v R q x r => h ρ1 H1 v R (p.trans q) (e.trans x) r
  | .bad, h => h
  | .ex _ _ _, h => h
theorem PostS.to {α β : Type} {RR : List Addr → Hp → α → β → Prop} {Q' : β → Hp → Prop} {σ : Loc} {f : α → Mem → SR} {r : Res α} (h : PostS K ρ H Z (r.to σ f))
    (k : ∀ a m1 ρ1 H1 b, Rel K ρ1 m1 H1 → ρ <+: ρ1 → Ext H H1 → RR ρ1 H1 a b → PostS K ρ1 H1 Z (f a m1) → Q' b H1) : Post K RR ρ H Q' r := by
  cases r with
  | bad => exact h
  | ex e m => exact h
  | ok a m1 => exact fun ρ1 H1 b R p x r => k a m1 ρ1 H1 b R p x r (PostS.mono p x h)
theorem PostS.nx {σ : Loc} {σV : L2.St} (h : PostS K ρ H Z (.nx σ m)) (R : Rel K ρ m H) (rl : RL K ρ H σ σV) : Z.nx σV H := h ρ H σV R (List.prefix_refl _) (.refl _) rl
/-- the end of a turn: what the loop goes on with -/

def rGetL (K : PySem.W.Frag) : V → V → Hp → VK → Prop := fun x y H Q => ∃ p xs i v, x = .ref p ∧ y = .int i ∧ 0 ≤ i ∧ i < 2 ^ 63 ∧ SqL K H p xs ∧ xs[i.toNat]? = some v ∧ Q v H
theorem get_list {X : Cx} : PGet X (rGetL X.K) := by
  intro pins s σ H o i ov iv Q I ro ri h
  obtain ⟨p, xs, j, v, rfl, rfl, h0, h1, hs, hv, q⟩ := h
  cases ro
  obtain ⟨t, rfl⟩ := ri
  obtain ⟨its, rv, pl, hz⟩ := I.list hs
  obtain ⟨u, hu, ru⟩ := rv.get hv
  exact wpAny_getItem_list pl.isList h0 h1 (by simpa using hu) ⟨v, H, I, ru, q⟩
def bGet (F : Cx → Prop) : V → V → Hp → VK → Prop := fun x y H Q => ∃ r, (∀ X, F X → PGet X r) ∧ r x y H Q
theorem bGet_ok {X : Cx} (h : F X) : PGet X (bGet F) := fun pins s σ H o i ov iv Q I ro ri ⟨_, ht, q⟩ => ht X h pins s σ H o i ov iv Q I ro ri q
theorem get_ok (hF : Few K F) {x y : PC.D} {v w : V} {Q : VK} (R : Rel K ρ m H) (rx : RV K ρ H x v) (ry : RV K ρ H y w) (h : Post K (RV K) ρ H Q (getD x y m)) : bGet F v w H Q := by
  unfold getD at h
  split at h
  · split at h
    · rename_i xs e
      split at h
      · rename_i hk
        split at h
        · rename_i d ed
          simp only [RV] at rx ry
          subst ry
          obtain ⟨a, ha, rfl⟩ := rx
          obtain ⟨vs, h1, h2⟩ := R.lst e ha
          obtain ⟨u, hu, ru⟩ := h2.get ed
          exact ⟨rGetL K, fun X hX => hF.eK X hX ▸ get_list, a, vs, _, u, rfl, rfl, hk.1, hk.2, SqL.of h1, hu, h.ok R ru⟩
        · exact h.elim
      · exact h.elim
    · exact h.elim
  · exact h.elim
/-! ### side conditions of assignments -/
theorem kindOf_local (hF : Fam K mg Γ G N k sc F) {X : Cx} (hX : F X) (x : Str) : (X.env.kindOf x == some .local) = isLocal sc x := by
  unfold Env.kindOf isLocal
  rcases hF.lk X hX x with e | ⟨e1, e2⟩
  · rw [e]
    cases sc.lookup x with
    | none => rfl
    | some kk => cases kk <;> rfl
  · rw [e1, e2]; rfl
theorem sw_name (hF : Fam K mg Γ G N k sc F) {X : Cx} (hX : F X) {y : Str} {py : Pos} {e : Expr} {l : Nat} (h : noSw sc (.Name y py) e = true) : swapsWith e (some (.Name y py)) l X.env = pure false := by
  simp only [noSw, Bool.or_eq_true, Bool.not_eq_true'] at h
  rcases h with h | h
  · exact sw_no h
  · have hk := kindOf_local hF hX y
    rw [h] at hk
    unfold swapsWith
    split
    · simp only [pure_bind]
      show pure (X.env.blockKind == .function && X.env.kindOf y == some .local && _ && _) = pure false
      rw [hk]; simp
    · rfl
theorem names_eq (hF : Fam K mg Γ G N k sc F) {X : Cx} (hX : F X) (line : Nat) : ∀ (ts : List Expr) (g : Expr → Option Str), (∀ id pos, g (.Name id pos) = if (X.env.kindOf id == some .local && pos.line == line) = true then some id else none) →
    (∀ e, (match e with | .Name _ _ => False | _ => True) → g e = none) → ts.filterMap g = namesOf sc line ts
  | [], _, _, _ => rfl
  | t :: ts, g, h1, h2 => by
    have ih := names_eq hF hX line ts g h1 h2
    rw [List.filterMap_cons]
    cases t with
    | Name id pos =>
      simp only [namesOf]
      rw [h1, kindOf_local hF hX id, ← ih]
      by_cases h : (isLocal sc id && pos.line == line) = true
      · simp only [h, if_true]
      · simp only [h]; rfl
    | _ => rw [h2 _ trivial]; simpa only [namesOf] using ih
theorem blockKind_fn (hF : Fam K mg Γ G N k sc F) {X : Cx} (hX : F X) : X.env.blockKind = .function := by
  unfold Env.blockKind
  rw [hF.kind X hX]; rfl
theorem par_no (hF : Fam K mg Γ G N k sc F) {X : Cx} (hX : F X) {t e : Expr} (h : noPar sc t e = true) : swappedStores [t] e X.env = pure none := by
  unfold noPar at h
  split at h
  · rename_i ts k1 p1 vs k2 p2
    simp only [Bool.or_eq_true, Bool.not_eq_true', bne_iff_ne, ne_eq] at h
    unfold swappedStores
    simp only [pure_bind]
    rcases h with h | h
    · have : (!(ts.length == 2 || ts.length == 3) || vs.length != ts.length || X.env.blockKind != .function) = true := by rw [h]; rfl
      simp only [this, if_true]
    · rw [names_eq hF hX _ ts _ (fun _ _ => rfl) (fun e h => by cases e <;> first | rfl | exact h.elim)]
      have hb : ((namesOf sc ((ts.head?.map (·.pos.line)).getD 0) ts).length != ts.length) = true := by simpa using h
      split
      · rfl
      · split
        · rfl
        · simp only [hb, Bool.true_or, if_true]
  · cases h
  · rename_i h1 h2
    cases t with
    | Tuple a b c => cases e with
      | Tuple d f g => exact absurd rfl (h2 a b c d f g rfl)
      | _ => rfl
    | List a b => exact absurd rfl (h1 a b)
    | _ => rfl
theorem par_yes (hF : Fam K mg Γ G N k sc F) {X : Cx} (hX : F X) {x y : Str} {px py p1 p2 : Pos} {k1 k2 : Nat} {a b : Expr} (ha : noSt a = true) (hb : noSt b = true) (h : parB sc [a, b] px.line [.Name x px, .Name y py] = true) :
    swappedStores [.Tuple [.Name x px, .Name y py] k1 p1] (.Tuple [a, b] k2 p2) X.env = pure (some [x, y]) ∧ isLocal sc x = true ∧ isLocal sc y = true := by
  unfold parB at h
  simp only [Bool.and_eq_true, beq_iff_eq, Bool.not_eq_true'] at h
  obtain ⟨⟨⟨⟨h1, h2⟩, h3⟩, h4⟩, h5⟩ := h
  have hx : isLocal sc x = true ∧ (px.line == px.line) = true ∧ isLocal sc y = true ∧ (py.line == px.line) = true ∧ namesOf sc px.line [.Name x px, .Name y py] = [x, y] := by
    simp only [namesOf] at h2 ⊢
    by_cases c1 : (isLocal sc x && px.line == px.line) = true
    · by_cases c2 : (isLocal sc y && py.line == px.line) = true
      · simp only [c1, c2, if_true]
        simp only [Bool.and_eq_true] at c1 c2
        exact ⟨c1.1, c1.2, c2.1, c2.2, trivial⟩
      · simp only [c1, c2, if_true] at h2; simp at h2
    · simp only [c1] at h2
      by_cases c2 : (isLocal sc y && py.line == px.line) = true
      · simp [c2] at h2
      · simp [c2] at h2
  obtain ⟨q1, _, q2, _, q3⟩ := hx
  refine ⟨?_, q1, q2⟩
  have hst : ∀ g : Expr → Bool, (∀ e, noSt e = true → g e = false) → [a, b].any g = false := fun g hg => by simp [hg a ha, hg b hb]
  unfold swappedStores
  simp only [pure_bind, List.length_cons, List.length_nil, blockKind_fn hF hX]
  have e0 : ((List.head? [Expr.Name x px, Expr.Name y py]).map (·.pos.line)).getD 0 = px.line := rfl
  rw [e0, names_eq hF hX px.line [.Name x px, .Name y py] _ (fun _ _ => rfl) (fun e h => by cases e <;> first | rfl | exact h.elim), q3]
  rw [q3] at h3
  have h3' : ([x, y].eraseDups.length != [x, y].length) = false := by simpa using h3
  rw [hst _ (fun e h => by cases e <;> first | rfl | cases h)]
  simp only [h3', h4, h5]
  rfl
theorem par_yes3 (hF : Fam K mg Γ G N k sc F) {X : Cx} (hX : F X) {x y z : Str} {px py pz p1 p2 : Pos} {k1 k2 : Nat} {a b c : Expr} (ha : noSt a = true) (hb : noSt b = true) (hc : noSt c = true) (h : parB sc [a, b, c] px.line [.Name x px, .Name y py, .Name z pz] = true) :
    swappedStores [.Tuple [.Name x px, .Name y py, .Name z pz] k1 p1] (.Tuple [a, b, c] k2 p2) X.env = pure (some [x, y, z]) ∧ isLocal sc x = true ∧ isLocal sc y = true ∧ isLocal sc z = true := by
  unfold parB at h
  simp only [Bool.and_eq_true, beq_iff_eq, Bool.not_eq_true'] at h
  obtain ⟨⟨⟨⟨h1, h2⟩, h3⟩, h4⟩, h5⟩ := h
  have hx : isLocal sc x = true ∧ isLocal sc y = true ∧ isLocal sc z = true ∧ namesOf sc px.line [.Name x px, .Name y py, .Name z pz] = [x, y, z] := by
    simp only [namesOf] at h2 ⊢
    by_cases c1 : (isLocal sc x && px.line == px.line) = true <;> by_cases c2 : (isLocal sc y && py.line == px.line) = true <;> by_cases c3 : (isLocal sc z && pz.line == px.line) = true <;>
      simp only [c1, c2, c3, if_true, if_false, Bool.false_eq_true, List.length_cons, List.length_nil] at h2 ⊢ <;> first | (exfalso; omega) | skip
    simp only [Bool.and_eq_true] at c1 c2 c3
    exact ⟨c1.1, c2.1, c3.1, trivial⟩
  obtain ⟨q1, q2, q4, q3⟩ := hx
  refine ⟨?_, q1, q2, q4⟩
  have hst : ∀ g : Expr → Bool, (∀ e, noSt e = true → g e = false) → [a, b, c].any g = false := fun g hg => by simp [hg a ha, hg b hb, hg c hc]
  unfold swappedStores
  simp only [pure_bind, List.length_cons, List.length_nil, blockKind_fn hF hX]
  have e0 : ((List.head? [Expr.Name x px, Expr.Name y py, Expr.Name z pz]).map (·.pos.line)).getD 0 = px.line := rfl
  rw [e0, names_eq hF hX px.line [.Name x px, .Name y py, .Name z pz] _ (fun _ _ => rfl) (fun e h => by cases e <;> first | rfl | exact h.elim), q3]
  rw [q3] at h3
  have h3' : ([x, y, z].eraseDups.length != [x, y, z].length) = false := by simpa using h3
  rw [hst _ (fun e h => by cases e <;> first | rfl | cases h)]
  simp only [h3', h4, h5]
  rfl
end
end PC

namespace PC
open PySem L2 Classical
section
variable {K : PySem.W.Frag} {mg : Str → Option Value} {Γ : Fn} {G : Str → Option PC.D} {N : List Str} {k n : Nat}
theorem snd (n : Nat) : Snd K mg Γ G N k n := by
  induction n with
  | zero =>
    constructor
    · intro sc F hF e ce h; simp [ckE] at h
    · intro sc F hF e ce h; simp [ckB] at h
    · intro sc F hF e ce h; simp [ckBO] at h
    · intro sc F hF tg e ce h; simp [ckI] at h
    · intro sc F hF t ct h; simp [ckT] at h
  | succ n ih =>
    exact ⟨fun hF _ _ h _ _ _ _ _ _ R rl p => E_succ ih hF h R rl p, fun hF _ _ h _ _ _ _ _ _ R rl p => bB_succ ih hF h R rl p, fun hF _ _ h _ _ _ _ _ _ R rl p => bO_succ ih hF h R rl p,
      fun hF _ _ _ h _ _ _ _ _ _ R rl p => I_succ ih hF h R rl p, fun hF _ _ h _ _ _ _ _ _ _ _ P hP h0 R rl r p => T_succ ih hF h P hP h0 R rl r p⟩
variable {sc : Sc} {F : Cx → Prop} {ρ : List Addr} {H : Hp} {m : Mem} {Z : Ends}
/-- the turns of a while -/
theorem while_ok {c : Loc → Mem → Res Bool} {b : Loc → Mem → SR} {tc : TT} {tb : TS} {σ : Loc} {σV : L2.St} (R : Rel K ρ m H) (rl : RL K ρ H σ σV) (h : PostS K ρ H Z (whileD c b σ m))
    (hc : ∀ {σ m ρ σV H Q}, Rel K ρ m H → RL K ρ H σ σV → Post K RB ρ H Q (c σ m) → tc σV H Q)
    (hb : ∀ {σ m ρ σV H Z}, Rel K ρ m H → RL K ρ H σ σV → PostS K ρ H Z (b σ m) → tb Z σV H) : tWhile tc tb Z σV H := by
  have hex : ∃ j, PostS K ρ H Z (whileN c b j σ m) := by
    unfold whileD at h
    split at h
    · exact ⟨_, h⟩
    · exact h.elim
  obtain ⟨j, hj⟩ := hex
  refine ⟨fun j σV' H' => ∃ σ m ρ', Rel K ρ' m H' ∧ RL K ρ' H' σ σV' ∧ PostS K ρ' H' Z (whileN c b j σ m), ⟨j, σ, m, ρ, R, rl, hj⟩, ?_⟩
  rintro j σV' H' ⟨σ, m, ρ', R1, rl1, h1⟩
  cases j with
  | zero => exact h1.elim
  | succ j =>
    simp only [whileN] at h1
    refine hc R1 rl1 (h1.to fun t m2 ρ2 H2 t' R2 p2 x2 r2 h2 => ?_)
    subst r2
    cases t with
    | false => exact h2.nx R2 (rl1.mono p2 x2)
    | true =>
      simp only [if_true]
      refine ⟨fun σV' H' => ∃ σ m ρ', Rel K ρ' m H' ∧ RL K ρ' H' σ σV' ∧ PostS K ρ' H' Z (whileN c b j σ m), fun σ' H' h => ⟨j, Nat.lt_succ_self _, h⟩, hb R2 (rl1.mono p2 x2) ?_⟩
      simp only at h2
      cases e : b σ m2 with
      | bad => rw [e] at h2; exact h2
      | ex => rw [e] at h2; exact h2
      | nx σ3 m3 => rw [e] at h2; exact fun ρ3 H3 σV3 R3 p3 x3 r3 => ⟨σ3, m3, ρ3, R3, r3, h2.mono p3 x3⟩
      | ct σ3 m3 => rw [e] at h2; exact fun ρ3 H3 σV3 R3 p3 x3 r3 => ⟨σ3, m3, ρ3, R3, r3, h2.mono p3 x3⟩
      | bk σ3 m3 => rw [e] at h2; exact fun ρ3 H3 σV3 R3 p3 x3 r3 => h2 ρ3 H3 σV3 R3 p3 x3 r3
      | rt d m3 => rw [e] at h2; exact h2
theorem for_guard {gs : List (Nat × List PC.D)} {body : PC.D → Loc → Mem → SR} {mi : Mem} {σ : Loc} : ∀ {xs : List PC.D}, PostS K ρ H Z (forD gs body xs σ mi) → guardOk gs mi
  | [], h => by unfold forD at h; split at h <;> first | assumption | exact h.elim
  | _ :: _, h => by unfold forD at h; split at h <;> first | assumption | exact h.elim
/-- the turns of a for -/
theorem for_ok {J : It} {p : PC.Itr} {g : TG} {tb : TS} {body : PC.D → Loc → Mem → SR} {σ : Loc} {σV : L2.St} (R : Rel K ρ m H) (rl : RL K ρ H σ σV) (W : RIt K ρ H p J) (h : PostS K ρ H Z (forD p.2 body p.1 σ m))
    (hb : ∀ {x v σ m ρ1 σV H1 Z}, Rel K ρ1 m H1 → RL K ρ1 H1 σ σV → RV K ρ1 H1 x v → PostS K ρ1 H1 Z (body x σ m) → g v σV H1 fun σ2 H2 => tb Z σ2 H2) :
    ∃ W : Nat → Nat → L2.St → Hp → Prop, (∃ m, W 0 m σV H) ∧ ∀ i m σ H, W i m σ H →
      (J.stop i H ∧ Z.nx σ H) ∨ (J.go i H ∧ ∃ N : L2.St → Hp → Prop, (∀ σ' H', N σ' H' → ∃ m', m' < m ∧ W (i + 1) m' σ' H') ∧ ∀ x H', J.yld i H x H' → g x σ H' fun σ2 H2 => tb { Z with nx := N, ct := N, bk := Z.nx } σ2 H2) := by
  obtain ⟨Gd, Y, w, hG, hY⟩ := W.ex
  refine for_it w (fun i σV' H' => ∃ σ m ρ', Rel K ρ' m H' ∧ ρ <+: ρ' ∧ Ext H H' ∧ RL K ρ' H' σ σV' ∧ PostS K ρ' H' Z (forD p.2 body (p.1.drop i) σ m)) ⟨σ, m, ρ, R, List.prefix_refl _, .refl _, rl, by simpa using h⟩ ?_ ?_ ?_
  · rintro i σ' H' hi ⟨σ, m, ρ', R1, p1, x1, rl1, h1⟩
    exact hG ρ' m H' R1 p1 x1 (for_guard h1)
  · rintro i x σ' H1 H2 hi ⟨σ, m, ρ', R1, p1, x1, rl1, h1⟩ y
    obtain ⟨R2, x2, k2, d, ed, rd⟩ := hY i H1 x H2 ρ' m hi R1 p1 x1 (for_guard h1) y
    have hdrop : p.1.drop i = d :: p.1.drop (i + 1) := by
      have := (List.getElem?_eq_some_iff.mp ed).2
      rw [List.drop_eq_getElem_cons hi, this]
    rw [hdrop] at h1
    unfold forD at h1
    split at h1
    · refine hb R2 (rl1.mono (List.prefix_refl _) x2) rd ?_
      cases e : body d σ m with
      | bad => rw [e] at h1; exact h1
      | ex => rw [e] at h1; exact h1
      | nx σ3 m3 => rw [e] at h1; exact fun ρ3 H3 σV3 R3 p3 x3 r3 => ⟨σ3, m3, ρ3, R3, p1.trans p3, x1.trans (x2.trans x3), r3, h1.mono p3 (x2.trans x3)⟩
      | ct σ3 m3 => rw [e] at h1; exact fun ρ3 H3 σV3 R3 p3 x3 r3 => ⟨σ3, m3, ρ3, R3, p1.trans p3, x1.trans (x2.trans x3), r3, h1.mono p3 (x2.trans x3)⟩
      | bk σ3 m3 => rw [e] at h1; exact fun ρ3 H3 σV3 R3 p3 x3 r3 => h1 ρ3 H3 σV3 R3 p3 (x2.trans x3) r3
      | rt d m3 => rw [e] at h1; exact fun ρ3 H3 v R3 p3 x3 r3 => h1 ρ3 H3 v R3 p3 (x2.trans x3) r3
    · exact h1.elim
  · rintro σ' H' ⟨σ, m, ρ', R1, p1, x1, rl1, h1⟩
    rw [List.drop_length] at h1
    unfold forD at h1
    split at h1
    · exact h1.nx R1 rl1
    · exact h1.elim
theorem true_T {ct : CT} : ∀ i v s, tgtHas ct i = true → (fun _ : L2.St => True) s → (fun _ : L2.St => True) (s.set i (some v)) := fun _ _ _ _ _ => trivial
/-- the soundness of statements at a fuel -/
structure SndS (K : PySem.W.Frag) (mg : Str → Option Value) (Γ : Fn) (G : Str → Option PC.D) (N : List Str) (k n : Nat) : Prop where
  s : ∀ {sc F}, Fam K mg Γ G N k sc F → ∀ {s cs}, ckS N n sc s cs = true → ∀ {σ m ρ σV H Z}, Rel K ρ m H → RL K ρ H σ σV → PostS K ρ H Z (dS Γ G cs σ m) → bS F s Z σV H
  ss : ∀ {sc F}, Fam K mg Γ G N k sc F → ∀ {s cs}, ckSs N n sc s cs = true → ∀ {σ m ρ σV H Z}, Rel K ρ m H → RL K ρ H σ σV → PostS K ρ H Z (dSs Γ G cs σ m) → bSs F s Z σV H
theorem asg_ok (S : Snd K mg Γ G N k n) (hF : Fam K mg Γ G N k sc F) {t e : Expr} {ct : CT} {c : CE} (ht : ckT N n sc t ct = true) (he : ckE N n sc e c = true) {σ : Loc} {σV : L2.St} (R : Rel K ρ m H) (rl : RL K ρ H σ σV)
    (h : PostS K ρ H Z (dS Γ G (.asg ct c) σ m)) : tAsg (bE F e) (bG F t) Z σV H := by
  simp only [dS] at h
  refine S.sE hF he R rl (h.to fun d m1 ρ1 H1 v R1 p1 x1 r1 h1 => ?_)
  refine S.sT hF ht (fun _ => True) true_T trivial R1 (rl.mono p1 x1) r1 (h1.to fun σ2 m2 ρ2 H2 σV2 R2 p2 x2 r2 h2 => ?_)
  exact h2.nx R2 r2.1
theorem s_succ (T : SndS K mg Γ G N k n) (hF : Fam K mg Γ G N k sc F) {s : Stmt} {cs : CS} (hc : ckS N (n + 1) sc s cs = true) {σ : Loc} {σV : L2.St} (R : Rel K ρ m H) (rl : RL K ρ H σ σV)
    (h : PostS K ρ H Z (dS Γ G cs σ m)) : bS F s Z σV H := by
  have S : Snd K mg Γ G N k n := snd n
  unfold ckS at hc
  split at hc
  case h_1 => cases hc
  case h_2 =>
    rename_i y py e pos i c hn
    cases hn
    simp only [Bool.and_eq_true, decide_eq_true_eq, Bool.or_eq_true] at hc
    obtain ⟨⟨⟨hi, hl⟩, hsw⟩, he⟩ := hc
    simp only [dS, dT] at h
    have fin : ∀ {te : TE}, (∀ {Q : VK}, Post K (RV K) ρ H Q (dE Γ G c σ m) → te σV H Q) → tAsg te (gName i) Z σV H := fun hte =>
      hte (h.to fun d m1 ρ1 H1 v R1 p1 x1 r1 h1 => by
        simp only [Res.ok_to] at h1
        exact h1.nx R1 ((rl.mono p1 x1).set r1))
    rcases hsw with ⟨hsw, hcm⟩ | hsw
    · unfold swB at hsw
      split at hsw
      · rename_i elt gens scope lpos
        split at hcm
        · rename_i vs t ci cb x
          simp only [Bool.and_eq_true, Bool.not_eq_true'] at hsw
          obtain ⟨⟨hloc, hline⟩, hno⟩ := hsw
          cases n with
          | zero => simp [ckE] at he
          | succ n =>
            have S' : Snd K mg Γ G N k n := snd n
            unfold ckE at he
            split at he
            case h_22 e' tg it ifs scope' pos' vs' t' i' c' x' hn' heq1 heq2 =>
              cases hn'
              cases heq1
              cases heq2
              simp only [Bool.and_eq_true] at he
              obtain ⟨⟨⟨⟨⟨⟨hb, hs⟩, ht⟩, hci⟩, hct⟩, hcb⟩, hce⟩ := he
              have hk : scope.kind = .function := (blkOk_by hb).kind
              refine ⟨tAsg (tLc (bI F tg it) (bG (blkF F scope) tg) (bTs (blkF F scope) ifs) (bE (blkF F scope) elt) ((ownOf N vs).map (·.2))) (gName i), fun X hX =>
                ps_setLc (hF.calm X hX) (by rw [hF.eN X hX]; exact hF.nd) (by rw [hF.eN X hX]; exact hi) (hF.local_ hloc hX) (sw_true (hF.kind X hX) (hF.local_ hloc hX) hline hno) (bI_ok hX tg it) (blk_ok hF hb hX)
                (fun s H C cl fp => bG_ok ⟨X, s, H, C, cl, fp, hX, rfl⟩ tg) (fun s H C cl fp => bTs_ok ⟨X, s, H, C, cl, fp, hX, rfl⟩ ifs) (fun s H C cl fp => bE_ok ⟨X, s, H, C, cl, fp, hX, rfl⟩ elt) (fold_no hs),
                fin fun hp => comp_read S' hF hb ht hci hct hcb hce R rl hp⟩
            all_goals first | (cases he; done) | (exfalso; simp_all; done) | skip
        · cases hcm
      · cases hsw
    · refine ⟨tAsg (bE F e) (gName i), fun X hX => ?_, fin fun hp => S.sE hF he R rl hp⟩
      obtain ⟨h1, h2⟩ := hF.loc hl hX
      exact ps_set (by rw [hF.eN X hX]; exact hF.nd) (by rw [hF.eN X hX]; exact hi) h1 (bE_ok hX e) (sw_name hF hX hsw) h2
  case h_3 =>
    rename_i x px y py k1 p1 a b k2 p2 pos i j c d hn
    cases hn
    simp only [Bool.and_eq_true, decide_eq_true_eq, Bool.or_eq_true] at hc
    obtain ⟨⟨⟨⟨⟨⟨⟨⟨hi, hj⟩, hlx⟩, hly⟩, ha⟩, hb⟩, hp⟩, hca⟩, hcb⟩ := hc
    rcases hp with ⟨hp, hij⟩ | hp
    · simp only [dS, dE, dEs] at h
      refine ⟨tPar i j (bA F [a, b]), fun X hX => ?_, ?_⟩
      · obtain ⟨q1, q2, q3⟩ := par_yes hF hX ha hb hp
        exact ps_par (hF.calm X hX) (by rw [hF.eN X hX]; exact hF.nd) (by rw [hF.eN X hX]; exact hi) (by rw [hF.eN X hX]; exact hj) hij (hF.local_ q2 hX) (hF.local_ q3 hX) (bA_ok hX _) q1 rfl
      · refine args_ok (f := ckE N n _) (cs := .cons c (.cons d .nil)) (fun h => S.sE hF h) (by simp only [ckAll, ha, hb, hca, hcb, Bool.and_self]) R rl ?_
        cases e1 : dE Γ G c σ m with
        | bad => rw [e1] at h; exact h.elim
        | ex e m1 => rw [e1] at h; exact h.elim
        | ok v m1 =>
          rw [e1] at h
          simp only [Res.bind] at h
          cases e2 : dE Γ G d σ m1 with
          | bad => rw [e2] at h; exact h.elim
          | ex e m2 => rw [e2] at h; exact h.elim
          | ok w m2 =>
            rw [e2] at h
            simp only [dEs, e1, e2, Res.bind]
            intro ρ1 H1 vs R1 q1 x1 r1
            simp only [RVs] at r1
            obtain ⟨v', ws, e3, r2, v'', ws', e4, r3, e5⟩ := r1
            subst e5
            subst e4
            subst e3
            simp only [Res.to, dT, seqOf, dTs] at h
            exact ⟨_, _, rfl, h ρ1 H1 _ R1 q1 x1 (((rl.mono q1 x1).set r2).set r3)⟩
    · cases n with
      | zero => simp [ckE] at hca
      | succ n =>
        refine ⟨tAsg (bE F (.Tuple [a, b] k2 p2)) (bG F (.Tuple [.Name x px, .Name y py] k1 p1)), fun X hX => ps_asg (bE_ok hX _) (bG_ok hX _) rfl (par_no hF hX hp) rfl, ?_⟩
        refine asg_ok (snd (n + 2)) hF ?_ ?_ R rl h
        · unfold ckT
          simp only [ckTs, noSt, ckT, hi, hj, hlx, hly, decide_true, Bool.and_self]
        · unfold ckE
          simp only [ckAll, ha, hb, hca, hcb, Bool.and_self, List.length_cons, List.length_nil]
          rfl
  case h_4 =>
    rename_i t e pos ct c hh1 hh2 hn
    cases hn
    simp only [Bool.and_eq_true] at hc
    obtain ⟨⟨⟨⟨⟨h1, h2⟩, h3⟩, h4⟩, h5⟩, h6⟩ := hc
    refine ⟨tAsg (bE F e) (bG F t), fun X hX => ps_asg (bE_ok hX e) (bG_ok hX t) ?_ (par_no hF hX h4) ?_, asg_ok S hF h6 h5 R rl h⟩
    · exact sw_no h3
    · rw [assignEach_cons h2]; rfl
  case h_5 =>
    rename_i x px o e pos i p c hn
    cases hn
    simp only [Bool.and_eq_true, decEqOp, decide_eq_true_eq] at hc
    obtain ⟨⟨⟨rfl, hi⟩, hl⟩, he⟩ := hc
    simp only [dS] at h
    split at h
    · rename_i d ed
      obtain ⟨v, hv, rv⟩ := rl.2 i d ed
      refine ⟨tAug i (bE F e) (bOp F (inplaceOp o)), fun X hX => ?_, v, hv, S.sE hF he R rl (h.to fun d2 m1 ρ1 H1 w R1 p1 x1 r1 h1 => ?_)⟩
      · obtain ⟨h1, h2⟩ := hF.loc hl hX
        exact ps_aug (by rw [hF.eN X hX]; exact hF.nd) (by rw [hF.eN X hX]; exact hi) h1 (bE_ok hX e) (bOp_ok hX _) h2
      · refine opA_ok R1 (rv.mono p1 x1) r1 (h1.to fun d3 m2 ρ2 H2 u R2 p2 x2 r2 h2 => ?_)
        exact h2.nx R2 (((rl.mono p1 x1).mono p2 x2).set r2)
    · exact h.elim
  case h_6 =>
    rename_i o i op' p e pos x y q z hn
    cases hn
    simp only [Bool.and_eq_true, decEqOp, decide_eq_true_eq] at hc
    obtain ⟨⟨⟨⟨rfl, hs⟩, ho⟩, hi⟩, he⟩ := hc
    simp only [dS] at h
    refine ⟨tAugS (bE F o) (bE F i) (bE F e) (bGet F) (bOp F (inplaceOp p)) (bPut F), fun X hX => ps_augS (bE_ok hX o) (bE_ok hX i) (bGet_ok hX) (bE_ok hX e) (bOp_ok hX _) (bPut_ok hX) (augS_no hs), ?_⟩
    refine S.sE hF ho R rl (h.to fun d1 m1 ρ1 H1 v1 R1 p1 x1 r1 h1 => ?_)
    refine S.sE hF hi R1 (rl.mono p1 x1) (h1.to fun d2 m2 ρ2 H2 v2 R2 p2 x2 r2 h2 => ?_)
    refine get_ok hF.toFew R2 (r1.mono p2 x2) r2 (h2.to fun d3 m3 ρ3 H3 v3 R3 p3 x3 r3 h3 => ?_)
    refine S.sE hF he R3 (((rl.mono p1 x1).mono p2 x2).mono p3 x3) (h3.to fun d4 m4 ρ4 H4 v4 R4 p4 x4 r4 h4 => ?_)
    refine opA_ok R4 (r3.mono p4 x4) r4 (h4.to fun d5 m5 ρ5 H5 v5 R5 p5 x5 r5 h5 => ?_)
    split at h5
    · rename_i m6 e6
      refine put_ok R5 ((((r1.mono p2 x2).mono p3 x3).mono p4 x4).mono p5 x5) (((r2.mono p3 x3).mono p4 x4).mono p5 x5) r5 e6 fun H' R' x' => ?_
      exact h5 ρ5 H' σV R' (List.prefix_refl _) x' (((((rl.mono p1 x1).mono p2 x2).mono p3 x3).mono p4 x4).mono p5 x5 |>.mono (List.prefix_refl _) x')
    · exact h5.elim
  case h_7 =>
    rename_i e pos c hn
    cases hn
    simp only [Bool.and_eq_true] at hc
    simp only [dS] at h
    exact ⟨tDrop (bE F e), fun X hX => ps_expr (bE_ok hX e) (sw_no hc.1), S.sE hF hc.2 R rl (h.to fun d1 m1 ρ1 H1 v1 R1 p1 x1 r1 h1 => h1.nx R1 (rl.mono p1 x1))⟩
  case h_8 =>
    rename_i e pos c hn
    cases hn
    simp only [dS] at h
    exact ⟨tRet (bE F e), fun X hX => ps_ret (bE_ok hX e), S.sE hF hc R rl (h.to fun d1 m1 ρ1 H1 v1 R1 p1 x1 r1 h1 => h1 ρ1 H1 v1 R1 (List.prefix_refl _) (.refl _) r1)⟩
  case h_9 =>
    simp only [dS] at h
    exact ⟨tRetN, fun X hX => ps_retN, h ρ H .non R (List.prefix_refl _) (.refl _) (by simp only [RV])⟩
  case h_10 =>
    simp only [dS] at h
    exact ⟨tNext, fun X hX => ps_pass, h.nx R rl⟩
  case h_11 =>
    simp only [dS] at h
    exact ⟨tBreak, fun X hX => ps_break, h ρ H σV R (List.prefix_refl _) (.refl _) rl⟩
  case h_12 =>
    simp only [dS] at h
    exact ⟨tCont, fun X hX => ps_continue, h ρ H σV R (List.prefix_refl _) (.refl _) rl⟩
  case h_13 =>
    rename_i t a b pos c x y hn
    cases hn
    simp only [Bool.and_eq_true] at hc
    obtain ⟨⟨ht, ha⟩, hb⟩ := hc
    simp only [dS] at h
    refine ⟨tIfS (bT F t) (bSs F a) (bSs F b), fun X hX => ps_if (bT_ok hX t) (bSs_ok hX a) (bSs_ok hX b), S.sB hF ht R rl (h.to fun d1 m1 ρ1 H1 v1 R1 p1 x1 r1 h1 => ?_)⟩
    subst r1
    cases d1 with
    | true => exact T.ss hF ha R1 (rl.mono p1 x1) h1
    | false => exact T.ss hF hb R1 (rl.mono p1 x1) h1
  case h_14 =>
    rename_i t b pos c x hn
    cases hn
    simp only [Bool.and_eq_true] at hc
    simp only [dS] at h
    exact ⟨tWhile (bT F t) (bSs F b), fun X hX => ps_while (hF.po X hX) (bT_ok hX t) (bSs_ok hX b), while_ok R rl h (fun R rl h => S.sB hF hc.1 R rl h) (fun R rl h => T.ss hF hc.2 R rl h)⟩
  case h_15 =>
    rename_i tg it b pos t i x hn
    cases hn
    simp only [Bool.and_eq_true] at hc
    obtain ⟨⟨⟨hs, hi⟩, ht⟩, hb⟩ := hc
    simp only [dS] at h
    refine ⟨tFor (bI F tg it) (bG F tg) (bSs F b), fun X hX => ps_for (hF.po X hX) (hF.calm X hX) (bI_ok hX tg it) (bG_ok hX tg) (bSs_ok hX b) (fold_no hs), S.sI hF hi R rl (h.to fun p m1 ρ1 H1 J R1 p1 x1 r1 h1 => ?_)⟩
    refine for_ok R1 (rl.mono p1 x1) r1 h1 fun R2 rl2 rv2 h2 => ?_
    exact S.sT hF ht (fun _ => True) true_T trivial R2 rl2 rv2 (h2.to fun σ3 m3 ρ3 H3 σV3 R3 p3 x3 r3 h3 => T.ss hF hb R3 r3.1 h3)
  case h_16 =>
    rename_i x px y py z pz k1 p1 a b c k2 p2 pos i j l u v w hn
    cases hn
    simp only [Bool.and_eq_true, decide_eq_true_eq] at hc
    obtain ⟨⟨⟨⟨⟨⟨⟨⟨⟨⟨⟨⟨hi, hj⟩, hl⟩, ha⟩, hb⟩, hd⟩, hij⟩, hil⟩, hjl⟩, hp⟩, hca⟩, hcb⟩, hcc⟩ := hc
    simp only [dS] at h
    refine ⟨tPar3 i j l (bA F [a, b, c]), fun X hX => ?_, ?_⟩
    · obtain ⟨q1, q2, q3, q4⟩ := par_yes3 hF hX ha hb hd hp
      exact ps_par3 (hF.calm X hX) (by rw [hF.eN X hX]; exact hF.nd) (by rw [hF.eN X hX]; exact hi) (by rw [hF.eN X hX]; exact hj) (by rw [hF.eN X hX]; exact hl) hij hil hjl (hF.local_ q2 hX) (hF.local_ q3 hX) (hF.local_ q4 hX) (bA_ok hX _) q1 rfl
    · refine ⟨tCons (bE F a) (bA F [b, c]), fun X hX => pa_cons (bE_ok hX a) (bA_ok hX [b, c]) (starEach_cons ha), S.sE hF hca R rl (h.to fun d1 m1 ρ1 H1 v1 R1 p1 x1 r1 h1 => ?_)⟩
      refine ⟨tCons (bE F b) (bA F [c]), fun X hX => pa_cons (bE_ok hX b) (bA_ok hX [c]) (starEach_cons hb), S.sE hF hcb R1 (rl.mono p1 x1) (h1.to fun d2 m2 ρ2 H2 v2 R2 p2 x2 r2 h2 => ?_)⟩
      refine ⟨tCons (bE F c) (bA F []), fun X hX => pa_cons (bE_ok hX c) (bA_ok hX []) (starEach_cons hd), S.sE hF hcc R2 ((rl.mono p1 x1).mono p2 x2) (h2.to fun d3 m3 ρ3 H3 v3 R3 p3 x3 r3 h3 => ?_)⟩
      refine ⟨_, fun X hX => pa_nil, ?_⟩
      exact ⟨_, _, _, rfl, h3 ρ3 H3 _ R3 (List.prefix_refl _) (.refl _) (((((((rl.mono p1 x1).mono p2 x2).mono p3 x3).set ((r1.mono p2 x2).mono p3 x3)).set (r2.mono p3 x3)).set r3))⟩
  case h_17 => cases hc
theorem ss_succ (T : SndS K mg Γ G N k n) (hF : Fam K mg Γ G N k sc F) {s : List Stmt} {cs : CSs} (hc : ckSs N (n + 1) sc s cs = true) {σ : Loc} {σV : L2.St} (R : Rel K ρ m H) (rl : RL K ρ H σ σV)
    (h : PostS K ρ H Z (dSs Γ G cs σ m)) : bSs F s Z σV H := by
  unfold ckSs at hc
  split at hc
  case h_1 => cases hc
  case h_2 =>
    simp only [dSs] at h
    exact ⟨_, fun X hX => pss_nil, h.nx R rl⟩
  case h_3 =>
    rename_i s ss c cs hn
    cases hn
    simp only [Bool.and_eq_true] at hc
    simp only [dSs] at h
    refine ⟨_, fun X hX => pss_cons (bS_ok hX s) (bSs_ok hX ss), ?_⟩
    refine T.s hF hc.1 R rl ?_
    cases e : dS Γ G c σ m with
    | bad => rw [e] at h; exact h
    | ex => rw [e] at h; exact h
    | nx σ3 m3 => rw [e] at h; exact fun ρ3 H3 σV3 R3 p3 x3 r3 => T.ss hF hc.2 R3 r3 (h.mono p3 x3)
    | ct σ3 m3 => rw [e] at h; exact h
    | bk σ3 m3 => rw [e] at h; exact h
    | rt d m3 => rw [e] at h; exact h
  case h_4 => cases hc
theorem sndS (n : Nat) : SndS K mg Γ G N k n := by
  induction n with
  | zero =>
    constructor
    · intro sc F hF e ce h; simp [ckS] at h
    · intro sc F hF e ce h; simp [ckSs] at h
  | succ n ih =>
    exact ⟨fun hF _ _ h _ _ _ _ _ _ R rl p => s_succ ih hF h R rl p, fun hF _ _ h _ _ _ _ _ _ R rl p => ss_succ ih hF h R rl p⟩
end
end PC

/-! PTop: a table of defs, each read as its core; the promise of each at every depth; the law's end. -/
namespace PC
open PySem L2 Classical
structure FD where
  name : Str
  st : Stmt
  N : List Str
  ps : List Str
  fuel : Nat
  body : CSs
def scB (N ps : List Str) (sc : Scope) : Bool :=
  decide (sc.kind = .function) && decide (sc.isCoroutine = false) && decide (sc.isGenerator = false) && decide N.Nodup && decide (N.take ps.length = ps) &&
    ps.all (fun x => decide (sc.names.lookup x = some .local) || decide (sc.names.lookup x = some .cell)) && sc.names.all (fun y => !decide (y.2 = .free))
theorem scB_ok {N ps : List Str} {sc : Scope} (h : scB N ps sc = true) : FnScope N ps sc := by
  simp only [scB, Bool.and_eq_true, decide_eq_true_eq, List.all_eq_true, Bool.or_eq_true, Bool.not_eq_true', decide_eq_false_iff_not] at h
  obtain ⟨⟨⟨⟨⟨⟨h1, h2⟩, h3⟩, h4⟩, h5⟩, h6⟩, h7⟩ := h
  exact ⟨h1, h2, h3, h4, h5, h6, h7⟩
/-- the def is what its core says -/
def FD.okB (f : FD) : Bool := scB f.N f.ps (defScope f.st) && ckSs f.N f.fuel (defScope f.st).names (defBody f.st) f.body
def FD.toDef (f : FD) : Def := ⟨f.ps.length, f.N.length, f.body⟩
def tabP (t : List FD) : Str → Option Def := fun x => (t.find? fun f => f.name == x).map FD.toDef
/-- the def stands in the module -/
structure InW (K : PySem.W.Frag) (mg : Str → Option Value) (f : FD) : Prop where
  ex : ∃ a fd, mg f.name = some (.ref a) ∧ Fun K f.name f.name f.st a fd ∧ Binds K fd f.ps []
section
variable {P : Program} {w : World} {K : PySem.W.Frag} {mg : Str → Option Value} {base : Heap} {G : Str → Option PC.D} {t : List FD}
theorem fin_post {m : Mem} {ρ : List Addr} {H : Hp} {Q : VK} (R : Rel K ρ m H) : ∀ {r : SR}, Post K (RV K) ρ H Q (fin m r) → PostS K ρ H { nx := fun _ H' => Q .non H', rt := Q } r
  | .nx σ m1, h => fun ρ' H' σV R' p x rl => by
    simp only [fin] at h
    cases e : gcD m .none m1 with
    | bad => rw [e] at h; exact h.elim
    | ex => rw [e] at h; exact h.elim
    | ok d' m' =>
      rw [e] at h
      obtain ⟨ρ2, R2, p2, r2⟩ := gc_ok (v := V.non) R R' p (by simp only [RV]) e
      exact h ρ2 H' _ R2 p2 x r2
  | .rt d m1, h => fun ρ' H' v R' p x rv => by
    simp only [fin] at h
    cases e : gcD m d m1 with
    | bad => rw [e] at h; exact h.elim
    | ex => rw [e] at h; exact h.elim
    | ok d' m' =>
      rw [e] at h
      obtain ⟨ρ2, R2, p2, r2⟩ := gc_ok R R' p rv e
      exact h ρ2 H' _ R2 p2 x r2
  | .bad, h => h.elim
  | .bk _ _, h => h.elim
  | .ct _ _, h => h.elim
  | .ex _ _ _, h => h.elim
theorem start_rl {N : List Str} {ρ : List Addr} {H : Hp} {ds : List PC.D} {vs : List V} (r : RVs K ρ H ds vs) : RL K ρ H (ds.map some ++ List.replicate (N.length - ds.length) none) (start N vs) := by
  have hl := r.len
  refine ⟨by simp [L2.start, hl], fun i d e => ?_⟩
  by_cases hi : i < ds.length
  · rw [List.getElem?_append_left (by simpa using hi), List.getElem?_map] at e
    cases e2 : ds[i]? with
    | none => rw [e2] at e; simp at e
    | some d' =>
      rw [e2] at e; simp at e; subst e
      obtain ⟨u, hu, ru⟩ := r.get e2
      refine ⟨u, ?_, ru⟩
      unfold L2.start
      rw [List.getElem?_append_left (by simp; exact (List.getElem?_eq_some_iff.mp hu).1), List.getElem?_map, hu]; rfl
  · rw [List.getElem?_append_right (by simpa using hi)] at e
    rw [List.getElem?_replicate] at e
    split at e <;> simp at e
/-- THE PROMISE of every def of the table, at every depth -/
theorem tab_ok (hok : t.all FD.okB = true) (hin : ∀ f ∈ t, InW K mg f) (hG : ∀ x d, G x = some d → ∃ u v, mg x = some u ∧ RelV v u ∧ ∀ ρ H, RV K ρ H d v) (hb : ∀ x ∈ bltN, mg x = none) :
    ∀ (k : Nat) (f : FD), (t.find? fun g => g.name == f.name) = some f → ∀ a fd, Fun K f.name f.name f.st a fd → FnOk P w K mg base CX0 k a fd f.ps (spI K f.ps.length (runF (tabP t) G k f.name))
  | 0, f, hf, a, fd, Fn => ⟨fun vs H Q E h => h.1, fun A outer s H args us vs Q E hr he hbd hv hs => by
      obtain ⟨_, ds, m, ρ, R, r, h⟩ := hs
      simp only [runF] at h
      exact h.elim⟩
  | k + 1, f, hf, a, fd, Fn => by
    have hmem : f ∈ t := List.mem_of_find?_eq_some hf
    have hk := List.all_eq_true.mp hok f hmem
    simp only [FD.okB, Bool.and_eq_true] at hk
    have S := scB_ok hk.1
    refine Fn.ok S (fun vs H Q E h => h.1) (fun cdv A outer s H vs Q E hr h => ?_)
    obtain ⟨hl, ds, m, ρ, R, r, h⟩ := h
    have hp : tabP t f.name = some f.toDef := by simp only [tabP, hf, Option.map_some]
    simp only [runF, hp, FD.toDef] at h
    have hds : ds.length = f.ps.length := by rw [← hl, r.len]
    rw [if_pos hds] at h
    have hF : Fam K mg (runF (tabP t) G k) G f.N k (defScope f.st).names (fun X => X = (cxOf CX0 P w K mg base f.N f.name (defScope f.st) a cdv A outer s H E).nox) := {
      eK := fun X hX => by subst hX; rfl
      calm := fun X hX => by subst hX; rfl
      un := fun X hX => by subst hX; have := hr.un; show (A.deeper _).units + 200 < _; omega
      eg := fun X hX => by subst hX; rfl
      eN := fun X hX => by subst hX; rfl
      nd := S.nd
      kind := fun X hX => by subst hX; exact S.kind
      lk := fun X hX x => by subst hX; exact .inl rfl
      fn := fun X hX x _ => by subst hX; exact .inl rfl
      po := fun X hX => by subst hX; exact .never
      room := fun X hX => by subst hX; exact hr
      glob := hG
      blt := hb
      calls := fun g ds m hne => by
        cases k with
        | zero => exact absurd rfl hne
        | succ k =>
          cases e : t.find? (fun g' => g'.name == g) with
          | none => exact absurd (by simp [runF, tabP, e]) hne
          | some f' =>
            have hn : f'.name = g := by simpa using List.find?_some e
            subst hn
            obtain ⟨a', fd', h1, F', h3⟩ := (hin f' (List.mem_of_find?_eq_some e)).ex
            refine ⟨a', fd', f'.ps, ?_, h1, F'.kp, h3, fun X hX => by subst hX; exact tab_ok hok hin hG hb (k + 1) f' e a' fd' F'⟩
            simp only [runF, tabP, e, Option.map_some, FD.toDef] at hne
            by_cases hh : ds.length = f'.ps.length
            · exact hh
            · rw [if_neg hh] at hne; exact absurd rfl hne }
    obtain ⟨tt, ht, q⟩ := (sndS f.fuel).ss hF hk.2 (Z := { nx := fun _ H' => Q .non H', rt := Q }) R (start_rl (N := f.N) r) (fin_post R (by rw [← hds] at h; exact h))
    exact ⟨tt, ht _ rfl, q⟩
/-- the law's promise -/
theorem law_sp {n : Str} {k : Nat} {H : Hp} {a : Addr} {ns : List Int} (hs : SqL K H a (ns.map V.int)) (hO : Only H)
    (h : ∃ m, runF (tabP t) G k n [.kl (ns.map .int)] [] = .ok (.bool true) m) : spI K 1 (runF (tabP t) G k n) [.ref a] H (fun v _ => v = .bl true) fun _ _ _ => False := by
  obtain ⟨m, h⟩ := h
  refine ⟨rfl, [.kl (ns.map .int)], [], [], ⟨rfl, by simp, fun i o e => by simp at e⟩, ?_, ?_⟩
  · simp only [RVs, RV]
    refine ⟨.ref a, [], rfl, ⟨a, ns.map V.int, rfl, ?_, ?_⟩, rfl⟩
    · rcases hs with (hs | ⟨o, hs⟩) | hs
      · rcases hO a with e | ⟨o, xs, e⟩
        · rw [e] at hs; cases hs
        · rw [e] at hs; cases hs
      · exact .inl ⟨o, hs⟩
      · exact .inr hs
    · clear h hs
      induction ns with
      | nil => simp only [List.map_nil, RVs]
      | cons i ns ih => simp only [List.map_cons, RVs]; exact ⟨_, _, rfl, by simp only [RV], ih⟩
  · rw [h]
    exact fun ρ' H' b R p x r => by simpa only [RV] using r
end
end PC

/-! PWp: how a core is run: what is wanted of a run's end. -/
namespace PC
open PySem L2 Classical
def Res.wp {α : Type} (r : Res α) (Q : α → Mem → Prop) : Prop := match r with | .ok a m => Q a m | _ => False
def SR.wp (r : SR) (N : Loc → Mem → Prop) (R : D → Mem → Prop) (B C : Loc → Mem → Prop) : Prop :=
  match r with | .nx σ m => N σ m | .rt d m => R d m | .bk σ m => B σ m | .ct σ m => C σ m | _ => False
section
variable {α β : Type} {Q Q' : α → Mem → Prop} {N N' B B' C C' : Loc → Mem → Prop} {R R' : D → Mem → Prop}
@[simp] theorem wp_ok {a : α} {m : Mem} : (Res.ok a m).wp Q = Q a m := rfl
@[simp] theorem wp_bad : (Res.bad : Res α).wp Q = False := rfl
@[simp] theorem wp_ex {e m} : (Res.ex e m : Res α).wp Q = False := rfl
@[simp] theorem wp_bind {r : Res β} {f : β → Mem → Res α} : (r.bind f).wp Q = r.wp fun a m => (f a m).wp Q := by cases r <;> rfl
@[simp] theorem wp_to {r : Res β} {σ : Loc} {f : β → Mem → SR} : (r.to σ f).wp N R B C = r.wp fun a m => (f a m).wp N R B C := by cases r <;> rfl
@[simp] theorem swp_nx {σ m} : (SR.nx σ m).wp N R B C = N σ m := rfl
@[simp] theorem swp_rt {d m} : (SR.rt d m).wp N R B C = R d m := rfl
@[simp] theorem swp_bk {σ m} : (SR.bk σ m).wp N R B C = B σ m := rfl
@[simp] theorem swp_ct {σ m} : (SR.ct σ m).wp N R B C = C σ m := rfl
@[simp] theorem swp_bad : SR.bad.wp N R B C = False := rfl
@[simp] theorem swp_seq {r : SR} {f : Loc → Mem → SR} : (r.seq f).wp N R B C = r.wp (fun σ m => (f σ m).wp N R B C) R B C := by cases r <;> rfl
@[simp] theorem wp_fin {m0 : Mem} {r : SR} {Q : D → Mem → Prop} : (fin m0 r).wp Q = r.wp (fun _ m => (gcD m0 .none m).wp Q) (fun d m => (gcD m0 d m).wp Q) (fun _ _ => False) (fun _ _ => False) := by cases r <;> rfl
theorem Res.wp.imp {r : Res α} (h : r.wp Q) (k : ∀ a m, Q a m → Q' a m) : r.wp Q' := by
  cases r with
  | ok a m => exact k a m h
  | bad => exact h
  | ex => exact h
theorem SR.wp.imp {r : SR} (h : r.wp N R B C) (n : ∀ σ m, N σ m → N' σ m) (rt : ∀ d m, R d m → R' d m) (b : ∀ σ m, B σ m → B' σ m) (c : ∀ σ m, C σ m → C' σ m) : r.wp N' R' B' C' := by
  cases r with
  | nx σ m => exact n σ m h
  | rt d m => exact rt d m h
  | bk σ m => exact b σ m h
  | ct σ m => exact c σ m h
  | bad => exact h
  | ex => exact h
theorem wp_eq {r : Res α} {a : α} {m : Mem} (h : r.wp fun b m' => b = a ∧ m' = m) : r = .ok a m := by
  cases r with
  | ok b m' => obtain ⟨rfl, rfl⟩ := h; rfl
  | bad => exact h.elim
  | ex => exact h.elim
theorem wp_ex_eq {r : Res α} (h : r.wp Q) : ∃ a m, r = .ok a m ∧ Q a m := by
  cases r with
  | ok b m' => exact ⟨b, m', rfl, h⟩
  | bad => exact h.elim
  | ex => exact h.elim
theorem wp_of {r : Res α} {a : α} {m : Mem} (e : r = .ok a m) (h : Q a m) : r.wp Q := by rw [e]; exact h
/-- a while, with what holds ahead of each turn and what gets smaller -/
theorem while_wp {c : Loc → Mem → Res Bool} {b : Loc → Mem → SR} (I : Nat → Loc → Mem → Prop) {n : Nat} {σ : Loc} {m : Mem} (h0 : I n σ m)
    (hs : ∀ n σ m, I n σ m → (c σ m).wp fun t m1 => if t = true then (b σ m1).wp (fun σ' m' => ∃ n', n' < n ∧ I n' σ' m') R N (fun σ' m' => ∃ n', n' < n ∧ I n' σ' m') else N σ m1) :
    (whileD c b σ m).wp N R B C := by
  have key : ∀ n σ m, I n σ m → ∃ k, (whileN c b k σ m).wp N R B C := by
    intro n
    induction n using Nat.strongRecOn with
    | ind n ih =>
      intro σ m h
      have h1 := hs n σ m h
      obtain ⟨t, m1, e1, h2⟩ := wp_ex_eq h1
      cases t with
      | false => exact ⟨1, by simp only [whileN, e1, Res.ok_to]; simpa using h2⟩
      | true =>
        simp only [if_true] at h2
        cases e2 : b σ m1 with
        | nx σ' m' =>
          rw [e2] at h2
          obtain ⟨n', hn, hI⟩ := h2
          obtain ⟨k, hk⟩ := ih n' hn σ' m' hI
          exact ⟨k + 1, by simp only [whileN, e1, Res.ok_to, e2]; exact hk⟩
        | ct σ' m' =>
          rw [e2] at h2
          obtain ⟨n', hn, hI⟩ := h2
          obtain ⟨k, hk⟩ := ih n' hn σ' m' hI
          exact ⟨k + 1, by simp only [whileN, e1, Res.ok_to, e2]; exact hk⟩
        | bk σ' m' => rw [e2] at h2; exact ⟨1, by simp only [whileN, e1, Res.ok_to, e2]; exact h2⟩
        | rt d m' => rw [e2] at h2; exact ⟨1, by simp only [whileN, e1, Res.ok_to, e2]; exact h2⟩
        | bad => rw [e2] at h2; exact h2.elim
        | ex => rw [e2] at h2; exact h2.elim
  obtain ⟨k, hk⟩ := key n σ m h0
  have mono : ∀ k j σ m, whileN c b k σ m ≠ .bad → k ≤ j → whileN c b j σ m = whileN c b k σ m := by
    intro k
    induction k with
    | zero => intro j σ m h; exact absurd rfl h
    | succ k ih =>
      intro j σ m h hj
      cases j with
      | zero => omega
      | succ j =>
        simp only [whileN] at h ⊢
        cases e1 : c σ m with
        | bad => rfl
        | ex => rfl
        | ok t m1 =>
          rw [e1] at h
          simp only [Res.ok_to] at h ⊢
          cases t with
          | false => rfl
          | true =>
            simp only at h ⊢
            cases e2 : b σ m1 with
            | nx σ' m' => rw [e2] at h; exact ih j σ' m' h (by omega)
            | ct σ' m' => rw [e2] at h; exact ih j σ' m' h (by omega)
            | bk σ' m' => rfl
            | rt d m' => rfl
            | bad => rfl
            | ex => rfl
  have hne : ∃ k, whileN c b k σ m ≠ .bad := ⟨k, fun e => by rw [e] at hk; exact hk⟩
  unfold whileD
  rw [dif_pos hne]
  have h1 := choose_spec hne
  have h2 : whileN c b k σ m ≠ .bad := fun e => by rw [e] at hk; exact hk
  rcases Nat.le_total k (choose hne) with h | h
  · rw [mono k _ σ m h2 h]; exact hk
  · rw [← mono _ k σ m h1 h]; exact hk
/-- a for -/
theorem for_wp {gs : List (Nat × List D)} {body : D → Loc → Mem → SR} (I : List D → List D → Loc → Mem → Prop) : ∀ (todo : List D) (done : List D) {σ : Loc} {m : Mem}, I done todo σ m →
    (∀ done todo σ m, I done todo σ m → guardOk gs m) →
    (∀ done x todo σ m, I done (x :: todo) σ m → (body x σ m).wp (I (done ++ [x]) todo) R N (I (done ++ [x]) todo)) →
    (∀ done σ m, I done [] σ m → N σ m) → (forD gs body todo σ m).wp N R B C
  | [], done, σ, m, h, hg, _, hn => by
    unfold forD
    rw [if_pos (hg _ _ _ _ h)]
    exact hn _ _ _ h
  | x :: todo, done, σ, m, h, hg, hs, hn => by
    unfold forD
    rw [if_pos (hg _ _ _ _ h)]
    have h1 := hs _ _ _ _ _ h
    cases e : body x σ m with
    | nx σ' m' => rw [e] at h1; exact for_wp I todo (done ++ [x]) h1 hg hs hn
    | ct σ' m' => rw [e] at h1; exact for_wp I todo (done ++ [x]) h1 hg hs hn
    | bk σ' m' => rw [e] at h1; exact h1
    | rt d m' => rw [e] at h1; exact h1
    | bad => rw [e] at h1; exact h1
    | ex => rw [e] at h1; exact h1
theorem set_at {α : Type} {m j : List α} {x y : α} : (m ++ x :: j).set m.length y = m ++ y :: j := by
  rw [List.set_append]; simp
theorem get_at {α : Type} {m j : List α} {x : α} : (m ++ x :: j)[m.length]? = some x := by simp
/-- a comprehension: what holds of what is made, over a memory that may change -/
theorem comp_wp {gs : List (Nat × List D)} {n : Nat} {body : D → Mem → Res (Option D)} {Q : D → Mem → Prop} (I : List D → List D → List D → Mem → Prop) : ∀ (todo done acc : List D) {m : Mem}, I done todo acc m →
    (∀ done todo acc m, I done todo acc m → guardOk gs m) →
    (∀ done x todo acc m, I done (x :: todo) acc m → (body x m).wp fun o m1 => match o with
      | none => I (done ++ [x]) todo acc m1
      | some y => m1[n]? = some (.lst acc) ∧ acc.length < sizeLine ∧ I (done ++ [x]) todo (acc ++ [y]) (m1.set n (.lst (acc ++ [y])))) →
    (∀ done acc m, I done [] acc m → Q (.ref n) m) → (compD gs n body todo m).wp Q
  | [], done, acc, m, h, hg, _, hn => by
    unfold compD
    rw [if_pos (hg _ _ _ _ h)]
    exact hn _ _ _ h
  | x :: todo, done, acc, m, h, hg, hs, hn => by
    unfold compD
    rw [if_pos (hg _ _ _ _ h)]
    rw [wp_bind]
    refine (hs _ _ _ _ _ h).imp fun o m1 h1 => ?_
    cases o with
    | none => exact comp_wp I todo _ _ h1 hg hs hn
    | some y =>
      obtain ⟨e, hl, h2⟩ := h1
      simp only [e, if_lo hl]
      exact comp_wp I todo _ _ h2 hg hs hn
/-- a comprehension whose parts leave the memory as it is -/
theorem comp_pure {gs : List (Nat × List D)} {m : Mem} {n : Nat} (hn : n = m.length) {body : D → Mem → Res (Option D)} {f : D → Option D} {xs : List D}
    (hg : ∀ acc, guardOk gs (m ++ [.lst acc])) (hb : ∀ x ∈ xs, ∀ acc, body x (m ++ [.lst acc]) = .ok (f x) (m ++ [.lst acc])) (hl : xs.length ≤ sizeLine) :
    compD gs n body xs (m ++ [.lst []]) = .ok (.ref n) (m ++ [.lst (xs.filterMap f)]) := by
  subst hn
  have key : ∀ (ys acc : List D), (∀ x ∈ ys, x ∈ xs) → acc.length + ys.length ≤ sizeLine → compD gs m.length body ys (m ++ [.lst acc]) = .ok (.ref m.length) (m ++ [.lst (acc ++ ys.filterMap f)]) := by
    intro ys
    induction ys with
    | nil => intro acc _ _; unfold compD; rw [if_pos (hg acc)]; simp
    | cons y ys ih =>
      intro acc hy hh
      simp only [List.length_cons] at hh
      unfold compD
      rw [if_pos (hg acc), hb y (hy y (by simp)) acc]
      simp only [Res.ok_bind]
      cases e : f y with
      | none => simp only [List.filterMap_cons, e]; exact ih acc (fun x hx => hy x (by simp [hx])) (by omega)
      | some z =>
        have h1 : (m ++ [MO.lst acc])[m.length]? = some (.lst acc) := get_at
        have h2 : (m ++ [MO.lst acc]).set m.length (.lst (acc ++ [z])) = m ++ [.lst (acc ++ [z])] := set_at
        simp only [h1, if_lo (show acc.length < sizeLine by omega), h2, List.filterMap_cons, e]
        rw [ih (acc ++ [z]) (fun x hx => hy x (by simp [hx])) (by simp; omega)]
        simp
  have := key xs [] (fun _ h => h) (by simpa using hl)
  simpa using this
theorem filterMap_some {α β : Type} {f : α → Option β} {g : α → β} {xs : List α} (h : ∀ x ∈ xs, f x = some (g x)) : xs.filterMap f = xs.map g := by
  induction xs with
  | nil => rfl
  | cons x xs ih => rw [List.filterMap_cons, h x (by simp)]; simp [ih fun y hy => h y (by simp [hy])]
/-- .. no test -/
theorem comp_map {gs : List (Nat × List D)} {m : Mem} {n : Nat} (hn : n = m.length) {body : D → Mem → Res (Option D)} {f : D → D} {xs : List D}
    (hg : ∀ acc, guardOk gs (m ++ [.lst acc])) (hb : ∀ x ∈ xs, ∀ acc, body x (m ++ [.lst acc]) = .ok (some (f x)) (m ++ [.lst acc])) (hl : xs.length ≤ sizeLine) :
    compD gs n body xs (m ++ [.lst []]) = .ok (.ref n) (m ++ [.lst (xs.map f)]) := by
  rw [comp_pure hn (f := fun x => some (f x)) hg hb hl, filterMap_some fun _ _ => rfl]
/-- a for over things that stand for others; what holds behind the turns that are done -/
theorem for_wpL {α : Type} {gs : List (Nat × List D)} {body : D → Loc → Mem → SR} {e : α → D} {ys : List α} (I : List α → Loc → Mem → Prop) {σ : Loc} {m : Mem} (h0 : I [] σ m)
    (hg : ∀ done σ m, I done σ m → guardOk gs m)
    (hs : ∀ done y σ m, y ∈ ys → done ++ [y] <+: ys → I done σ m → (body (e y) σ m).wp (I (done ++ [y])) R N (I (done ++ [y])))
    (hn : ∀ σ m, I ys σ m → N σ m) : (forD gs body (ys.map e) σ m).wp N R B C := by
  have key : ∀ (todo done : List α) {σ m}, done ++ todo = ys → I done σ m → (forD gs body (todo.map e) σ m).wp N R B C := by
    intro todo
    induction todo with
    | nil =>
      intro done σ m hd h
      simp only [List.map_nil]
      unfold forD
      rw [if_pos (hg _ _ _ h)]
      simp only [List.append_nil] at hd
      subst hd
      exact hn _ _ h
    | cons y todo ih =>
      intro done σ m hd h
      simp only [List.map_cons]
      unfold forD
      rw [if_pos (hg _ _ _ h)]
      have hd' : (done ++ [y]) ++ todo = ys := by simpa using hd
      have h1 := hs done y σ m (by rw [← hd]; simp) ⟨todo, hd'⟩ h
      cases e2 : body (e y) σ m with
      | nx σ' m' => rw [e2] at h1; exact ih (done ++ [y]) hd' h1
      | ct σ' m' => rw [e2] at h1; exact ih (done ++ [y]) hd' h1
      | bk σ' m' => rw [e2] at h1; exact h1
      | rt d m' => rw [e2] at h1; exact h1
      | bad => rw [e2] at h1; exact h1
      | ex => rw [e2] at h1; exact h1
  exact key ys [] (by simp) h0
/-- a comprehension over things that stand for others -/
theorem comp_wpL {α : Type} {gs : List (Nat × List D)} {n : Nat} {body : D → Mem → Res (Option D)} {Q : D → Mem → Prop} {e : α → D} {ys : List α} (I : List α → List D → Mem → Prop) {m : Mem} (h0 : I [] [] m)
    (hg : ∀ done acc m, I done acc m → guardOk gs m)
    (hs : ∀ done y acc m, y ∈ ys → done ++ [y] <+: ys → I done acc m → (body (e y) m).wp fun o m1 => match o with
      | none => I (done ++ [y]) acc m1
      | some z => m1[n]? = some (.lst acc) ∧ acc.length < sizeLine ∧ I (done ++ [y]) (acc ++ [z]) (m1.set n (.lst (acc ++ [z]))))
    (hn : ∀ acc m, I ys acc m → Q (.ref n) m) : (compD gs n body (ys.map e) m).wp Q := by
  have key : ∀ (todo done : List α) (acc : List D) {m}, done ++ todo = ys → I done acc m → (compD gs n body (todo.map e) m).wp Q := by
    intro todo
    induction todo with
    | nil =>
      intro done acc m hd h
      simp only [List.map_nil]
      unfold compD
      rw [if_pos (hg _ _ _ h)]
      simp only [List.append_nil] at hd
      subst hd
      exact hn _ _ h
    | cons y todo ih =>
      intro done acc m hd h
      simp only [List.map_cons]
      unfold compD
      rw [if_pos (hg _ _ _ h), wp_bind]
      have hd' : (done ++ [y]) ++ todo = ys := by simpa using hd
      refine (hs done y acc m (by rw [← hd]; simp) ⟨todo, hd'⟩ h).imp fun o m1 h1 => ?_
      cases o with
      | none => exact ih (done ++ [y]) acc hd' h1
      | some z =>
        obtain ⟨e2, hl, h2⟩ := h1
        simp only [e2, if_lo hl]
        exact ih (done ++ [y]) (acc ++ [z]) hd' h2
  exact key ys [] [] (by simp) h0
@[simp] theorem guard_nil {m : Mem} : guardOk [] m = True := by simp [guardOk]
@[simp] theorem guard_one {m : Mem} {n : Nat} {xs : List D} : guardOk [(n, xs)] m = (m[n]? = some (.lst xs)) := by simp [guardOk]
/-! ### forgetting -/
theorem gc_same {m0 j : Mem} {d : D} (h : below m0.length d = true) : gcD m0 d (m0 ++ j) = .ok d m0 := by
  unfold gcD
  have : oldOk m0 (m0 ++ j) := ⟨by simp, fun i hi => .inl (by rw [List.getElem?_append_left hi])⟩
  rw [if_pos this, if_pos h]; simp
theorem gc_id {m0 : Mem} {d : D} (h : below m0.length d = true) : gcD m0 d m0 = .ok d m0 := by
  have := gc_same (m0 := m0) (j := []) h
  simpa using this
theorem gc_new {m0 : Mem} {o : MO} (h : o.below m0.length = true) : gcD m0 (.ref m0.length) (m0 ++ [o]) = .ok (.ref m0.length) (m0 ++ [o]) := by
  unfold gcD
  have : oldOk m0 (m0 ++ [o]) := ⟨by simp, fun i hi => .inl (by rw [List.getElem?_append_left hi])⟩
  rw [if_pos this, if_neg (by simp [below])]
  simp [h]
theorem gc_new2 {m0 : Mem} {o : MO} {j : Mem} {n : Nat} (hn : (m0 ++ j)[n]? = some o) (hm : m0.length ≤ n) (h : o.below m0.length = true) : gcD m0 (.ref n) (m0 ++ j) = .ok (.ref m0.length) (m0 ++ [o]) := by
  unfold gcD
  have : oldOk m0 (m0 ++ j) := ⟨by simp, fun i hi => .inl (by rw [List.getElem?_append_left hi])⟩
  rw [if_pos this, if_neg (by simp [below]; omega)]
  simp [hn, h]
@[simp] theorem belows_ints {n : Nat} {xs : List Int} : belows n (xs.map .int) = true := by
  induction xs with
  | nil => rfl
  | cons x xs ih => simp [belows, below, ih]
theorem belows_all {n : Nat} {xs : List D} (h : ∀ x ∈ xs, below n x = true) : belows n xs = true := by
  induction xs with
  | nil => rfl
  | cons x xs ih => simp only [belows, Bool.and_eq_true]; exact ⟨h x (by simp), ih fun y hy => h y (by simp [hy])⟩
theorem intsD_map {xs : List Int} : intsD (xs.map .int) = some xs := by
  induction xs with
  | nil => rfl
  | cons x xs ih => simp [intsD, ih]
theorem boolsD_map {xs : List Bool} : boolsD (xs.map .bool) = some xs := by
  induction xs with
  | nil => rfl
  | cons x xs ih => simp [boolsD, ih]
end
end PC

/-! PSim: the rules by which a core is run step by step. -/
namespace PC
open PySem L2 Classical
section
variable {Γ : Fn} {G : Str → Option D} {σ : Loc} {m : Mem}
@[simp] theorem dE_var {i} : dE Γ G (.var i) σ m = match σ[i]? with | some (some d) => .ok d m | _ => .bad := by simp only [dE] <;> rfl
@[simp] theorem dE_lit {d} : dE Γ G (.lit d) σ m = .ok d m := by simp only [dE] <;> rfl
@[simp] theorem dE_glob {x} : dE Γ G (.glob x) σ m = match G x with | some d => .ok d m | none => .bad := by simp only [dE] <;> rfl
@[simp] theorem dE_bin {o a b} : dE Γ G (.bin o a b) σ m = (dE Γ G a σ m).bind fun x m1 => (dE Γ G b σ m1).bind fun y m2 => opB o x y m2 := by simp only [dE] <;> rfl
@[simp] theorem dE_neg {a} : dE Γ G (.neg a) σ m = (dE Γ G a σ m).bind fun x m1 => match x with | .int i => .ok (.int (-i)) m1 | _ => .bad := by simp only [dE] <;> rfl
@[simp] theorem dE_inv {a} : dE Γ G (.inv a) σ m = (dE Γ G a σ m).bind fun x m1 => match x with | .int i => .ok (.int (Builtin.bitNot i)) m1 | _ => .bad := by simp only [dE] <;> rfl
@[simp] theorem dE_cmp {o a b} : dE Γ G (.cmp o a b) σ m = (dE Γ G a σ m).bind fun x m1 => (dE Γ G b σ m1).bind fun y m2 => opC o x y m2 := by simp only [dE] <;> rfl
@[simp] theorem dE_chain {o o' a b c} : dE Γ G (.chain o o' a b c) σ m = (dE Γ G a σ m).bind fun x m1 => (dE Γ G b σ m1).bind fun y m2 => (opC o x y m2).bind fun z m3 =>
      match z with
      | .bool true => (dE Γ G c σ m3).bind fun w m4 => opC o' y w m4
      | .bool false => .ok (.bool false) m3
      | _ => .bad := by simp only [dE] <;> rfl
@[simp] theorem dE_and {a b} : dE Γ G (.and a b) σ m = (dE Γ G a σ m).bind fun x m1 => match truD m1 x with
      | some true => dE Γ G b σ m1
      | some false => .ok x m1
      | none => .bad := by simp only [dE] <;> rfl
@[simp] theorem dE_or {a b} : dE Γ G (.or a b) σ m = (dE Γ G a σ m).bind fun x m1 => match truD m1 x with
      | some true => .ok x m1
      | some false => dE Γ G b σ m1
      | none => .bad := by simp only [dE] <;> rfl
@[simp] theorem dE_not {a} : dE Γ G (.not a) σ m = (dE Γ G a σ m).bind fun x m1 => ofNB (truD m1 x) m1 := by simp only [dE] <;> rfl
@[simp] theorem dE_ife {t a b} : dE Γ G (.ife t a b) σ m = (dB Γ G t σ m).bind fun c m1 => if c = true then dE Γ G a σ m1 else dE Γ G b σ m1 := by simp only [dE] <;> rfl
@[simp] theorem dE_tup {es} : dE Γ G (.tup es) σ m = (dEs Γ G es σ m).bind fun xs m1 => .ok (.tup xs) m1 := by simp only [dE] <;> rfl
@[simp] theorem dE_lst {es} : dE Γ G (.lst es) σ m = (dEs Γ G es σ m).bind fun xs m1 => newL xs m1 := by simp only [dE] <;> rfl
@[simp] theorem dE_idx {a i} : dE Γ G (.idx a i) σ m = (dE Γ G a σ m).bind fun x m1 => (dE Γ G i σ m1).bind fun y m2 => idxD x y m2 := by simp only [dE] <;> rfl
@[simp] theorem dE_slc {a lo hi} : dE Γ G (.slc a lo hi) σ m = (dE Γ G a σ m).bind fun x m1 => (dO Γ G lo σ m1).bind fun l m2 => (dO Γ G hi σ m2).bind fun h m3 => slcD x l h m3 := by simp only [dE] <;> rfl
@[simp] theorem dE_call {f es} : dE Γ G (.call f es) σ m = (dEs Γ G es σ m).bind fun xs m1 => Γ f xs m1 := by simp only [dE] <;> rfl
@[simp] theorem dE_bi {f es} : dE Γ G (.bi f es) σ m = (dEs Γ G es σ m).bind fun xs m1 => biD f xs m1 := by simp only [dE] <;> rfl
@[simp] theorem dE_isin {e T} : dE Γ G (.isin e T) σ m = (dE Γ G e σ m).bind fun x m1 => ofB (isinD m1 T x) m1 := by simp only [dE] <;> rfl
@[simp] theorem dE_meth {f o es} : dE Γ G (.meth f o es) σ m = (dE Γ G o σ m).bind fun x m1 => if mtPre f x m1 = true then (dEs Γ G es σ m1).bind fun xs m2 => mtD f x xs m2 else .bad := by simp only [dE] <;> rfl
@[simp] theorem dE_comp {vs t it c e} : dE Γ G (.comp vs t it c e) σ m = (dI Γ G it σ m).bind fun p m1 =>
      compD p.2 m1.length (fun x m2 => (dT Γ G t x (wipeL σ vs) m2).bind fun σ2 m3 => (dBO Γ G c σ2 m3).bind fun b m4 =>
        if b = true then (dE Γ G e σ2 m4).bind fun y m5 => .ok (some y) m5 else .ok none m4) p.1 (m1 ++ [.lst []]) := by simp only [dE] <;> rfl
@[simp] theorem dE_gc {e} : dE Γ G (.gc e) σ m = (dE Γ G e σ m).bind fun d m1 => gcD m d m1 := by simp only [dE] <;> rfl
@[simp] theorem dE_lrng1 {a} : dE Γ G (.lrng1 a) σ m = (dE Γ G a σ m).bind fun x m1 => match x with | .int j => if Lo (0 ≤ j ∧ j ≤ 16777216) then newL (rngD 0 j) m1 else .bad | _ => .bad := by simp only [dE] <;> rfl
@[simp] theorem dE_lrng2 {a b} : dE Γ G (.lrng2 a b) σ m = (dE Γ G a σ m).bind fun x m1 => (dE Γ G b σ m1).bind fun y m2 => match x, y with
      | .int i, .int j => if Lo (0 ≤ i ∧ i ≤ 16777216 ∧ 0 ≤ j ∧ j ≤ 16777216) then newL (rngD i j) m2 else .bad
      | _, _ => .bad := by simp only [dE] <;> rfl
@[simp] theorem dEs_nil : dEs Γ G .nil σ m = .ok [] m := by simp only [dEs] <;> rfl
@[simp] theorem dEs_cons {e es} : dEs Γ G (.cons e es) σ m = (dE Γ G e σ m).bind fun x m1 => (dEs Γ G es σ m1).bind fun xs m2 => .ok (x :: xs) m2 := by simp only [dEs] <;> rfl
@[simp] theorem dO_none : dO Γ G .none σ m = .ok none m := by simp only [dO] <;> rfl
@[simp] theorem dO_some {e} : dO Γ G (.some e) σ m = (dE Γ G e σ m).bind fun x m1 => match x with | .int i => .ok (some i) m1 | _ => .bad := by simp only [dO] <;> rfl
@[simp] theorem dB_and {a b} : dB Γ G (.and a b) σ m = (dB Γ G a σ m).bind fun t m1 => if t = true then dB Γ G b σ m1 else .ok false m1 := by simp only [dB] <;> rfl
@[simp] theorem dB_or {a b} : dB Γ G (.or a b) σ m = (dB Γ G a σ m).bind fun t m1 => if t = true then .ok true m1 else dB Γ G b σ m1 := by simp only [dB] <;> rfl
@[simp] theorem dB_not {a} : dB Γ G (.not a) σ m = (dB Γ G a σ m).bind fun t m1 => .ok (!t) m1 := by simp only [dB] <;> rfl
@[simp] theorem dB_val {e} : dB Γ G (.val e) σ m = (dE Γ G e σ m).bind truR := by simp only [dB] <;> rfl
@[simp] theorem dBO_none : dBO Γ G .none σ m = .ok true m := by simp only [dBO] <;> rfl
@[simp] theorem dBO_some {t} : dBO Γ G (.some t) σ m = dB Γ G t σ m := by simp only [dBO] <;> rfl
@[simp] theorem dI_plain {e} : dI Γ G (.plain e) σ m = (dE Γ G e σ m).bind fun x m1 => match iterD m1 x with | some p => .ok p m1 | none => .bad := by simp only [dI] <;> rfl
@[simp] theorem dI_rng1 {a} : dI Γ G (.rng1 a) σ m = (dE Γ G a σ m).bind fun x m1 => match x with | .int j => if rngOk j then .ok (rngD 0 j, []) m1 else .bad | _ => .bad := by simp only [dI] <;> rfl
@[simp] theorem dI_rng2 {a b} : dI Γ G (.rng2 a b) σ m = (dE Γ G a σ m).bind fun x m1 => (dE Γ G b σ m1).bind fun y m2 => match x, y with
      | .int i, .int j => if rngOk i ∧ rngOk j then .ok (rngD i j, []) m2 else .bad
      | _, _ => .bad := by simp only [dI] <;> rfl
@[simp] theorem dI_zip {a b} : dI Γ G (.zip a b) σ m = (dE Γ G a σ m).bind fun x m1 => (dE Γ G b σ m1).bind fun y m2 => match iterS m2 x, iterS m2 y with
      | some p, some q => .ok (zipD p.1 q.1, p.2 ++ q.2) m2
      | _, _ => .bad := by simp only [dI] <;> rfl
@[simp] theorem dI_enum {a} : dI Γ G (.enum a) σ m = (dE Γ G a σ m).bind fun x m1 => match iterS m1 x with | some p => .ok (enumD p.1, p.2) m1 | none => .bad := by simp only [dI] <;> rfl
@[simp] theorem dI_rev {a} : dI Γ G (.rev a) σ m = (dE Γ G a σ m).bind fun x m1 => match iterS m1 x with | some p => .ok (p.1.reverse, p.2) m1 | none => .bad := by simp only [dI] <;> rfl
@[simp] theorem dT_name {i d} : dT Γ G (.name i) d σ m = .ok (σ.set i (some d)) m := by simp only [dT] <;> rfl
@[simp] theorem dT_tup {ts d} : dT Γ G (.tup ts) d σ m = match seqOf m d with | some xs => dTs Γ G ts xs σ m | none => .bad := by simp only [dT] <;> rfl
@[simp] theorem dT_sub {o i d} : dT Γ G (.sub o i) d σ m = (dE Γ G o σ m).bind fun x m1 => (dE Γ G i σ m1).bind fun y m2 => match putD x y d m2 with | some m3 => .ok σ m3 | none => .bad := by simp only [dT] <;> rfl
@[simp] theorem dTs_nil : dTs Γ G .nil [] σ m = .ok σ m := by simp only [dTs] <;> rfl
@[simp] theorem dTs_cons {t ts d ds} : dTs Γ G (.cons t ts) (d :: ds) σ m = (dT Γ G t d σ m).bind fun σ1 m1 => dTs Γ G ts ds σ1 m1 := by simp only [dTs] <;> rfl
@[simp] theorem dS_asg {t e} : dS Γ G (.asg t e) σ m = (dE Γ G e σ m).to σ fun x m1 => (dT Γ G t x σ m1).to σ fun σ1 m2 => .nx σ1 m2 := by simp only [dS] <;> rfl
@[simp] theorem dS_aug {i o e} : dS Γ G (.aug i o e) σ m = match σ[i]? with
      | some (some x) => (dE Γ G e σ m).to σ fun y m1 => (opA o x y m1).to σ fun z m2 => .nx (σ.set i (some z)) m2
      | _ => .bad := by simp only [dS] <;> rfl
@[simp] theorem dS_augS {o i p e} : dS Γ G (.augS o i p e) σ m = (dE Γ G o σ m).to σ fun x m1 => (dE Γ G i σ m1).to σ fun y m2 => (getD x y m2).to σ fun z m3 =>
      (dE Γ G e σ m3).to σ fun w m4 => (opA p z w m4).to σ fun u m5 => match putD x y u m5 with
        | some m6 => .nx σ m6
        | none => .bad := by simp only [dS] <;> rfl
@[simp] theorem dS_par3 {i j l a b c} : dS Γ G (.par3 i j l a b c) σ m = (dE Γ G a σ m).to σ fun x m1 => (dE Γ G b σ m1).to σ fun y m2 => (dE Γ G c σ m2).to σ fun z m3 => .nx (((σ.set i (some x)).set j (some y)).set l (some z)) m3 := by simp only [dS]
@[simp] theorem dS_expr {e} : dS Γ G (.expr e) σ m = (dE Γ G e σ m).to σ fun _ m1 => .nx σ m1 := by simp only [dS] <;> rfl
@[simp] theorem dS_ret {e} : dS Γ G (.ret e) σ m = (dE Γ G e σ m).to σ fun d m1 => .rt d m1 := by simp only [dS] <;> rfl
@[simp] theorem dS_retN : dS Γ G .retN σ m = .rt .none m := by simp only [dS] <;> rfl
@[simp] theorem dS_pass : dS Γ G .pass σ m = .nx σ m := by simp only [dS] <;> rfl
@[simp] theorem dS_brk : dS Γ G .brk σ m = .bk σ m := by simp only [dS] <;> rfl
@[simp] theorem dS_cont : dS Γ G .cont σ m = .ct σ m := by simp only [dS] <;> rfl
@[simp] theorem dS_ite {t a b} : dS Γ G (.ite t a b) σ m = (dB Γ G t σ m).to σ fun c m1 => if c = true then dSs Γ G a σ m1 else dSs Γ G b σ m1 := by simp only [dS] <;> rfl
@[simp] theorem dS_whl {t b} : dS Γ G (.whl t b) σ m = whileD (fun σ m => dB Γ G t σ m) (fun σ m => dSs Γ G b σ m) σ m := by simp only [dS] <;> rfl
@[simp] theorem dS_fr {t it b} : dS Γ G (.fr t it b) σ m = (dI Γ G it σ m).to σ fun p m1 =>
      forD p.2 (fun x σ m => (dT Γ G t x σ m).to σ fun σ1 m2 => dSs Γ G b σ1 m2) p.1 σ m1 := by simp only [dS] <;> rfl
@[simp] theorem dSs_nil : dSs Γ G .nil σ m = .nx σ m := by simp only [dSs] <;> rfl
@[simp] theorem dSs_cons {s ss} : dSs Γ G (.cons s ss) σ m = (dS Γ G s σ m).seq fun σ1 m1 => dSs Γ G ss σ1 m1 := by simp only [dSs] <;> rfl
end
section
variable {m : Mem}
@[simp] theorem wipe_nil {σ : Loc} : wipeL σ [] = σ := rfl
@[simp] theorem wipe_cons {σ : Loc} {v vs} : wipeL σ (v :: vs) = (wipeL σ vs).set v none := rfl
@[simp] theorem opB_add {i j : Int} : opB .Add (.int i) (.int j) m = .ok (.int (i + j)) m := rfl
@[simp] theorem opB_addb {i : Int} {b : Bool} : opB .Add (.int i) (.bool b) m = .ok (.int (i + if b then 1 else 0)) m := rfl
@[simp] theorem opB_sub {i j : Int} : opB .Sub (.int i) (.int j) m = .ok (.int (i - j)) m := rfl
@[simp] theorem opB_mul {i j : Int} (h : (-(2 ^ 64) < i ∧ i < 2 ^ 64) ∨ (-(2 ^ 64) < j ∧ j < 2 ^ 64)) : opB .Mult (.int i) (.int j) m = .ok (.int (i * j)) m := if_pos (.inl h)
theorem opB_mulW {i j : Int} (h : i.natAbs.log2 + j.natAbs.log2 < 1000000) : opB .Mult (.int i) (.int j) m = .ok (.int (i * j)) m := if_pos (.inr h)
@[simp] theorem opB_div {i j : Int} (h1 : 0 < j) (h2 : j < 1073741824) : opB .FloorDiv (.int i) (.int j) m = .ok (.int (i / j)) m := if_pos (L2.wide_div (i := i) (b := 30) h1 (by omega) (by decide) (by decide))
theorem opB_divW {i j : Int} (h1 : 0 < j) (h2 : j.natAbs.log2 < 9000) : opB .FloorDiv (.int i) (.int j) m = .ok (.int (i / j)) m := if_pos ⟨h1, h2⟩
@[simp] theorem opB_mod {i j : Int} (h : 0 < j) : opB .Mod (.int i) (.int j) m = .ok (.int (i % j)) m := if_pos h
@[simp] theorem opB_pow {i j : Int} (h : 0 ≤ j) (h2 : j ≤ 1000000) (h3 : i.natAbs < 2 ^ 64) : opB .Pow (.int i) (.int j) m = .ok (.int (i ^ j.toNat)) m := if_pos ⟨h, h2, h3⟩
@[simp] theorem opB_shl {i j : Int} (h : 0 ≤ j) (h2 : j ≤ 1000000) (h3 : i.natAbs < 2 ^ 64) : opB .LShift (.int i) (.int j) m = .ok (.int (i * 2 ^ j.toNat)) m := if_pos ⟨h, h2, h3⟩
@[simp] theorem opB_shr {i j : Int} (h : 0 ≤ j) : opB .RShift (.int i) (.int j) m = .ok (.int (i / 2 ^ j.toNat)) m := if_pos h
@[simp] theorem opB_band {i j : Int} : opB .BitAnd (.int i) (.int j) m = .ok (.int (Builtin.bitAnd i j)) m := rfl
@[simp] theorem opB_bor {i j : Int} : opB .BitOr (.int i) (.int j) m = .ok (.int (Builtin.bitOr i j)) m := rfl
@[simp] theorem opB_bxor {i j : Int} : opB .BitXor (.int i) (.int j) m = .ok (.int (Builtin.bitXor i j)) m := rfl
@[simp] theorem opB_addS {a b : Str} (h : a.length + b.length ≤ sizeLine) : opB .Add (.str a) (.str b) m = .ok (.str (a ++ b)) m := if_pos h
@[simp] theorem opB_addT {a b : List D} (h : a.length + b.length ≤ sizeLine) : opB .Add (.tup a) (.tup b) m = .ok (.tup (a ++ b)) m := if_pos h
@[simp] theorem opB_addL {a b : Nat} : opB .Add (.ref a) (.ref b) m = match m[a]?, m[b]? with
    | some (.lst xs), some (.lst ys) => if Lo (xs.length + ys.length ≤ sizeLine) then newL (xs ++ ys) m else .bad
    | _, _ => .bad := rfl
@[simp] theorem opB_mulL {a : Nat} {k : Int} : opB .Mult (.ref a) (.int k) m = match m[a]? with
    | some (.lst xs) => if Lo (-(2 ^ 63) ≤ k ∧ k < 2 ^ 63 ∧ xs.length * k.toNat ≤ sizeLine) then newL (List.replicate k.toNat xs).flatten m else .bad
    | _ => .bad := rfl
@[simp] theorem opB_mulS {z : Str} {n : Int} (h1 : -(2 ^ 63) ≤ n) (h2 : n < 2 ^ 31) (h3 : z.length * n.toNat < sizeLine) : opB .Mult (.str z) (.int n) m = .ok (.str (repS z n)) m := if_pos ⟨h1, h2, h3⟩
@[simp] theorem slc_str {z : Str} {lo hi : Option Int} (h : z.length ≤ sizeLine) : slcD (.str z) lo hi m = .ok (.str (cutS z lo hi)) m := if_pos h
@[simp] theorem slc_tup {xs : List D} {lo hi : Option Int} : slcD (.tup xs) lo hi m = .ok (.tup (cutD xs lo hi)) m := rfl
@[simp] theorem newL_eq {xs : List D} : newL xs m = .ok (.ref m.length) (m ++ [.lst xs]) := rfl
@[simp] theorem opA_add {i j : Int} : opA .Add (.int i) (.int j) m = .ok (.int (i + j)) m := rfl
@[simp] theorem opA_sub {i j : Int} : opA .Sub (.int i) (.int j) m = .ok (.int (i - j)) m := rfl
@[simp] theorem opA_addS {a b : Str} (h : a.length + b.length ≤ sizeLine) : opA .Add (.str a) (.str b) m = .ok (.str (a ++ b)) m := if_pos h
@[simp] theorem opA_bor {i j : Int} : opA .BitOr (.int i) (.int j) m = .ok (.int (Builtin.bitOr i j)) m := rfl
@[simp] theorem opA_bxor {i j : Int} : opA .BitXor (.int i) (.int j) m = .ok (.int (Builtin.bitXor i j)) m := rfl
@[simp] theorem ofB_some {b : Bool} : ofB (some b) m = .ok (.bool b) m := rfl
@[simp] theorem ofNB_some {b : Bool} : ofNB (some b) m = .ok (.bool (!b)) m := rfl
@[simp] theorem opC_lt {i j : Int} : opC .Lt (.int i) (.int j) m = .ok (.bool (decide (i < j))) m := rfl
@[simp] theorem opC_le {i j : Int} : opC .LtE (.int i) (.int j) m = .ok (.bool (decide (i ≤ j))) m := rfl
@[simp] theorem opC_gt {i j : Int} : opC .Gt (.int i) (.int j) m = .ok (.bool (decide (j < i))) m := rfl
@[simp] theorem opC_ge {i j : Int} : opC .GtE (.int i) (.int j) m = .ok (.bool (decide (j ≤ i))) m := rfl
@[simp] theorem opC_eq {x y : D} : opC .Eq x y m = ofB (eqD m x y) m := rfl
@[simp] theorem opC_ne {x y : D} : opC .NotEq x y m = ofNB (eqD m x y) m := rfl
@[simp] theorem truR_some {x : D} {b : Bool} (h : truD m x = some b) : truR x m = .ok b m := by simp only [truR, h]
@[simp] theorem tru_bool {b : Bool} : truD m (.bool b) = some b := rfl
@[simp] theorem tru_int {i : Int} : truD m (.int i) = some (i != 0) := rfl
@[simp] theorem tru_none : truD m .none = some false := rfl
@[simp] theorem tru_tup {xs : List D} : truD m (.tup xs) = some (!xs.isEmpty) := rfl
@[simp] theorem tru_kl {xs : List D} : truD m (.kl xs) = some (!xs.isEmpty) := rfl
@[simp] theorem truR_bool {b : Bool} : truR (.bool b) m = .ok b m := rfl
@[simp] theorem truR_int {i : Int} : truR (.int i) m = .ok (i != 0) m := rfl
@[simp] theorem seq_tup {xs : List D} : seqOf m (.tup xs) = some xs := rfl
@[simp] theorem seq_kl {xs : List D} : seqOf m (.kl xs) = some xs := rfl
theorem seq_ref {n : Nat} {xs : List D} (h : m[n]? = some (.lst xs)) : seqOf m (.ref n) = some xs := by simp only [seqOf, h]
@[simp] theorem seq_refE {n : Nat} : seqOf m (.ref n) = match m[n]? with | some (.lst xs) => some xs | _ => none := rfl
@[simp] theorem iterD_tup {xs : List D} : iterD m (.tup xs) = some (xs, []) := rfl
@[simp] theorem iterD_kl {xs : List D} : iterD m (.kl xs) = some (xs, []) := rfl
@[simp] theorem iterD_ref {n : Nat} : iterD m (.ref n) = match m[n]? with | some (.lst xs) => some (xs, [(n, xs)]) | _ => none := rfl
@[simp] theorem iterS_tup {xs : List D} : iterS m (.tup xs) = some (xs, []) := rfl
@[simp] theorem iterS_kl {xs : List D} : iterS m (.kl xs) = some (xs, []) := rfl
@[simp] theorem iterS_ref {n : Nat} : iterS m (.ref n) = match m[n]? with | some (.lst xs) => some (xs, [(n, xs)]) | _ => none := rfl
@[simp] theorem len_tup {xs : List D} : biD .len [.tup xs] m = .ok (.int xs.length) m := rfl
@[simp] theorem len_kl {xs : List D} : biD .len [.kl xs] m = .ok (.int xs.length) m := rfl
@[simp] theorem len_ref {n : Nat} : biD .len [.ref n] m = match m[n]? with | some (.lst xs) => .ok (.int xs.length) m | _ => .bad := by
  show (match (seqOf m (.ref n)).map List.length with | some n => _ | none => _) = _
  simp only [seq_refE]
  split <;> rename_i h <;> split at h <;> simp_all
@[simp] theorem bi_int {i : Int} : biD .int [.int i] m = .ok (.int i) m := rfl
@[simp] theorem bi_intb {b : Bool} : biD .int [.bool b] m = .ok (.int (if b then 1 else 0)) m := rfl
@[simp] theorem bi_abs {i : Int} : biD .abs [.int i] m = .ok (.int (if i < 0 then -i else i)) m := rfl
@[simp] theorem bi_min {i j : Int} : biD .min2 [.int i, .int j] m = .ok (.int (if j < i then j else i)) m := rfl
@[simp] theorem bi_max {i j : Int} : biD .max2 [.int i, .int j] m = .ok (.int (if j > i then j else i)) m := rfl
@[simp] theorem bi_tuple {d : D} : biD .tuple [d] m = match seqOf m d with | some xs => .ok (.tup xs) m | none => .bad := rfl
@[simp] theorem bi_list {d : D} : biD .list [d] m = match seqOf m d with | some xs => newL xs m | none => .bad := rfl
@[simp] theorem bi_sum {d : D} : biD .sum [d] m = match (seqOf m d).bind intsD with | some ns => .ok (.int ns.sum) m | none => .bad := rfl
@[simp] theorem bi_all {d : D} : biD .all [d] m = match (seqOf m d).bind boolsD with | some ns => .ok (.bool (ns.all id)) m | none => .bad := rfl
@[simp] theorem bi_any {d : D} : biD .any [d] m = match (seqOf m d).bind boolsD with | some ns => .ok (.bool (ns.any id)) m | none => .bad := rfl
@[simp] theorem mt_app {n : Nat} {d : D} : mtD .append (.ref n) [d] m = match m[n]? with
    | some (.lst xs) => if Lo (xs.length < sizeLine) then .ok .none (m.set n (.lst (xs ++ [d]))) else .bad
    | _ => .bad := rfl
@[simp] theorem mt_bl {i : Int} : mtD .bitLength (.int i) [] m = .ok (.int (Builtin.Int.intBits i)) m := rfl
@[simp] theorem pre_bl {i : Int} : mtPre .bitLength (.int i) m = true := rfl
@[simp] theorem pre_app {n : Nat} : mtPre .append (.ref n) m = match m[n]? with | some (.lst _) => true | _ => false := rfl
@[simp] theorem mt_ext {n k : Nat} : mtD .extend (.ref n) [.ref k] m = match m[n]?, m[k]? with
    | some (.lst xs), some (.lst ys) => if Lo (xs.length + ys.length ≤ sizeLine) then .ok .none (m.set n (.lst (xs ++ ys))) else .bad
    | _, _ => .bad := rfl
@[simp] theorem mt_pop0 {n : Nat} : mtD .pop (.ref n) [] m = match m[n]? with
    | some (.lst xs) => (match xs[xs.length - 1]? with
      | some d => .ok d (m.set n (.lst xs.dropLast))
      | none => .bad)
    | _ => .bad := rfl
@[simp] theorem mt_popI {n : Nat} {i : Int} : mtD .popAt (.ref n) [.int i] m = match m[n]? with
    | some (.lst xs) => if Lo (-(2 ^ 63) ≤ i ∧ i < 2 ^ 63) then (match ixN xs.length i with
      | some k => (match xs[k]? with | some d => .ok d (m.set n (.lst (xs.eraseIdx k))) | none => .bad)
      | none => .bad) else .bad
    | _ => .bad := rfl
@[simp] theorem mt_rev {n : Nat} : mtD .reverse (.ref n) [] m = match m[n]? with
    | some (.lst xs) => .ok .none (m.set n (.lst xs.reverse))
    | _ => .bad := rfl
@[simp] theorem mt_ins {n : Nat} {i : Int} {d : D} : mtD .insert (.ref n) [.int i, d] m = match m[n]? with
    | some (.lst xs) => if Lo (xs.length < sizeLine ∧ 0 ≤ i ∧ i < 2 ^ 63) then .ok .none (m.set n (.lst (xs.take i.toNat ++ [d] ++ xs.drop i.toNat))) else .bad
    | _ => .bad := rfl
@[simp] theorem mt_spl {a b : Str} (h : b.length ≠ 0) (h2 : a.length + 2 ≤ sizeLine) : mtD .split (.str a) [.str b] m = .ok (.ref m.length) (m ++ [.lst ((Txt.split a b).map .str)]) := if_pos ⟨h, h2⟩
@[simp] theorem pre_spl {a : Str} : mtPre .split (.str a) m = true := rfl
@[simp] theorem pre_join {a : Str} : mtPre .join (.str a) m = true := rfl
@[simp] theorem pre_ext {n : Nat} : mtPre .extend (.ref n) m = match m[n]? with | some (.lst _) => true | _ => false := rfl
@[simp] theorem pre_pop {n : Nat} : mtPre .pop (.ref n) m = match m[n]? with | some (.lst _) => true | _ => false := rfl
@[simp] theorem pre_popAt {n : Nat} : mtPre .popAt (.ref n) m = match m[n]? with | some (.lst _) => true | _ => false := rfl
@[simp] theorem pre_ins {n : Nat} : mtPre .insert (.ref n) m = match m[n]? with | some (.lst _) => true | _ => false := rfl
@[simp] theorem pre_rev {n : Nat} : mtPre .reverse (.ref n) m = match m[n]? with | some (.lst _) => true | _ => false := rfl
@[simp] theorem pre_index {n : Nat} : mtPre .index (.ref n) m = match m[n]? with | some (.lst _) => true | _ => false := rfl
@[simp] theorem isin_int {T} {i : Int} : isinD m T (.int i) = some (T == "int") := rfl
@[simp] theorem isin_bool {T} {i : Bool} : isinD m T (.bool i) = some (T == "int" || T == "bool") := rfl
@[simp] theorem isin_str {T} {i : Str} : isinD m T (.str i) = some (T == "str") := rfl
@[simp] theorem isin_tup {T} {i : List D} : isinD m T (.tup i) = some (T == "tuple") := rfl
@[simp] theorem idx_tup {xs : List D} {k : Int} : idxD (.tup xs) (.int k) m = match atI xs k with | some d => .ok d m | none => .bad := rfl
@[simp] theorem idx_kl {xs : List D} {k : Int} : idxD (.kl xs) (.int k) m = match atI xs k with | some d => .ok d m | none => .bad := rfl
@[simp] theorem idx_ref {n : Nat} {k : Int} : idxD (.ref n) (.int k) m = match m[n]? with | some (.lst xs) => (match atI xs k with | some d => .ok d m | none => .bad) | _ => .bad := by
  show (match seqOf m (.ref n) with | some xs => (match atI xs k with | some d => Res.ok d m | none => .bad) | none => .bad) = _
  simp only [seq_refE]
  cases m[n]? with
  | none => rfl
  | some o => cases o <;> rfl
/-! ### sameness -/
/-- data of one kind, told apart by == as by = -/
class Enc (α : Type) where
  enc : α → D
  py : α → PyData
  dp : Nat
  ok : ∀ f a, pyD f (enc a) = some (py a)
  dep : ∀ a, (py a).depth ≤ dp
  eqv : ∀ a b, PyData.eqv (py a) (py b) = true ↔ a = b
  bel : ∀ n a, below n (enc a) = true
open Enc (enc)
instance : Enc Int where
  enc := .int
  py := .int
  dp := 0
  ok _ _ := rfl
  dep _ := Nat.le_refl _
  eqv a b := by simp [PyData.eqv]
  bel _ _ := rfl
instance : Enc Bool where
  enc := .bool
  py := .bool
  dp := 0
  ok _ _ := rfl
  dep _ := Nat.le_refl _
  eqv a b := by simp [PyData.eqv]
  bel _ _ := rfl
instance : Enc Str where
  enc := .str
  py := .str
  dp := 0
  ok _ _ := rfl
  dep _ := Nat.le_refl _
  eqv a b := by simp [PyData.eqv]
  bel _ _ := rfl
theorem pyDs_enc {α : Type} [Enc α] (f) : ∀ xs : List α, pyDs f (xs.map enc) = some (xs.map Enc.py)
  | [] => rfl
  | x :: xs => by simp only [List.map_cons, pyDs, Enc.ok, pyDs_enc f xs]
theorem depAll_enc {α : Type} [E : Enc α] : ∀ xs : List α, PyData.depthAll (xs.map E.py) ≤ E.dp
  | [] => Nat.zero_le _
  | x :: xs => by simp only [List.map_cons, PyData.depthAll]; exact Nat.max_le.mpr ⟨E.dep x, depAll_enc xs⟩
theorem eqvAll_enc {α : Type} [E : Enc α] : ∀ xs ys : List α, PyData.eqvAll (xs.map E.py) (ys.map E.py) = true ↔ xs = ys
  | [], [] => by simp [PyData.eqvAll]
  | [], _ :: _ => by simp [PyData.eqvAll]
  | _ :: _, [] => by simp [PyData.eqvAll]
  | x :: xs, y :: ys => by simp [PyData.eqvAll, E.eqv, eqvAll_enc xs ys]
instance {α : Type} [E : Enc α] : Enc (List α) where
  enc xs := .tup (xs.map enc)
  py xs := .tuple (xs.map Enc.py)
  dp := E.dp + 1
  ok f xs := by simp only [pyD, pyDs_enc, Option.map_some]
  dep xs := by simp only [PyData.depth]; exact Nat.add_le_add_right (depAll_enc xs) 1
  eqv xs ys := by simp only [PyData.eqv, eqvAll_enc]
  bel n xs := by
    simp only [below]
    exact belows_all fun x hx => by
      obtain ⟨y, _, rfl⟩ := List.mem_map.mp hx
      exact E.bel n y
instance {α β : Type} [E : Enc α] [F : Enc β] : Enc (α × β) where
  enc p := .tup [enc p.1, enc p.2]
  py p := .tuple [Enc.py p.1, Enc.py p.2]
  dp := max E.dp F.dp + 1
  ok f p := by simp only [pyD, pyDs, Enc.ok, Option.map_some]
  dep p := by
    simp only [PyData.depth, PyData.depthAll, Nat.max_zero]
    exact Nat.add_le_add_right (Nat.max_le.mpr ⟨Nat.le_trans (E.dep _) (Nat.le_max_left _ _), Nat.le_trans (F.dep _) (Nat.le_max_right _ _)⟩) 1
  eqv p q := by simp [PyData.eqv, PyData.eqvAll, E.eqv, F.eqv, Prod.ext_iff]
  bel n p := by simp only [below, belows, E.bel, F.bel, Bool.and_self]
theorem bool_dec {b : Bool} {p : Prop} [Decidable p] (h : b = true ↔ p) : b = decide p := by
  by_cases q : p
  · rw [h.mpr q, decide_eq_true q]
  · rw [decide_eq_false q]; cases b
    · rfl
    · exact absurd (h.mp rfl) q
theorem eq_enc {α : Type} [E : Enc α] (a b : α) [Decidable (a = b)] (h : E.dp ≤ 150 := by decide) : eqD m (enc a) (enc b) = some (decide (a = b)) := by
  unfold eqD pyOf
  simp only [E.ok]
  rw [if_lo (Nat.le_trans (Nat.min_le_left _ _) (Nat.le_trans (E.dep a) h)), bool_dec (E.eqv a b)]
@[simp] theorem eq_int {i j : Int} : eqD m (.int i) (.int j) = some (decide (i = j)) := eq_enc i j
@[simp] theorem eq_bool {i j : Bool} : eqD m (.bool i) (.bool j) = some (decide (i = j)) := eq_enc i j
@[simp] theorem eq_str {i j : Str} : eqD m (.str i) (.str j) = some (decide (i = j)) := eq_enc i j
@[simp] theorem eq_ints {i j : List Int} : eqD m (.tup (i.map .int)) (.tup (j.map .int)) = some (decide (i = j)) := eq_enc i j
theorem in_enc {α : Type} [E : Enc α] (a : α) (bs : List α) [Decidable (a ∈ bs)] (h : E.dp ≤ 150 := by decide) : inD m (enc a) (bs.map enc) = some (decide (a ∈ bs)) := by
  unfold inD pyOf
  simp only [E.ok, pyDs_enc]
  rw [if_lo ⟨Nat.le_trans (depAll_enc bs) h, Nat.le_trans (E.dep a) h⟩]
  congr 1
  refine bool_dec ?_
  simp only [List.any_map, List.any_eq_true, Function.comp, E.eqv]
  exact ⟨fun ⟨x, h1, h2⟩ => h2 ▸ h1, fun h => ⟨a, h, rfl⟩⟩
theorem atI_natC {α : Type} {xs : List α} {j : Nat} : atI xs (j : Int) = xs[j]? := by
  unfold atI ixN
  rw [if_pos (by omega)]
  by_cases h : (j : Int) < (xs.length : Nat)
  · rw [if_pos h]; simp
  · rw [if_neg h]; simp; omega
theorem atI_neg {α : Type} {xs : List α} {j : Nat} (h0 : 0 < j) (h : j ≤ xs.length) : atI xs (-(j : Int)) = xs[xs.length - j]? := by
  unfold atI ixN
  rw [if_neg (by omega), if_pos (by omega)]
  simp only [Option.bind_some]
  congr 1
  omega
@[simp] theorem atI_0 {α : Type} {xs : List α} : atI xs 0 = xs[0]? := atI_natC (j := 0)
@[simp] theorem atI_1 {α : Type} {xs : List α} : atI xs 1 = xs[1]? := atI_natC (j := 1)
@[simp] theorem atI_2 {α : Type} {xs : List α} : atI xs 2 = xs[2]? := atI_natC (j := 2)
@[simp] theorem atI_3 {α : Type} {xs : List α} : atI xs 3 = xs[3]? := atI_natC (j := 3)
@[simp] theorem atI_4 {α : Type} {xs : List α} : atI xs 4 = xs[4]? := atI_natC (j := 4)
@[simp] theorem atI_5 {α : Type} {xs : List α} : atI xs 5 = xs[5]? := atI_natC (j := 5)
@[simp] theorem atI_6 {α : Type} {xs : List α} : atI xs 6 = xs[6]? := atI_natC (j := 6)
@[simp] theorem atI_7 {α : Type} {xs : List α} : atI xs 7 = xs[7]? := atI_natC (j := 7)
@[simp] theorem atI_8 {α : Type} {xs : List α} : atI xs 8 = xs[8]? := atI_natC (j := 8)
@[simp] theorem atI_9 {α : Type} {xs : List α} : atI xs 9 = xs[9]? := atI_natC (j := 9)
@[simp] theorem atI_10 {α : Type} {xs : List α} : atI xs 10 = xs[10]? := atI_natC (j := 10)
@[simp] theorem atI_11 {α : Type} {xs : List α} : atI xs 11 = xs[11]? := atI_natC (j := 11)
@[simp] theorem ixN_0 {n : Nat} : ixN n 0 = if 0 < n then some 0 else none := by
  unfold ixN
  rw [if_pos (by decide)]
  by_cases h : 0 < n
  · rw [if_pos h, if_pos (by omega)]; rfl
  · rw [if_neg h, if_neg (by omega)]
@[simp] theorem ixN_1 {n : Nat} : ixN n 1 = if 1 < n then some 1 else none := by
  unfold ixN
  rw [if_pos (by decide)]
  by_cases h : 1 < n
  · rw [if_pos h, if_pos (by omega)]; rfl
  · rw [if_neg h, if_neg (by omega)]
@[simp] theorem ixN_2 {n : Nat} : ixN n 2 = if 2 < n then some 2 else none := by
  unfold ixN
  rw [if_pos (by decide)]
  by_cases h : 2 < n
  · rw [if_pos h, if_pos (by omega)]; rfl
  · rw [if_neg h, if_neg (by omega)]
@[simp] theorem ixN_3 {n : Nat} : ixN n 3 = if 3 < n then some 3 else none := by
  unfold ixN
  rw [if_pos (by decide)]
  by_cases h : 3 < n
  · rw [if_pos h, if_pos (by omega)]; rfl
  · rw [if_neg h, if_neg (by omega)]
@[simp] theorem ixN_4 {n : Nat} : ixN n 4 = if 4 < n then some 4 else none := by
  unfold ixN
  rw [if_pos (by decide)]
  by_cases h : 4 < n
  · rw [if_pos h, if_pos (by omega)]; rfl
  · rw [if_neg h, if_neg (by omega)]
@[simp] theorem ixN_5 {n : Nat} : ixN n 5 = if 5 < n then some 5 else none := by
  unfold ixN
  rw [if_pos (by decide)]
  by_cases h : 5 < n
  · rw [if_pos h, if_pos (by omega)]; rfl
  · rw [if_neg h, if_neg (by omega)]
@[simp] theorem putD_ref {n : Nat} {k : Int} {v : D} : putD (.ref n) (.int k) v m = match m[n]? with
    | some (.lst xs) => (match ixN xs.length k with
      | some j => some (m.set n (.lst (xs.set j v)))
      | none => none)
    | _ => none := rfl
@[simp] theorem getD_ref {n : Nat} {k : Int} : getD (.ref n) (.int k) m = match m[n]? with
    | some (.lst xs) => if Lo (0 ≤ k ∧ k < 2 ^ 63) then (match xs[k.toNat]? with | some d => .ok d m | none => .bad) else .bad
    | _ => .bad := rfl
@[simp] theorem atI_m1 {α : Type} {xs : List α} : atI xs (-1) = xs.getLast? := by
  cases xs with
  | nil => rfl
  | cons x xs =>
    have := atI_neg (xs := x :: xs) (j := 1) (by omega) (by simp)
    rw [List.getLast?_eq_getElem?]
    exact this
theorem rngOk_nat {n : Nat} (h : n < 2 ^ 62) : rngOk (n : Int) := ⟨by omega, by omega⟩
@[simp] theorem if_rng {n : Nat} (h : n < 2 ^ 62) {α : Sort _} {a b : α} : (if rngOk (n : Int) then a else b) = a := if_pos (rngOk_nat h)
@[simp] theorem if_lo_ {p : Prop} (h : p) {α : Sort _} {a b : α} : (if Lo p then a else b) = a := if_pos h
theorem rng_nat {n : Nat} : rngD 0 (n : Int) = (List.range n).map fun i => .int (i : Nat) := by
  simp [rngD]
@[simp] theorem fin_rt {m0 : Mem} {d : D} : fin m0 (.rt d m) = gcD m0 d m := rfl
@[simp] theorem fin_nx {m0 : Mem} {σ : Loc} : fin m0 (.nx σ m) = gcD m0 .none m := rfl
@[simp] theorem gc_same_ {m0 j : Mem} {d : D} (h : below m0.length d = true) : gcD m0 d (m0 ++ j) = .ok d m0 := gc_same h
@[simp] theorem gc_id_ {m0 : Mem} {d : D} (h : below m0.length d = true) : gcD m0 d m0 = .ok d m0 := gc_id h
@[simp] theorem gc_new_ {m0 : Mem} {o : MO} (h : o.below m0.length = true) : gcD m0 (.ref m0.length) (m0 ++ [o]) = .ok (.ref m0.length) (m0 ++ [o]) := gc_new h
@[simp] theorem below_none {n : Nat} : below n .none = true := by simp only [below]
@[simp] theorem below_bool {n : Nat} {b} : below n (.bool b) = true := by simp only [below]
@[simp] theorem below_int {n : Nat} {b} : below n (.int b) = true := by simp only [below]
@[simp] theorem below_str {n : Nat} {b} : below n (.str b) = true := by simp only [below]
@[simp] theorem below_tup {n : Nat} {b} : below n (.tup b) = belows n b := by simp only [below]
@[simp] theorem below_kl {n : Nat} {b} : below n (.kl b) = belows n b := by simp only [below]
@[simp] theorem below_ref {n k : Nat} : below n (.ref k) = decide (k < n) := by simp only [below]
@[simp] theorem belows_nil {n : Nat} : belows n [] = true := by simp only [belows]
@[simp] theorem belows_cons {n : Nat} {d ds} : belows n (d :: ds) = (below n d && belows n ds) := by simp only [belows]
@[simp] theorem belows_app {n : Nat} : ∀ {xs ys : List D}, belows n (xs ++ ys) = (belows n xs && belows n ys)
  | [], ys => by simp
  | x :: xs, ys => by simp [belows_app (xs := xs), Bool.and_assoc]
@[simp] theorem belows_map {α : Type} {n : Nat} {f : α → D} : ∀ {xs : List α}, belows n (xs.map f) = xs.all fun x => below n (f x)
  | [] => by simp
  | x :: xs => by simp [belows_map (xs := xs)]
@[simp] theorem mo_below_lst {n : Nat} {xs} : MO.below n (.lst xs) = belows n xs := rfl
/-- a comprehension without a test over things that stand for others -/
theorem comp_mapL {α : Type} {gs : List (Nat × List D)} {body : D → Mem → Res (Option D)} {e f : α → D} {ys : List α}
    (hb : ∀ y ∈ ys, ∀ acc, body (e y) (m ++ [.lst acc]) = .ok (some (f y)) (m ++ [.lst acc])) (hl : ys.length ≤ sizeLine) (hg : guardOk gs m := by simp) :
    compD gs m.length body (ys.map e) (m ++ [.lst []]) = .ok (.ref m.length) (m ++ [.lst (ys.map f)]) := by
  have g : ∀ acc, guardOk gs (m ++ [.lst acc]) := fun acc p hp => by
    have := hg p hp
    rw [List.getElem?_append_left (List.getElem?_eq_some_iff.mp this).1]; exact this
  have key : ∀ (zs : List α) (acc : List D), (∀ x ∈ zs, x ∈ ys) → acc.length + zs.length ≤ sizeLine → compD gs m.length body (zs.map e) (m ++ [.lst acc]) = .ok (.ref m.length) (m ++ [.lst (acc ++ zs.map f)]) := by
    intro zs
    induction zs with
    | nil => intro acc _ _; simp only [List.map_nil]; unfold compD; rw [if_pos (g acc)]; simp
    | cons y zs ih =>
      intro acc hy hh
      simp only [List.length_cons] at hh
      simp only [List.map_cons]
      unfold compD
      rw [if_pos (g acc), hb y (hy y (by simp)) acc]
      have h1 : (m ++ [MO.lst acc])[m.length]? = some (.lst acc) := get_at
      have h2 : (m ++ [MO.lst acc]).set m.length (.lst (acc ++ [f y])) = m ++ [.lst (acc ++ [f y])] := set_at
      simp only [Res.ok_bind, h1, if_lo (show acc.length < sizeLine by omega), h2]
      rw [ih (acc ++ [f y]) (fun x hx => hy x (by simp [hx])) (by simp; omega)]
      simp
  have := key ys [] (fun _ h => h) (by simpa using hl)
  simpa using this
@[simp] theorem intsD_map_ {xs : List Int} : intsD (xs.map .int) = some xs := intsD_map
@[simp] theorem boolsD_map_ {xs : List Bool} : boolsD (xs.map .bool) = some xs := boolsD_map
@[simp] theorem intsD_mapf {α : Type} {f : α → Int} {xs : List α} : intsD (xs.map fun x => .int (f x)) = some (xs.map f) := by
  have := intsD_map (xs := xs.map f)
  rw [List.map_map] at this; exact this
@[simp] theorem boolsD_mapf {α : Type} {f : α → Bool} {xs : List α} : boolsD (xs.map fun x => .bool (f x)) = some (xs.map f) := by
  have := boolsD_map (xs := xs.map f)
  rw [List.map_map] at this; exact this
@[simp] theorem intsD_app : ∀ {xs ys : List D}, intsD (xs ++ ys) = (intsD xs).bind fun a => (intsD ys).map (a ++ ·)
  | [], ys => by simp [intsD]
  | .int x :: xs, ys => by
    simp only [List.cons_append, intsD, intsD_app (xs := xs)]
    cases intsD xs <;> cases intsD ys <;> simp
  | .none :: xs, ys => by simp [intsD]
  | .bool _ :: xs, ys => by simp [intsD]
  | .str _ :: xs, ys => by simp [intsD]
  | .tup _ :: xs, ys => by simp [intsD]
  | .kl _ :: xs, ys => by simp [intsD]
  | .ref _ :: xs, ys => by simp [intsD]
@[simp] theorem intsD_nil : intsD [] = some [] := rfl
@[simp] theorem intsD_cons {i : Int} {r : List D} : intsD (.int i :: r) = (intsD r).map (i :: ·) := rfl
@[simp] theorem boolsD_nil : boolsD [] = some [] := rfl
@[simp] theorem boolsD_cons {i : Bool} {r : List D} : boolsD (.bool i :: r) = (boolsD r).map (i :: ·) := rfl
theorem comp_mapE {α : Type} {gs : List (Nat × List D)} {body : D → Mem → Res (Option D)} {e f : α → D} {ys : List α} {M0 M : Mem} {n : Nat} (hM : M = M0 ++ [.lst []]) (hn : n = M0.length)
    (hb : ∀ y ∈ ys, ∀ acc, body (e y) (M0 ++ [.lst acc]) = .ok (some (f y)) (M0 ++ [.lst acc])) (hl : ys.length ≤ sizeLine) (hg : guardOk gs M0) :
    compD gs n body (ys.map e) M = .ok (.ref n) (M0 ++ [.lst (ys.map f)]) := by
  subst hM
  subst hn
  exact comp_mapL hb hl hg
section
variable {α : Type} {l j : List α} {a b c : Nat} {o : α}
@[simp high] theorem get_o0 : (l ++ j)[l.length]? = j[0]? := by rw [List.getElem?_append_right (by omega)]; simp
@[simp high] theorem get_o1 : (l ++ j)[l.length + a]? = j[a]? := by rw [List.getElem?_append_right (by omega)]; congr 1; omega
@[simp high] theorem get_o2 : (l ++ j)[l.length + a + b]? = j[a + b]? := by rw [List.getElem?_append_right (by omega)]; congr 1; omega
@[simp high] theorem get_o3 : (l ++ j)[l.length + a + b + c]? = j[a + b + c]? := by rw [List.getElem?_append_right (by omega)]; congr 1; omega
@[simp high] theorem get_p1 (h : l.length + a < (l ++ j).length) : (l ++ j)[l.length + a]'h = j[a]'(by simp at h; omega) := by rw [List.getElem_append_right (by omega)]; congr 1; omega
@[simp high] theorem get_p2 (h : l.length + a + b < (l ++ j).length) : (l ++ j)[l.length + a + b]'h = j[a + b]'(by simp at h; omega) := by rw [List.getElem_append_right (by omega)]; congr 1; omega
@[simp high] theorem get_p3 (h : l.length + a + b + c < (l ++ j).length) : (l ++ j)[l.length + a + b + c]'h = j[a + b + c]'(by simp at h; omega) := by rw [List.getElem_append_right (by omega)]; congr 1; omega
@[simp high] theorem set_o0 : (l ++ j).set l.length o = l ++ j.set 0 o := by rw [List.set_append_right _ _ (by omega)]; simp
@[simp high] theorem set_o1 : (l ++ j).set (l.length + a) o = l ++ j.set a o := by rw [List.set_append_right _ _ (by omega)]; congr 2; omega
@[simp high] theorem set_o2 : (l ++ j).set (l.length + a + b) o = l ++ j.set (a + b) o := by rw [List.set_append_right _ _ (by omega)]; congr 2; omega
end
@[simp] theorem gc_pre {l a b : Mem} {d : D} (h : b.take a.length = a) (hb : below (l.length + a.length) d = true) : gcD (l ++ a) d (l ++ b) = .ok d (l ++ a) := by
  have e : b = a ++ b.drop a.length := by
    conv => lhs; rw [← List.take_append_drop a.length b, h]
  rw [e, ← List.append_assoc]
  exact gc_same (by simpa using hb)
/-! texts -/
theorem idx_str {z : Str} {k : Int} {c : Nat} (h : z.length ≤ sizeLine) (e : atI z.cps.toList k = some c) : idxD (.str z) (.int k) m = .ok (.str ⟨#[c]⟩) m := by
  show (if Lo (z.length ≤ sizeLine) then (match atI z.cps.toList k with | some c => Res.ok (D.str ⟨#[c]⟩) m | none => Res.bad) else Res.bad) = _
  rw [if_lo h, e]
theorem len_str {z : Str} (h : z.length ≤ sizeLine) : biD .len [.str z] m = .ok (.int z.length) m := by
  show (match (if Lo (z.length ≤ sizeLine) then some z.length else none) with | some n => Res.ok (D.int (n : Nat)) m | none => Res.bad) = _
  rw [if_lo h]
theorem in_one {c : Nat} {z : Str} : opC .In (.str ⟨#[c]⟩) (.str z) m = .ok (.bool (decide (c ∈ z.cps.toList))) m := by
  show Res.ok (D.bool _) m = _
  rw [PySem.StrLaws.found_one z c]
@[simp] theorem iterD_str {z : Str} : iterD m (.str z) = some (z.cps.toList.map fun c => .str ⟨#[c]⟩, []) := rfl
@[simp] theorem seq_str {z : Str} : seqOf m (.str z) = none := rfl
end
end PC

/-! PDraw: how the laws draw numbers from the script. -/
namespace PC
open PySem L2 Classical
def cBegin : CSs :=
  .cons (.ret (.lst (.cons (.comp [1] (.name 1) (.plain (.var 0)) .none (.bi .int (.cons (.var 1) .nil))) (.cons (.lit (.int 0)) (.cons (.lit (.int 0)) (.cons (.lit (.int 7)) (.cons (.lit (.int 3)) .nil))))))) <|
  .nil
def cDraw : CSs :=
  .cons (.ite (.val (.cmp .Gt (.idx (.var 0) (.lit (.int 2))) (.lit (.int 0)))) (.cons (.asg (.name 2) (.idx (.var 0) (.lit (.int 2)))) (.cons (.asg (.sub (.var 0) (.lit (.int 2))) (.bin .FloorDiv (.var 2) (.var 1))) (.cons (.ret (.bin .Mod (.bi .int (.cons (.var 2) .nil)) (.var 1))) .nil))) .nil) <|
  .cons (.asg (.name 3) (.lit (.int 0))) <|
  .cons (.ite (.val (.cmp .Lt (.idx (.var 0) (.lit (.int 1))) (.bi .len (.cons (.idx (.var 0) (.lit (.int 0))) .nil)))) (.cons (.asg (.name 4) (.idx (.idx (.var 0) (.lit (.int 0))) (.idx (.var 0) (.lit (.int 1))))) (.cons (.asg (.name 3) (.bin .Add (.bin .Mult (.lit (.int 2)) (.bi .abs (.cons (.var 4) .nil))) (.bi .int (.cons (.cmp .Lt (.var 4) (.lit (.int 0))) .nil)))) .nil)) .nil) <|
  .cons (.augS (.var 0) (.lit (.int 1)) .Add (.lit (.int 1))) <|
  .cons (.ite (.val (.cmp .GtE (.var 3) (.bin .Mult (.lit (.int 2)) (.bin .Pow (.lit (.int 10)) (.lit (.int 18)))))) (.cons (.asg (.name 2) (.bin .Mod (.bi .int (.cons (.bin .FloorDiv (.var 3) (.lit (.int 2))) .nil)) (.bin .LShift (.lit (.int 1)) (.lit (.int 6000))))) (.cons (.asg (.sub (.var 0) (.lit (.int 2))) (.bin .FloorDiv (.var 2) (.var 1))) (.cons (.ret (.bin .Mod (.bi .int (.cons (.var 2) .nil)) (.var 1))) .nil))) .nil) <|
  .cons (.asg (.sub (.var 0) (.lit (.int 3))) (.bin .Mod (.bi .int (.cons (.bin .Add (.bin .Add (.bin .Add (.bin .Mult (.idx (.var 0) (.lit (.int 3))) (.lit (.int 48271))) (.bin .Mult (.bin .Mod (.bi .int (.cons (.var 3) .nil)) (.lit (.int 2147483629))) (.lit (.int 16807)))) (.bin .Mult (.idx (.var 0) (.lit (.int 1))) (.lit (.int 69621)))) (.lit (.int 11))) .nil)) (.lit (.int 2147483647)))) <|
  .cons (.ret (.bin .Mod (.bi .int (.cons (.bin .FloorDiv (.idx (.var 0) (.lit (.int 3))) (.lit (.int 16))) .nil)) (.var 1))) <|
  .nil
def cPick : CSs :=
  .cons (.ret (.idx (.var 1) (.call "_law_draw" (.cons (.var 0) (.cons (.bi .len (.cons (.var 1) .nil)) .nil))))) <|
  .nil
def cRare : CSs :=
  .cons (.ret (.cmp .Eq (.call "_law_draw" (.cons (.var 0) (.cons (.var 1) .nil))) (.bin .FloorDiv (.var 1) (.lit (.int 2))))) <|
  .nil
/-- where the script is read -/
structure DS where
  xs : List Int
  i : Nat
  b : Int
  x : Int
def DS.mo (s : DS) : MO := .lst [.ref 0, .int s.i, .int s.b, .int s.x, .int 3]
def DS.mem (s : DS) (rest : Mem) : Mem := .lst (s.xs.map .int) :: s.mo :: rest
@[simp] theorem DS.len {s : DS} {rest : Mem} : (s.mem rest).length = rest.length + 2 := rfl
@[simp] theorem DS.app {s : DS} {r j : Mem} : s.mem r ++ j = s.mem (r ++ j) := rfl
@[simp high] theorem DS.get0 {s : DS} {r : Mem} : (s.mem r)[0]? = some (.lst (s.xs.map .int)) := rfl
@[simp high] theorem DS.get1 {s : DS} {r : Mem} : (s.mem r)[1]? = some s.mo := rfl
@[simp high] theorem DS.get2 {s : DS} {r : Mem} {n : Nat} : (s.mem r)[n + 2]? = r[n]? := rfl
@[simp high] theorem DS.set2 {s : DS} {r : Mem} {n : Nat} {o : MO} : (s.mem r).set (n + 2) o = s.mem (r.set n o) := rfl
theorem DS.old {s s' : DS} {r j : Mem} (h : s'.xs = s.xs) : oldOk (s.mem r) (s'.mem (r ++ j)) := by
  refine ⟨by simp, fun i hi => ?_⟩
  match i, hi with
  | 0, _ => exact .inl (by rw [DS.get0, DS.get0, h])
  | 1, _ => exact .inr ⟨_, rfl, by simp [DS.mo]⟩
  | i + 2, hi => exact .inl (by simp at hi ⊢; rw [List.getElem?_append_left hi])
theorem gc_ds {s s' : DS} {r j : Mem} {d : D} (h : s'.xs = s.xs) (hb : below (r.length + 2) d = true) : gcD (s.mem r) d (s'.mem (r ++ j)) = .ok d (s'.mem r) := by
  unfold gcD
  rw [if_pos (DS.old h), if_pos (by simpa using hb)]
  simp [DS.mem]
@[simp] theorem gc_ds0 {s s' : DS} {r : Mem} {d : D} (h : s'.xs = s.xs) (hb : below (r.length + 2) d = true) : gcD (s.mem r) d (s'.mem r) = .ok d (s'.mem r) := by
  have := gc_ds (j := []) h hb
  simpa using this
@[simp] theorem gc_dsP {s s' : DS} {l a b : Mem} {d : D} (hx : s'.xs = s.xs) (h : b.take a.length = a) (hb : below (l.length + a.length + 2) d = true) : gcD (s.mem (l ++ a)) d (s'.mem (l ++ b)) = .ok d (s'.mem (l ++ a)) := by
  have e : b = a ++ b.drop a.length := by
    conv => lhs; rw [← List.take_append_drop a.length b, h]
  rw [e, ← List.append_assoc]
  exact gc_ds hx (by simpa using hb)
@[simp] theorem gc_dsQ {s s' : DS} {l b : Mem} {d : D} (hx : s'.xs = s.xs) (hb : below (l.length + 2) d = true) : gcD (s.mem l) d (s'.mem (l ++ b)) = .ok d (s'.mem l) := gc_ds hx hb
/-- .. a new list that speaks of what was there alone -/
theorem gc_dsN {s s' : DS} {r j : Mem} {n : Nat} {o : MO} (h : s'.xs = s.xs) (hn : (r ++ j)[n]? = some o) (hl : r.length ≤ n) (ho : o.below (r.length + 2) = true) :
    gcD (s.mem r) (.ref (n + 2)) (s'.mem (r ++ j)) = .ok (.ref (r.length + 2)) (s'.mem (r ++ [o])) := by
  unfold gcD
  rw [if_pos (DS.old h), if_neg (by simp; omega)]
  simp only [DS.get2, hn, DS.len, ho, if_true]
  simp [DS.mem]
/-- what a number that is drawn is -/
def Drawn (s : DS) (r : Mem) (n : Nat) (d : D) (m : Mem) : Prop := ∃ (k : Nat) (s' : DS), d = .int k ∧ k < n ∧ s'.xs = s.xs ∧ m = s'.mem r
section
variable {Γ : Fn} {G : Str → Option D}
theorem pow6000 : (0 : Int) < 1 * 2 ^ (6000 : Int).toNat := by
  rw [Int.one_mul]
  exact Int.pow_pos (by decide)
theorem drawn_mod {s s' : DS} {r : Mem} {n : Nat} {k : Int} (hn : 0 < n) (h : s'.xs = s.xs) : (gcD (s.mem r) (.int (k % n)) (s'.mem r)).wp (Drawn s r n) := by
  rw [gc_ds0 h (by simp)]
  have h0 : (0 : Int) < n := by omega
  have h1 := Int.emod_nonneg k (Int.ne_of_gt h0)
  have h2 := Int.emod_lt_of_pos k h0
  refine ⟨(k % n).toNat, s', ?_, by omega, h, rfl⟩
  rw [Int.toNat_of_nonneg h1]
theorem draw_ok {s : DS} {r : Mem} {n : Nat} (hn : 0 < n) (hn2 : n < 1073741824) : (fin (s.mem r) (dSs Γ G cDraw [some (.ref 1), some (.int n), none, none, none] (s.mem r))).wp (Drawn s r n) := by
  have h0 : (0 : Int) < n := by omega
  have h1 : (n : Int) < 1073741824 := by omega
  obtain ⟨xs, i, b, x⟩ := s
  simp only [wp_fin]
  have hp : (0 : Int) < 2 ^ 6000 := Int.pow_pos (by decide)
  by_cases hb : 0 < b
  · simp [cDraw, DS.mem, DS.mo, hb, hn, h1]
    exact drawn_mod (s := ⟨xs, i, b, x⟩) (s' := ⟨xs, i, b / n, x⟩) hn rfl
  · by_cases hi : i < xs.length
    · simp [cDraw, DS.mem, DS.mo, hb, hn, h1, hi, atI_natC]
      generalize xs[i] = c
      by_cases hg : 2000000000000000000 ≤ (2 * if c < 0 then -c else c) + if c < 0 then 1 else 0
      · simp [hg, hp, hn, h1]
        exact drawn_mod (s := ⟨xs, i, b, x⟩) (s' := ⟨xs, i + 1, _, x⟩) hn rfl
      · simp [hg, hn, h1]
        exact drawn_mod (s := ⟨xs, i, b, x⟩) (s' := ⟨xs, i + 1, b, _⟩) hn rfl
    · simp [cDraw, DS.mem, DS.mo, hb, hn, h1, hi]
      exact drawn_mod (s := ⟨xs, i, b, x⟩) (s' := ⟨xs, i + 1, b, _⟩) hn rfl
theorem begin_comp {xs : List Int} (h : xs.length ≤ 1000) {m : Mem} {σ : Loc} (h0 : σ[0]? = some (some (.kl (xs.map .int)))) (h1 : σ.length = 2) :
    dE Γ G (.comp [1] (.name 1) (.plain (.var 0)) .none (.bi .int (.cons (.var 1) .nil))) σ m = .ok (.ref m.length) (m ++ [.lst (xs.map .int)]) := by
  simp [h0]
  rw [comp_mapL (f := D.int) (fun i hi acc => by simp [h1]) (by rw [sizeLine_eq]; omega)]
theorem begin_ok {xs : List Int} (h : xs.length ≤ 1000) : fin [] (dSs Γ G cBegin [some (.kl (xs.map .int)), none] []) = .ok (.ref 1) (DS.mem ⟨xs, 0, 0, 7⟩ []) := by
  have hc := begin_comp (Γ := Γ) (G := G) h (m := []) (σ := [some (.kl (xs.map .int)), none]) rfl rfl
  simp only [cBegin, dSs_cons, dS_ret, dE_lst, dEs_cons, hc]
  simp [gcD, oldOk, DS.mem, DS.mo]
/-- what the laws' draws do -/
def DrawG (Γ : Fn) : Prop := ∀ (n : Nat) (s : DS) (r : Mem), 0 < n → n < 1073741824 → (Γ "_law_draw" [.ref 1, .int n] (s.mem r)).wp (Drawn s r n)
theorem idx_seq {m : Mem} {row : D} {ys : List D} (hr : seqOf m row = some ys) (k : Int) : idxD row (.int k) m = match atI ys k with | some d => .ok d m | none => .bad := by
  cases row with
  | str x => simp [seqOf] at hr
  | tup xs => simp only [seqOf, Option.some.injEq] at hr; subst hr; rfl
  | kl xs => simp only [seqOf, Option.some.injEq] at hr; subst hr; rfl
  | ref n =>
    show (match seqOf m (.ref n) with | some xs => (match atI xs k with | some d => Res.ok d m | none => .bad) | none => .bad) = _
    rw [hr]
  | _ => simp [seqOf] at hr
theorem len_seq {m : Mem} {row : D} {ys : List D} (hr : seqOf m row = some ys) : biD .len [row] m = .ok (.int ys.length) m := by
  cases row with
  | str x => simp [seqOf] at hr
  | _ => simp only [biD, lenD, hr, Option.map_some]
theorem below_get {n : Nat} : ∀ {ys : List D}, belows n ys = true → ∀ {j : Nat} {d : D}, ys[j]? = some d → below n d = true
  | [], _, j, d, h => by simp at h
  | y :: ys, hb, 0, d, h => by simp at hb h; exact h ▸ hb.1
  | y :: ys, hb, j + 1, d, h => by simp at hb h; exact below_get hb.2 h
theorem pick_ok {s : DS} {r : Mem} {row : D} {ys : List D} (hd : DrawG Γ) (hr : ∀ s' : DS, seqOf (s'.mem r) row = some ys) (h0 : 0 < ys.length) (h1 : ys.length < 1073741824) (hb : belows (r.length + 2) ys = true) :
    (fin (s.mem r) (dSs Γ G cPick [some (.ref 1), some row] (s.mem r))).wp fun d m => ∃ (j : Nat) (s' : DS), ys[j]? = some d ∧ s'.xs = s.xs ∧ m = s'.mem r := by
  obtain ⟨d, m, e, j, s', rfl, hj, hx, rfl⟩ := wp_ex_eq (hd ys.length s r h0 h1)
  have e2 : ys[j]? = some ys[j] := List.getElem?_eq_getElem hj
  simp only [cPick, dSs_cons, dSs_nil, dS_ret, dE_idx, dE_var, dE_call, dEs_cons, dE_bi, dEs_nil, List.getElem?_cons_zero, List.getElem?_cons_succ, Res.ok_bind, len_seq (hr s), e, idx_seq (hr s'), atI_natC, e2, Res.ok_to, SR.rt_seq, fin_rt]
  rw [gc_ds0 hx (below_get hb e2)]
  exact ⟨j, s', e2, hx, rfl⟩
theorem rare_ok {s : DS} {r : Mem} {n : Nat} (hd : DrawG Γ) (h0 : 0 < n) (h1 : n < 1073741824) :
    (fin (s.mem r) (dSs Γ G cRare [some (.ref 1), some (.int n)] (s.mem r))).wp fun d m => ∃ (b : Bool) (s' : DS), d = .bool b ∧ s'.xs = s.xs ∧ m = s'.mem r := by
  obtain ⟨d, m, e, j, s', rfl, hj, hx, rfl⟩ := wp_ex_eq (hd n s r h0 h1)
  simp [cRare, e, hx]
  exact ⟨(Classical.em _).symm, s', hx, rfl⟩
end
end PC

/-! PLaw: small defs that stand in many laws. -/
namespace PC
open PySem L2 Classical
def cPop : CSs :=
  .cons (.ret (.meth .popAt (.var 1) (.cons (.call "_law_draw" (.cons (.var 0) (.cons (.bi .len (.cons (.var 1) .nil)) .nil))) .nil))) <|
  .nil
def cPool : CSs :=
  .cons (.asg (.name 0) (.lit (.str "a b2 sum left r k0 carry z9z full tail n m8 aa busy cnt p t4 even2 ab1 head u v2 w lowest high mid "))) <|
  .cons (.asg (.name 0) (.bin .Add (.var 0) (.lit (.str "s t e f g h i j k x y q7 deep turn gate l5 hold next1 o c0 d two zz1 near far9 last ring2 ")))) <|
  .cons (.ret (.meth .split (.bin .Add (.var 0) (.lit (.str "aaaaaaa8 b c1 top2 net3 row col7 v"))) (.cons (.lit (.str " ")) .nil))) <|
  .nil
def cIsInt : CSs :=
  .cons (.ret (.and (.isin (.var 0) "int") (.not (.isin (.var 0) "bool")))) <|
  .nil
def cIsInts : CSs :=
  .cons (.ret (.and (.isin (.var 0) "tuple") (.gc (.bi .all (.cons (.comp [1] (.name 1) (.plain (.var 0)) .none (.call "_law_is_int" (.cons (.var 1) .nil))) .nil))))) <|
  .nil
def cLit : CSs :=
  .cons (.asg (.name 2) (.bi .max2 (.cons (.call "_law_draw" (.cons (.var 0) (.cons (.var 1) .nil))) (.cons (.call "_law_draw" (.cons (.var 0) (.cons (.var 1) .nil))) .nil)))) <|
  .cons (.ret (.bin .Add (.bin .Mult (.lit (.int 2)) (.var 2)) (.call "_law_draw" (.cons (.var 0) (.cons (.lit (.int 2)) .nil))))) <|
  .nil
section
variable {Γ : Fn} {G : Str → Option D} {m : Mem}
def poolS : List Str := Txt.split ((Str.ofString "a b2 sum left r k0 carry z9z full tail n m8 aa busy cnt p t4 even2 ab1 head u v2 w lowest high mid " ++ Str.ofString "s t e f g h i j k x y q7 deep turn gate l5 hold next1 o c0 d two zz1 near far9 last ring2 ") ++ Str.ofString "aaaaaaa8 b c1 top2 net3 row col7 v") (Str.ofString " ")
theorem pool_len : poolS.length = 61 := by decide +kernel
theorem pool_ok : fin m (dSs Γ G cPool [none] m) = .ok (.ref m.length) (m ++ [.lst (poolS.map .str)]) := by
  have l1 : Str.length (Str.ofString "a b2 sum left r k0 carry z9z full tail n m8 aa busy cnt p t4 even2 ab1 head u v2 w lowest high mid ") + Str.length (Str.ofString "s t e f g h i j k x y q7 deep turn gate l5 hold next1 o c0 d two zz1 near far9 last ring2 ") ≤ sizeLine := by decide +kernel
  have l2 : Str.length (Str.ofString "a b2 sum left r k0 carry z9z full tail n m8 aa busy cnt p t4 even2 ab1 head u v2 w lowest high mid " ++ Str.ofString "s t e f g h i j k x y q7 deep turn gate l5 hold next1 o c0 d two zz1 near far9 last ring2 ") + Str.length (Str.ofString "aaaaaaa8 b c1 top2 net3 row col7 v") ≤ sizeLine := by decide +kernel
  have l3 : Str.length (Str.ofString " ") ≠ 0 := by decide +kernel
  have l4 : Str.length ((Str.ofString "a b2 sum left r k0 carry z9z full tail n m8 aa busy cnt p t4 even2 ab1 head u v2 w lowest high mid " ++ Str.ofString "s t e f g h i j k x y q7 deep turn gate l5 hold next1 o c0 d two zz1 near far9 last ring2 ") ++ Str.ofString "aaaaaaa8 b c1 top2 net3 row col7 v") + 2 ≤ sizeLine := by decide +kernel
  simp only [cPool, dSs_cons, dSs_nil, dS_asg, dS_ret, dE_lit, dE_bin, dE_var, dE_meth, dEs_cons, dEs_nil, dT_name, List.set_cons_zero, List.getElem?_cons_zero, Res.ok_bind, Res.ok_to, SR.nx_seq, opB_addS l1, opB_addS l2, pre_spl, if_true, mt_spl l3 l4, SR.rt_seq, fin_rt]
  rw [gc_new]
  · rfl
  · simp
theorem is_int_ok {i : Int} : fin m (dSs Γ G cIsInt [some (.int i)] m) = .ok (.bool true) m := by simp [cIsInt]
theorem is_ints_ok {xs : List Int} (h : ∀ (i : Int) m, Γ "_law_is_int" [.int i] m = .ok (.bool true) m) (hl : xs.length ≤ sizeLine) : fin m (dSs Γ G cIsInts [some (.tup (xs.map .int)), none] m) = .ok (.bool true) m := by
  simp [cIsInts]
  rw [comp_mapL (f := fun _ => .bool true) (fun i hi acc => by simp [h]) hl]
  simp
theorem lit_okD {s : DS} {r : Mem} {n : Nat} (hd : DrawG Γ) (h0 : 0 < n) (h1 : n < 1073741824) : (fin (s.mem r) (dSs Γ G cLit [some (.ref 1), some (.int n), none] (s.mem r))).wp fun d m => ∃ (l : Nat) (s' : DS), d = .int l ∧ l < 2 * n ∧ s'.xs = s.xs ∧ m = s'.mem r := by
  obtain ⟨d, m, e1, j1, s1, rfl, hj1, hx1, rfl⟩ := wp_ex_eq (hd n s r h0 h1)
  obtain ⟨d, m, e2, j2, s2, rfl, hj2, hx2, rfl⟩ := wp_ex_eq (hd n s1 r h0 h1)
  obtain ⟨d, m, e3, j3, s3, rfl, hj3, hx3, rfl⟩ := wp_ex_eq (hd 2 s2 r (by omega) (by omega))
  simp at e3
  have hx : s3.xs = s.xs := hx3.trans (hx2.trans hx1)
  simp [cLit, e1, e2, e3, hx]
  by_cases h : j1 < j2
  · rw [if_pos h]
    exact ⟨2 * j2 + j3, by omega, by omega, s3, hx, rfl⟩
  · rw [if_neg h]
    exact ⟨2 * j1 + j3, by omega, by omega, s3, hx, rfl⟩
theorem gc_dsG {s s' : DS} {r r1 j : Mem} {d : D} (hx : s'.xs = s.xs) (hl : List.length r1 = List.length r) (ho : ∀ (i : Nat) (o : MO), r1[i]? = some o → r[i]? = some o ∨ o.below (List.length r + 2) = true) (hb : below (r.length + 2) d = true) :
    gcD (s.mem r) d (s'.mem (r1 ++ j)) = .ok d (s'.mem r1) := by
  have h : oldOk (s.mem r) (s'.mem (r1 ++ j)) := by
    refine ⟨by simp [hl], fun i hi => ?_⟩
    match i, hi with
    | 0, _ => exact .inl (by rw [DS.get0, DS.get0, hx])
    | 1, _ => exact .inr ⟨_, rfl, by simp [DS.mo]⟩
    | i + 2, hi =>
      have hi' : i < r1.length := by simp at hi; omega
      have e : (r1 ++ j)[i]? = some r1[i] := by rw [List.getElem?_append_left hi', List.getElem?_eq_getElem hi']
      rcases ho i _ (List.getElem?_eq_getElem hi') with q | q
      · exact .inl (by rw [DS.get2, DS.get2, e, q])
      · exact .inr ⟨_, by rw [DS.get2, e], by simpa using q⟩
  unfold gcD
  rw [if_pos h, if_pos (by simpa using hb)]
  congr 1
  simp [DS.mem, ← hl]
@[simp] theorem gc_dsT {s s' : DS} {a b : Mem} {d : D} (hx : s'.xs = s.xs) (h : b.take (List.length a) = a) (hb : below (List.length a + 2) d = true) : gcD (s.mem a) d (s'.mem b) = .ok d (s'.mem a) := by
  have e : b = a ++ b.drop (List.length a) := by
    conv => lhs; rw [← List.take_append_drop (List.length a) b, h]
  rw [e]
  exact gc_ds hx hb
theorem gc_old {m0 m : Mem} {d : D} (h : oldOk m0 m) (hb : below m0.length d = true) : gcD m0 d m = .ok d (m.take m0.length) := by
  unfold gcD
  rw [if_pos h, if_pos hb]
theorem pop_ok {s : DS} {r : Mem} {j : Nat} {ys : List D} (hd : DrawG Γ) (hr : r[j]? = some (.lst ys)) (h0 : 0 < ys.length) (h1 : ys.length < 1073741824) (hb : belows (r.length + 2) ys = true) :
    (fin (s.mem r) (dSs Γ G cPop [some (.ref 1), some (.ref (j + 2))] (s.mem r))).wp fun d m => ∃ (i : Nat) (s' : DS), ys[i]? = some d ∧ s'.xs = s.xs ∧ m = s'.mem (r.set j (.lst (ys.eraseIdx i))) := by
  obtain ⟨d, m, e, i, s', rfl, hi, hx, rfl⟩ := wp_ex_eq (hd ys.length s r h0 h1)
  have e2 : ys[i]? = some ys[i] := List.getElem?_eq_getElem hi
  have hix : ixN ys.length (i : Int) = some i := by
    unfold ixN
    rw [if_pos (by omega), if_pos (by omega)]; simp
  have hlo : -(2 ^ 63) ≤ (i : Int) ∧ (i : Int) < 2 ^ 63 := by omega
  have hold : oldOk (s.mem r) (s'.mem (r.set j (.lst (ys.eraseIdx i)))) := by
    refine ⟨by simp, fun a ha => ?_⟩
    match a, ha with
    | 0, _ => exact .inl (by rw [DS.get0, DS.get0, hx])
    | 1, _ => exact .inr ⟨_, rfl, by simp [DS.mo]⟩
    | a + 2, ha =>
      by_cases haj : j = a
      · subst haj
        refine .inr ⟨.lst (ys.eraseIdx i), by simp [List.getElem?_set, (List.getElem?_eq_some_iff.mp hr).1], ?_⟩
        simp only [DS.len, mo_below_lst]
        exact belows_all fun x hx => by
          obtain ⟨q, hq⟩ := List.mem_iff_getElem?.mp (List.mem_of_mem_eraseIdx hx)
          exact below_get hb hq
      · exact .inl (by simp [List.getElem?_set, haj])
  simp only [cPop, dSs_cons, dSs_nil, dS_ret, dE_meth, dE_var, dE_call, dEs_cons, dE_bi, dEs_nil, List.getElem?_cons_zero, List.getElem?_cons_succ, Res.ok_bind, pre_popAt, DS.get2, hr, if_true, len_ref, e, mt_popI, if_lo hlo, hix, e2, Res.ok_to, SR.rt_seq, fin_rt, DS.set2]
  rw [gc_old hold (by rw [DS.len]; exact below_get hb e2)]
  refine ⟨i, s', e2, hx, ?_⟩
  simp [DS.mem]
  exact List.take_of_length_le (by simp)
end
end PC

namespace PC.K04
open PySem L2 Classical
def topS (i : Nat) : Stmt := PySem.Challenge.pw_beatfabric_k04_tokens.main.body.getD i (.Pass ⟨0, 0, 0, 0⟩)
/-- tokens_of -/
def c_tokens_of : CSs :=
  .cons (.asg (.name 1) (.lst .nil)) <|
  .cons (.asg (.name 2) (.lit (.int 0))) <|
  .cons (.whl (.val (.cmp .Lt (.var 2) (.bi .len (.cons (.var 0) .nil)))) (.cons (.ite (.val (.cmp .In (.idx (.var 0) (.var 2)) (.lit (.str " \n")))) (.cons (.aug 2 .Add (.lit (.int 1))) .nil) (.cons (.asg (.name 3) (.call "token_size" (.cons (.var 0) (.cons (.var 2) .nil)))) (.cons (.expr (.meth .append (.var 1) (.cons (.slc (.var 0) (.some (.var 2)) (.some (.bin .Add (.var 2) (.var 3)))) .nil))) (.cons (.aug 2 .Add (.var 3)) .nil)))) .nil)) <|
  .cons (.ret (.bi .tuple (.cons (.var 1) .nil))) <|
  .nil
abbrev s_tokens_of : Stmt := topS 3
def f_tokens_of : FD := ⟨"tokens_of", s_tokens_of, ["text", "found", "at", "size"], ["text"], 60, c_tokens_of⟩
theorem k_tokens_of : FD.okB f_tokens_of = true := by decide +kernel
/-- token_size -/
def c_token_size : CSs :=
  .cons (.asg (.name 2) (.var 1)) <|
  .cons (.whl (.and (.val (.cmp .Lt (.var 2) (.bi .len (.cons (.var 0) .nil)))) (.val (.cmp .In (.idx (.var 0) (.var 2)) (.glob "RUN")))) (.cons (.aug 2 .Add (.lit (.int 1))) .nil)) <|
  .cons (.ite (.val (.cmp .Gt (.var 2) (.var 1))) (.cons (.ret (.bin .Sub (.var 2) (.var 1))) .nil) .nil) <|
  .cons (.ite (.val (.cmp .In (.slc (.var 0) (.some (.var 1)) (.some (.bin .Add (.var 1) (.lit (.int 2))))) (.glob "DOUBLE"))) (.cons (.ret (.lit (.int 2))) .nil) .nil) <|
  .cons (.ret (.lit (.int 1))) <|
  .nil
abbrev s_token_size : Stmt := topS 4
def f_token_size : FD := ⟨"token_size", s_token_size, ["text", "at", "end"], ["text", "at"], 60, c_token_size⟩
theorem k_token_size : FD.okB f_token_size = true := by decide +kernel
/-- _law_begin -/
abbrev c_l_begin : CSs := cBegin
abbrev s_l_begin : Stmt := topS 6
def f_l_begin : FD := ⟨"_law_begin", s_l_begin, ["_law_script", "_law_cell"], ["_law_script"], 60, c_l_begin⟩
theorem k_l_begin : FD.okB f_l_begin = true := by decide +kernel
/-- _law_draw -/
abbrev c_l_draw : CSs := cDraw
abbrev s_l_draw : Stmt := topS 7
def f_l_draw : FD := ⟨"_law_draw", s_l_draw, ["_law_d", "_law_many", "_law_found", "_law_size", "_law_cell"], ["_law_d", "_law_many"], 60, c_l_draw⟩
theorem k_l_draw : FD.okB f_l_draw = true := by decide +kernel
/-- _law_pick -/
abbrev c_l_pick : CSs := cPick
abbrev s_l_pick : Stmt := topS 8
def f_l_pick : FD := ⟨"_law_pick", s_l_pick, ["_law_d", "_law_row"], ["_law_d", "_law_row"], 60, c_l_pick⟩
theorem k_l_pick : FD.okB f_l_pick = true := by decide +kernel
/-- _law_run_chars -/
def c_l_run_chars : CSs :=
  .cons (.ret (.lit (.str "abcdefghijklmnopqrstuvwxyzABCDEFGHIJKLMNOPQRSTUVWXYZ0123456789"))) <|
  .nil
abbrev s_l_run_chars : Stmt := topS 9
def f_l_run_chars : FD := ⟨"_law_run_chars", s_l_run_chars, [], [], 60, c_l_run_chars⟩
theorem k_l_run_chars : FD.okB f_l_run_chars = true := by decide +kernel
/-- _law_sign -/
def c_l_sign : CSs :=
  .cons (.asg (.name 2) (.lit (.str ",;:.@=!<>*&|^+#$'/?_\"\\`"))) <|
  .cons (.ite (.val (.var 1)) (.cons (.asg (.name 2) (.bin .Add (.var 2) (.lit (.str "(){}[]~-(){}[]")))) .nil) .nil) <|
  .cons (.ret (.call "_law_pick" (.cons (.var 0) (.cons (.var 2) .nil)))) <|
  .nil
abbrev s_l_sign : Stmt := topS 10
def f_l_sign : FD := ⟨"_law_sign", s_l_sign, ["_law_d", "_law_is_free", "_law_signs"], ["_law_d", "_law_is_free"], 60, c_l_sign⟩
theorem k_l_sign : FD.okB f_l_sign = true := by decide +kernel
/-- _law_piece -/
def c_l_piece : CSs :=
  .cons (.asg (.name 3) (.call "_law_draw" (.cons (.var 0) (.cons (.lit (.int 7)) .nil)))) <|
  .cons (.ite (.val (.cmp .Lt (.var 3) (.lit (.int 3)))) (.cons (.asg (.name 4) (.meth .join (.lit (.str "")) (.cons (.comp [5] (.name 5) (.rng1 (.bin .Add (.lit (.int 1)) (.call "_law_draw" (.cons (.var 0) (.cons (.lit (.int 9)) .nil))))) .none (.call "_law_pick" (.cons (.var 0) (.cons (.call "_law_run_chars" .nil) .nil)))) .nil))) (.cons (.ret (.bin .Mult (.var 4) (.bin .Add (.lit (.int 1)) (.call "_law_draw" (.cons (.var 0) (.cons (.var 1) .nil)))))) .nil)) .nil) <|
  .cons (.ite (.val (.cmp .Eq (.var 3) (.lit (.int 3)))) (.cons (.ret (.meth .join (.lit (.str "")) (.cons (.comp [5] (.name 5) (.rng1 (.bin .Add (.lit (.int 2)) (.call "_law_draw" (.cons (.var 0) (.cons (.lit (.int 2)) .nil))))) .none (.call "_law_pick" (.cons (.var 0) (.cons (.lit (.str ".=!<>")) .nil)))) .nil))) .nil) .nil) <|
  .cons (.ite (.val (.cmp .Eq (.var 3) (.lit (.int 4)))) (.cons (.ret (.gc (.call "_law_pick" (.cons (.var 0) (.cons (.lst (.cons (.lit (.str " ")) (.cons (.lit (.str "\n")) (.cons (.lit (.str "   ")) (.cons (.lit (.str " \n\n ")) .nil))))) .nil))))) .nil) .nil) <|
  .cons (.ret (.call "_law_sign" (.cons (.var 0) (.cons (.var 2) .nil)))) <|
  .nil
abbrev s_l_piece : Stmt := topS 11
def f_l_piece : FD := ⟨"_law_piece", s_l_piece, ["_law_d", "_law_most", "_law_is_free", "_law_turn", "_law_run", "_law_k"], ["_law_d", "_law_most", "_law_is_free"], 60, c_l_piece⟩
theorem k_l_piece : FD.okB f_l_piece = true := by decide +kernel
/-- _law_drawn_text -/
def c_l_drawn_text : CSs :=
  .cons (.asg (.name 4) (.lit (.str ""))) <|
  .cons (.fr (.name 5) (.rng1 (.var 1)) (.cons (.asg (.name 4) (.bin .Add (.var 4) (.call "_law_piece" (.cons (.var 0) (.cons (.var 2) (.cons (.var 3) .nil)))))) (.cons (.ite (.val (.cmp .Eq (.call "_law_draw" (.cons (.var 0) (.cons (.lit (.int 3)) .nil))) (.lit (.int 1)))) (.cons (.asg (.name 4) (.bin .Add (.var 4) (.gc (.call "_law_pick" (.cons (.var 0) (.cons (.lst (.cons (.lit (.str " ")) (.cons (.lit (.str "\n")) (.cons (.lit (.str "  ")) (.cons (.lit (.str "\n ")) .nil))))) .nil)))))) .nil) .nil) .nil))) <|
  .cons (.ret (.var 4)) <|
  .nil
abbrev s_l_drawn_text : Stmt := topS 12
def f_l_drawn_text : FD := ⟨"_law_drawn_text", s_l_drawn_text, ["_law_d", "_law_pieces", "_law_most", "_law_is_free", "_law_found", "_law_k"], ["_law_d", "_law_pieces", "_law_most", "_law_is_free"], 60, c_l_drawn_text⟩
theorem k_l_drawn_text : FD.okB f_l_drawn_text = true := by decide +kernel
/-- _law_goes_on -/
def c_l_goes_on : CSs :=
  .cons (.ite (.or (.val (.cmp .Eq (.var 0) (.lit (.str "")))) (.val (.cmp .In (.var 1) (.lit (.str " \n"))))) (.cons (.ret (.lit (.bool false))) .nil) .nil) <|
  .cons (.ite (.val (.cmp .In (.idx (.var 0) (.neg (.lit (.int 1)))) (.call "_law_run_chars" .nil))) (.cons (.ret (.cmp .In (.var 1) (.call "_law_run_chars" .nil))) .nil) .nil) <|
  .cons (.ret (.cmp .In (.bin .Add (.var 0) (.var 1)) (.lst (.cons (.lit (.str "..")) (.cons (.lit (.str "==")) (.cons (.lit (.str "!=")) (.cons (.lit (.str "<=")) (.cons (.lit (.str "<<")) (.cons (.lit (.str ">>")) .nil))))))))) <|
  .nil
abbrev s_l_goes_on : Stmt := topS 13
def f_l_goes_on : FD := ⟨"_law_goes_on", s_l_goes_on, ["_law_held", "_law_char"], ["_law_held", "_law_char"], 60, c_l_goes_on⟩
theorem k_l_goes_on : FD.okB f_l_goes_on = true := by decide +kernel
/-- _law_tokens -/
def c_l_tokens : CSs :=
  .cons (.asg (.name 1) (.lst .nil)) <|
  .cons (.asg (.name 2) (.lit (.str ""))) <|
  .cons (.fr (.name 3) (.plain (.bin .Add (.var 0) (.lit (.str " ")))) (.cons (.ite (.val (.call "_law_goes_on" (.cons (.var 2) (.cons (.var 3) .nil)))) (.cons (.asg (.name 2) (.bin .Add (.var 2) (.var 3))) .nil) (.cons (.ite (.val (.cmp .NotEq (.var 2) (.lit (.str "")))) (.cons (.expr (.meth .append (.var 1) (.cons (.var 2) .nil))) .nil) .nil) (.cons (.asg (.name 2) (.ife (.val (.cmp .In (.var 3) (.lit (.str " \n")))) (.lit (.str "")) (.var 3))) .nil))) .nil)) <|
  .cons (.ret (.var 1)) <|
  .nil
abbrev s_l_tokens : Stmt := topS 14
def f_l_tokens : FD := ⟨"_law_tokens", s_l_tokens, ["_law_text", "_law_found", "_law_held", "_law_char"], ["_law_text"], 60, c_l_tokens⟩
theorem k_l_tokens : FD.okB f_l_tokens = true := by decide +kernel
/-- _law_is_told -/
def c_l_is_told : CSs :=
  .cons (.asg (.name 1) (.call "tokens_of" (.cons (.var 0) .nil))) <|
  .cons (.ite (.or (.not (.val (.isin (.var 1) "tuple"))) (.not (.val (.gc (.bi .all (.cons (.comp [2] (.name 2) (.plain (.var 1)) .none (.isin (.var 2) "str")) .nil)))))) (.cons (.ret (.lit (.bool false))) .nil) .nil) <|
  .cons (.ret (.cmp .Eq (.bi .list (.cons (.var 1) .nil)) (.call "_law_tokens" (.cons (.var 0) .nil)))) <|
  .nil
abbrev s_l_is_told : Stmt := topS 15
def f_l_is_told : FD := ⟨"_law_is_told", s_l_is_told, ["_law_text", "_law_told", "_law_token"], ["_law_text"], 60, c_l_is_told⟩
theorem k_l_is_told : FD.okB f_l_is_told = true := by decide +kernel
/-- law -/
def c_law : CSs :=
  .cons (.asg (.name 1) (.call "_law_begin" (.cons (.var 0) .nil))) <|
  .cons (.asg (.name 2) (.call "_law_draw" (.cons (.var 1) (.cons (.lit (.int 15)) .nil)))) <|
  .cons (.ite (.val (.cmp .Eq (.var 2) (.lit (.int 7)))) (.cons (.asg (.name 3) (.call "_law_drawn_text" (.cons (.var 1) (.cons (.bin .Add (.lit (.int 100)) (.call "_law_draw" (.cons (.var 1) (.cons (.lit (.int 200)) .nil)))) (.cons (.lit (.int 1)) (.cons (.lit (.bool false)) .nil)))))) .nil) (.cons (.ite (.val (.cmp .Eq (.var 2) (.lit (.int 3)))) (.cons (.asg (.name 3) (.call "_law_drawn_text" (.cons (.var 1) (.cons (.call "_law_draw" (.cons (.var 1) (.cons (.lit (.int 21)) .nil))) (.cons (.lit (.int 44)) (.cons (.lit (.bool true)) .nil)))))) .nil) (.cons (.asg (.name 3) (.call "_law_drawn_text" (.cons (.var 1) (.cons (.call "_law_draw" (.cons (.var 1) (.cons (.lit (.int 21)) .nil))) (.cons (.lit (.int 1)) (.cons (.lit (.bool true)) .nil)))))) .nil)) .nil)) <|
  .cons (.asg (.name 4) (.call "_law_drawn_text" (.cons (.var 1) (.cons (.call "_law_draw" (.cons (.var 1) (.cons (.lit (.int 11)) .nil))) (.cons (.lit (.int 1)) (.cons (.lit (.bool true)) .nil)))))) <|
  .cons (.ite (.not (.and (.val (.call "_law_is_told" (.cons (.var 3) .nil))) (.and (.val (.call "_law_is_told" (.cons (.var 4) .nil))) (.val (.call "_law_is_told" (.cons (.var 3) .nil)))))) (.cons (.ret (.lit (.bool false))) .nil) .nil) <|
  .cons (.ret (.gc (.call "_law_is_told" (.cons (.bin .Add (.bin .Add (.var 3) (.gc (.call "_law_pick" (.cons (.var 1) (.cons (.lst (.cons (.lit (.str " ")) (.cons (.lit (.str "\n")) .nil))) .nil))))) (.var 4)) .nil)))) <|
  .nil
abbrev s_law : Stmt := topS 16
def f_law : FD := ⟨"law", s_law, ["_law_script", "_law_d", "_law_turn", "_law_one", "_law_two"], ["_law_script"], 60, c_law⟩
theorem k_law : FD.okB f_law = true := by decide +kernel
def G0 : Str → Option PC.D := fun x => if x = "RUN" then some (.str "abcdefghijklmnopqrstuvwxyzABCDEFGHIJKLMNOPQRSTUVWXYZ0123456789") else if x = "DOUBLE" then some (.tup [(.str ".."), (.str "=="), (.str "!="), (.str "<="), (.str "<<"), (.str ">>")]) else none
def tab : List FD := [f_tokens_of, f_token_size, f_l_begin, f_l_draw, f_l_pick, f_l_run_chars, f_l_sign, f_l_piece, f_l_drawn_text, f_l_goes_on, f_l_tokens, f_l_is_told, f_law]
theorem tab_all : tab.all FD.okB = true := by
  simp only [tab, List.all_cons, List.all_nil, k_tokens_of, k_token_size, k_l_begin, k_l_draw, k_l_pick, k_l_run_chars, k_l_sign, k_l_piece, k_l_drawn_text, k_l_goes_on, k_l_tokens, k_l_is_told, k_law, Bool.and_self]
theorem u_tokens_of {G : Str → Option PC.D} {k : Nat} {x0 : PC.D} {m : Mem} : runF (tabP tab) G (k + 1) "tokens_of" [x0] m = fin m (dSs (runF (tabP tab) G k) G c_tokens_of [some x0, none, none, none] m) := rfl
theorem u_token_size {G : Str → Option PC.D} {k : Nat} {x0 x1 : PC.D} {m : Mem} : runF (tabP tab) G (k + 1) "token_size" [x0, x1] m = fin m (dSs (runF (tabP tab) G k) G c_token_size [some x0, some x1, none] m) := rfl
theorem u_l_begin {G : Str → Option PC.D} {k : Nat} {x0 : PC.D} {m : Mem} : runF (tabP tab) G (k + 1) "_law_begin" [x0] m = fin m (dSs (runF (tabP tab) G k) G c_l_begin [some x0, none] m) := rfl
theorem u_l_draw {G : Str → Option PC.D} {k : Nat} {x0 x1 : PC.D} {m : Mem} : runF (tabP tab) G (k + 1) "_law_draw" [x0, x1] m = fin m (dSs (runF (tabP tab) G k) G c_l_draw [some x0, some x1, none, none, none] m) := rfl
theorem u_l_pick {G : Str → Option PC.D} {k : Nat} {x0 x1 : PC.D} {m : Mem} : runF (tabP tab) G (k + 1) "_law_pick" [x0, x1] m = fin m (dSs (runF (tabP tab) G k) G c_l_pick [some x0, some x1] m) := rfl
theorem u_l_run_chars {G : Str → Option PC.D} {k : Nat} {m : Mem} : runF (tabP tab) G (k + 1) "_law_run_chars" [] m = fin m (dSs (runF (tabP tab) G k) G c_l_run_chars [] m) := rfl
theorem u_l_sign {G : Str → Option PC.D} {k : Nat} {x0 x1 : PC.D} {m : Mem} : runF (tabP tab) G (k + 1) "_law_sign" [x0, x1] m = fin m (dSs (runF (tabP tab) G k) G c_l_sign [some x0, some x1, none] m) := rfl
theorem u_l_piece {G : Str → Option PC.D} {k : Nat} {x0 x1 x2 : PC.D} {m : Mem} : runF (tabP tab) G (k + 1) "_law_piece" [x0, x1, x2] m = fin m (dSs (runF (tabP tab) G k) G c_l_piece [some x0, some x1, some x2, none, none, none] m) := rfl
theorem u_l_drawn_text {G : Str → Option PC.D} {k : Nat} {x0 x1 x2 x3 : PC.D} {m : Mem} : runF (tabP tab) G (k + 1) "_law_drawn_text" [x0, x1, x2, x3] m = fin m (dSs (runF (tabP tab) G k) G c_l_drawn_text [some x0, some x1, some x2, some x3, none, none] m) := rfl
theorem u_l_goes_on {G : Str → Option PC.D} {k : Nat} {x0 x1 : PC.D} {m : Mem} : runF (tabP tab) G (k + 1) "_law_goes_on" [x0, x1] m = fin m (dSs (runF (tabP tab) G k) G c_l_goes_on [some x0, some x1] m) := rfl
theorem u_l_tokens {G : Str → Option PC.D} {k : Nat} {x0 : PC.D} {m : Mem} : runF (tabP tab) G (k + 1) "_law_tokens" [x0] m = fin m (dSs (runF (tabP tab) G k) G c_l_tokens [some x0, none, none, none] m) := rfl
theorem u_l_is_told {G : Str → Option PC.D} {k : Nat} {x0 : PC.D} {m : Mem} : runF (tabP tab) G (k + 1) "_law_is_told" [x0] m = fin m (dSs (runF (tabP tab) G k) G c_l_is_told [some x0, none, none] m) := rfl
theorem u_law {G : Str → Option PC.D} {k : Nat} {x0 : PC.D} {m : Mem} : runF (tabP tab) G (k + 1) "law" [x0] m = fin m (dSs (runF (tabP tab) G k) G c_law [some x0, none, none, none, none] m) := rfl
end PC.K04

namespace PC.K04
open PySem
/-! the plain law: two ways to cut a text into tokens -/
def runL : List Nat := (Str.ofString "abcdefghijklmnopqrstuvwxyzABCDEFGHIJKLMNOPQRSTUVWXYZ0123456789").cps.toList
def run (c : Nat) : Bool := decide (c ∈ runL)
def bl (c : Nat) : Bool := decide (c ∈ [32, 10])
def dbls : List (List Nat) := [[46, 46], [61, 61], [33, 61], [60, 61], [60, 60], [62, 62]]
def dbl (h : List Nat) : Bool := decide (h ∈ dbls)
def toks : Nat → List Nat → List (List Nat)
  | 0, _ => []
  | _ + 1, [] => []
  | f + 1, c :: r => if bl c = true then toks f r else if run c = true then (c :: r.takeWhile run) :: toks f (r.dropWhile run) else
      if dbl ((c :: r).take 2) = true then (c :: r).take 2 :: toks f (r.drop 1) else [c] :: toks f r
def goes (h : List Nat) (c : Nat) : Bool := if h = [] ∨ bl c = true then false else if run (h.getLast?.getD 0) = true then run c else dbl (h ++ [c])
def step (st : List (List Nat) × List Nat) (c : Nat) : List (List Nat) × List Nat :=
  if goes st.2 c = true then (st.1, st.2 ++ [c]) else (if st.2 = [] then st.1 else st.1 ++ [st.2], if bl c = true then [] else [c])
theorem run_bl {c : Nat} (h : run c = true) : bl c = false := by
  have : ∀ c ∈ runL, bl c = false := by decide +kernel
  exact this c (of_decide_eq_true h)
theorem step_nil {found : List (List Nat)} {c : Nat} : step (found, []) c = (found, if bl c = true then [] else [c]) := by simp [step, goes]
theorem flush {found : List (List Nat)} {h : List Nat} {c : Nat} (h0 : h ≠ []) (hg : goes h c = false) : step (found, h) c = step (found ++ [h], []) c := by
  rw [step_nil]
  simp [step, hg, h0]
theorem runs : ∀ (r : List Nat) (found : List (List Nat)) (h : List Nat), run (h.getLast?.getD 0) = true → h ≠ [] →
    (r ++ [32]).foldl step (found, h) = (r.dropWhile run ++ [32]).foldl step (found ++ [h ++ r.takeWhile run], [])
  | [], found, h, hr, h0 => by
    have hg : goes h 32 = false := by simp [goes, bl]
    simp [flush h0 hg]
  | d :: r, found, h, hr, h0 => by
    by_cases hd : run d = true
    · have hg : goes h d = true := by simp [goes, h0, run_bl hd, hr, hd]
      have e : step (found, h) d = (found, h ++ [d]) := by simp [step, hg]
      rw [List.cons_append, List.foldl_cons, e, runs r found (h ++ [d]) (by simpa using hd) (by simp)]
      simp [hd]
    · have hg : goes h d = false := by simp [goes, h0, hr, hd]
      have hd' : run d = false := by simpa using hd
      rw [List.cons_append, List.foldl_cons, flush h0 hg]
      simp [List.takeWhile_cons, List.dropWhile_cons, hd']
theorem dbl_last {c d : Nat} (h : dbl [c, d] = true) : run d = false ∧ run c = false ∧ bl d = false ∧ ∀ e, dbl [c, d, e] = false := by
  have h1 : [c, d] ∈ dbls := of_decide_eq_true h
  have h2 : ∀ p ∈ dbls, run (p.getD 1 0) = false ∧ run (p.getD 0 0) = false ∧ bl (p.getD 1 0) = false := by decide +kernel
  have := h2 _ h1
  refine ⟨this.1, this.2.1, this.2.2, fun e => ?_⟩
  have h3 : ∀ p ∈ dbls, p.length = 2 := by decide
  apply decide_eq_false
  intro q
  have := h3 _ q
  simp at this
theorem both : ∀ (f : Nat) (cs : List Nat) (found : List (List Nat)), cs.length ≤ f → (cs ++ [32]).foldl step (found, []) = (found ++ toks f cs, [])
  | 0, [], found, _ => by simp [toks, step_nil, bl]
  | 0, _ :: _, _, h => by simp at h
  | f + 1, [], found, _ => by simp [toks, step_nil, bl]
  | f + 1, c :: r, found, h => by
    simp only [List.length_cons] at h
    rw [List.cons_append, List.foldl_cons, step_nil]
    by_cases hb : bl c = true
    · rw [if_pos hb, both f r found (by omega)]
      simp [toks, hb]
    · rw [if_neg hb]
      have hb' : bl c = false := by simpa using hb
      by_cases hr : run c = true
      · rw [runs r found [c] (by simpa using hr) (by simp)]
        have hl : (r.dropWhile run).length ≤ f := Nat.le_trans (List.Sublist.length_le (List.dropWhile_sublist _)) (by omega)
        rw [both f _ _ hl]
        simp [toks, hb', hr]
      · have hr' : run c = false := by simpa using hr
        cases r with
        | nil =>
          have hg : goes [c] 32 = false := by simp [goes, bl]
          have hd : dbl [c] = false := by
            apply decide_eq_false
            intro q
            have h3 : ∀ p ∈ dbls, p.length = 2 := by decide
            have := h3 _ q
            simp at this
          have e0 : bl 32 = true := by decide
          have ef : toks f [] = [] := by cases f <;> rfl
          simp only [List.nil_append, List.foldl_cons, List.foldl_nil, flush (found := found) (h := [c]) (by simp) hg, step_nil, e0, if_true]
          simp [toks, hb', hr', hd, ef]
        | cons d r =>
          by_cases hd : dbl [c, d] = true
          · obtain ⟨h1, h2, h3, h4⟩ := dbl_last hd
            have hg : goes [c] d = true := by simp [goes, h3, hr', hd]
            have e : step (found, [c]) d = (found, [c, d]) := by simp [step, hg]
            rw [List.cons_append, List.foldl_cons, e]
            have hfl : (r ++ [32]).foldl step (found, [c, d]) = (r ++ [32]).foldl step (found ++ [[c, d]], []) := by
              have hg2 : ∀ e, goes [c, d] e = false := fun e => by simp [goes, h1, h4]
              cases r with
              | nil => simp [flush (found := found) (h := [c, d]) (by simp) (hg2 32)]
              | cons e r => rw [List.cons_append, List.foldl_cons, List.foldl_cons, flush (by simp) (hg2 e)]
            rw [hfl, both f r _ (by simp at h; omega)]
            simp [toks, hb', hr', hd]
          · have hd' : dbl [c, d] = false := by simpa using hd
            have hg : goes [c] d = false := by simp [goes, hr', hd']
            rw [List.cons_append, List.foldl_cons, flush (by simp) hg, ← List.foldl_cons (l := r ++ [32]), ← List.cons_append, both f (d :: r) _ (by simp at h ⊢; omega)]
            simp [toks, hb', hr', hd']
end PC.K04

namespace PC.K04
open PySem L2 Classical
def S (cs : List Nat) : Str := ⟨cs.toArray⟩
theorem S_list {cs : List Nat} : (S cs).cps.toList = cs := by simp [S]
theorem S_len {cs : List Nat} : (S cs).length = cs.length := by simp [S, Str.length]
theorem S_of {z : Str} : S z.cps.toList = z := by simp [S]
theorem S_cut {cs : List Nat} {a n : Nat} (h : a ≤ cs.length) : cutS (S cs) (some (a : Int)) (some ((a : Int) + (n : Int))) = S ((cs.drop a).take n) := by
  unfold cutS
  have h1 : min a cs.length = a := by omega
  rw [S_list, S_len, ← Int.natCast_add, HT.sIx_nat, HT.sIx_nat, h1]
  have : (cs.drop a).take (min (a + n) cs.length - a) = (cs.drop a).take n := by
    rw [List.take_eq_take_iff]
    simp only [List.length_drop]
    omega
  rw [this]; rfl
section
variable {k : Nat} {m : Mem}
theorem g_run : G0 "RUN" = some (.str (Str.ofString "abcdefghijklmnopqrstuvwxyzABCDEFGHIJKLMNOPQRSTUVWXYZ0123456789")) := rfl
theorem g_dbl : G0 "DOUBLE" = some (.tup (dbls.map fun l => .str (S l))) := by rfl
def ISz (cs : List Nat) (a : Nat) (M : Mem) (μ : Nat) (σ : Loc) (m : Mem) : Prop :=
  ∃ j : Nat, σ = [some (.str (S cs)), some (.int a), some (.int (a + j : Nat))] ∧ m = M ∧ j ≤ ((cs.drop a).takeWhile run).length ∧ μ = cs.length - j
def sizeAt (r : List Nat) : Nat := if (r.takeWhile run).length = 0 then (if dbl (r.take 2) = true then 2 else 1) else (r.takeWhile run).length
theorem tw_get {p : Nat → Bool} : ∀ {l : List Nat} {j : Nat}, j < (l.takeWhile p).length → ∃ c, l[j]? = some c ∧ p c = true
  | [], j, h => by simp at h
  | c :: l, j, h => by
    by_cases hc : p c = true
    · cases j with
      | zero => exact ⟨c, rfl, hc⟩
      | succ j =>
        simp [hc] at h
        simpa using tw_get (l := l) h
    · simp [hc] at h
theorem tw_end {p : Nat → Bool} : ∀ {l : List Nat} {c : Nat}, l[(l.takeWhile p).length]? = some c → p c = false
  | [], c, h => by simp at h
  | d :: l, c, h => by
    by_cases hd : p d = true
    · simp [hd] at h
      exact tw_end (l := l) h
    · simp [hd] at h
      subst h; simpa using hd
theorem tw_le {p : Nat → Bool} {l : List Nat} : (l.takeWhile p).length ≤ l.length := List.Sublist.length_le (List.takeWhile_sublist _)
theorem S_inj {a b : List Nat} : S a = S b ↔ a = b := by
  constructor
  · intro h; have := congrArg (fun z => z.cps.toList) h; simpa [S_list] using this
  · rintro rfl; rfl
theorem in_dbl {h : List Nat} {m : Mem} : opC .In (.str (S h)) (.tup (dbls.map fun l => .str (S l))) m = .ok (.bool (dbl h)) m := by
  show ofB (inD m (.str (S h)) (dbls.map fun l => .str (S l))) m = _
  have := in_enc (m := m) (S h) (dbls.map S)
  rw [List.map_map] at this
  have e : inD m (.str (S h)) (dbls.map fun l => .str (S l)) = some (decide (S h ∈ dbls.map S)) := this
  rw [e]
  simp only [ofB_some]
  congr 2
  have : S h ∈ dbls.map S ↔ h ∈ dbls := by
    simp only [List.mem_map]
    exact ⟨fun ⟨x, h1, h2⟩ => S_inj.mp h2 ▸ h1, fun h1 => ⟨h, h1, rfl⟩⟩
  unfold dbl
  by_cases q : h ∈ dbls
  · rw [decide_eq_true q, decide_eq_true (this.mpr q)]
  · rw [decide_eq_false q, decide_eq_false (fun z => q (this.mp z))]
theorem r_size {cs : List Nat} {a : Nat} (hl : cs.length ≤ 16000000) (ha : a < cs.length) : runF (tabP tab) G0 (k + 1) "token_size" [.str (S cs), .int a] m = .ok (.int (sizeAt (cs.drop a))) m := by
  rw [u_token_size]
  have hz : (S cs).length ≤ sizeLine := by rw [S_len, sizeLine_eq]; omega
  have hrun : ∀ c, c ∈ (Str.ofString "abcdefghijklmnopqrstuvwxyzABCDEFGHIJKLMNOPQRSTUVWXYZ0123456789").cps ↔ run c = true := fun c => by
    unfold run runL
    rw [decide_eq_true_iff, Array.mem_toList_iff]
  refine wp_eq ?_
  simp [c_token_size]
  refine while_wp (ISz cs a m) (n := cs.length) ⟨0, rfl, rfl, Nat.zero_le _, rfl⟩ ?_
  rintro μ σ m' ⟨j, rfl, rfl, hj, rfl⟩
  have hjl : a + j ≤ cs.length := by have := tw_le (p := run) (l := cs.drop a); simp at this; omega
  have hslc : slcD (.str (S cs)) (some (a : Int)) (some ((a : Int) + 2)) m' = .ok (.str (S ((cs.drop a).take 2))) m' := by
    rw [slc_str hz]
    have := S_cut (cs := cs) (a := a) (n := 2) (by omega)
    rw [← this]; rfl
  have hfin : (if a < a + j then SR.rt (.int ((a : Int) + j - a)) m' else SR.nx [some (.str (S cs)), some (.int a), some (.int ((a : Int) + j))] m') = (if 0 < j then SR.rt (.int (j : Nat)) m' else SR.nx [some (.str (S cs)), some (.int a), some (.int ((a : Int) + j))] m') := by
    by_cases h : 0 < j
    · rw [if_pos (by omega), if_pos h]; congr 2; omega
    · rw [if_neg (by omega), if_neg h]
  have stop : j = ((cs.drop a).takeWhile run).length → sizeAt (cs.drop a) = if 0 < j then j else if dbl ((cs.drop a).take 2) = true then 2 else 1 := fun e => by
    unfold sizeAt
    rw [← e]
    by_cases h : 0 < j
    · rw [if_neg (by omega), if_pos h]
    · rw [if_pos (by omega), if_neg h]
  by_cases hlt : a + j < cs.length
  · have hget : cs[a + j]? = some cs[a + j] := List.getElem?_eq_getElem hlt
    generalize cs[a + j] = c at hget
    have hix : idxD (.str (S cs)) (.int ((a : Int) + (j : Int))) m' = .ok (.str ⟨#[c]⟩) m' := by
      refine idx_str hz ?_
      rw [S_list, ← Int.natCast_add, atI_natC, hget]
    have hlt' : (a : Int) + j < cs.length := by omega
    have hdrop : (cs.drop a)[j]? = some c := by rw [List.getElem?_drop, hget]
    by_cases hc : run c = true
    · have hmem := (hrun c).mpr hc
      have hjlt : j < ((cs.drop a).takeWhile run).length := by
        rcases Nat.lt_or_ge j ((cs.drop a).takeWhile run).length with q | q
        · exact q
        · have e : j = ((cs.drop a).takeWhile run).length := by omega
          rw [e] at hdrop
          rw [tw_end hdrop] at hc; cases hc
      simp [len_str hz, S_len, g_run, hlt', hix, in_one, hmem]
      exact ⟨cs.length - (j + 1), by omega, j + 1, by simp [Int.add_assoc], rfl, hjlt, rfl⟩
    · have hmem : ¬ c ∈ (Str.ofString "abcdefghijklmnopqrstuvwxyzABCDEFGHIJKLMNOPQRSTUVWXYZ0123456789").cps := fun q => hc ((hrun c).mp q)
      have e : j = ((cs.drop a).takeWhile run).length := by
        rcases Nat.lt_or_ge j ((cs.drop a).takeWhile run).length with q | q
        · obtain ⟨c', h1, h2⟩ := tw_get q
          rw [hdrop] at h1; cases h1
          exact absurd h2 hc
        · omega
      rw [stop e]
      by_cases h0 : 0 < j
      · have h0' : (a : Int) < (a : Int) + j := by omega
        have h1' : (a : Int) + j - a = j := by omega
        simp [len_str hz, S_len, g_run, hlt', hix, in_one, hmem, h0, h0', h1']
      · have h0' : ¬ (a : Int) < (a : Int) + j := by omega
        simp [len_str hz, S_len, g_run, hlt', hix, in_one, hmem, h0, h0', hslc, g_dbl, in_dbl]
        by_cases hd : dbl ((cs.drop a).take 2) = true
        · simp [hd]
        · simp [hd]
  · have hlt' : ¬ (a : Int) + j < cs.length := by omega
    have e : j = ((cs.drop a).takeWhile run).length := by
      have := tw_le (p := run) (l := cs.drop a); simp at this; omega
    rw [stop e]
    have h0 : 0 < j := by omega
    have h0' : (a : Int) < (a : Int) + j := by omega
    have h1' : (a : Int) + j - a = j := by omega
    simp [len_str hz, S_len, g_run, hlt', h0, h0', h1']
end
end PC.K04

namespace PC.K04
open PySem L2 Classical
theorem take_tw {p : Nat → Bool} : ∀ (l : List Nat), l.take (l.takeWhile p).length = l.takeWhile p
  | [] => rfl
  | c :: l => by
    by_cases h : p c = true
    · simp [h, take_tw l]
    · simp [h]
theorem drop_tw {p : Nat → Bool} : ∀ (l : List Nat), l.drop (l.takeWhile p).length = l.dropWhile p
  | [] => rfl
  | c :: l => by
    by_cases h : p c = true
    · simp [h, drop_tw l]
    · simp [h]
theorem toks_cons {f c : Nat} {r : List Nat} : toks (f + 1) (c :: r) = if bl c = true then toks f r else if run c = true then (c :: r.takeWhile run) :: toks f (r.dropWhile run) else
      if dbl ((c :: r).take 2) = true then (c :: r).take 2 :: toks f (r.drop 1) else [c] :: toks f r := rfl
theorem toks_size {f c : Nat} {r : List Nat} (hb : bl c = false) : toks (f + 1) (c :: r) = (c :: r).take (sizeAt (c :: r)) :: toks f ((c :: r).drop (sizeAt (c :: r))) := by
  rw [toks_cons, if_neg (by simp [hb])]
  unfold sizeAt
  by_cases hr : run c = true
  · simp [hr, take_tw, drop_tw]
  · have hr' : run c = false := by simpa using hr
    rw [if_neg hr]
    simp only [List.takeWhile_cons, hr', Bool.false_eq_true, if_false, List.length_nil, if_true]
    by_cases hd : dbl ((c :: r).take 2) = true
    · rw [if_pos hd, if_pos hd]; rfl
    · rw [if_neg hd, if_neg hd]; rfl
theorem size_pos {c : Nat} {r : List Nat} : 0 < sizeAt (c :: r) := by
  unfold sizeAt
  split
  · split <;> omega
  · omega
theorem toks_nil {f : Nat} : toks f [] = [] := by cases f <;> rfl
theorem toks_len : ∀ (f : Nat) (cs : List Nat), (toks f cs).length ≤ f
  | 0, _ => Nat.le_refl _
  | _ + 1, [] => Nat.zero_le _
  | f + 1, c :: r => by
    unfold toks
    split
    · exact Nat.le_succ_of_le (toks_len f r)
    · split
      · simp only [List.length_cons]; exact Nat.succ_le_succ (toks_len f _)
      · split <;> (simp only [List.length_cons]; exact Nat.succ_le_succ (toks_len f _))
abbrev sD (l : List Nat) : PC.D := .str (S l)
section
variable {k : Nat} {m : Mem}
def IT (cs : List Nat) (M : Mem) (μ : Nat) (σ : Loc) (m : Mem) : Prop :=
  ∃ (done : List (List Nat)) (a f : Nat) (x : Option PC.D), σ = [some (sD cs), some (.ref M.length), some (.int a), x] ∧ m = M ++ [.lst (done.map sD)] ∧ done ++ toks f (cs.drop a) = toks cs.length cs ∧ cs.length ≤ f + a ∧ μ = cs.length - a
theorem bl_in {c : Nat} : c ∈ (Str.ofString " \n").cps ↔ bl c = true := by
  have : (Str.ofString " \n").cps.toList = [32, 10] := by decide +kernel
  rw [← Array.mem_toList_iff, this]
  unfold bl
  rw [decide_eq_true_iff]
theorem r_tokens_of {cs : List Nat} (hl : cs.length ≤ 16000000) : runF (tabP tab) G0 (k + 2) "tokens_of" [sD cs] m = .ok (.tup ((toks cs.length cs).map sD)) m := by
  rw [u_tokens_of]
  have hz : (S cs).length ≤ sizeLine := by rw [S_len, sizeLine_eq]; omega
  refine wp_eq ?_
  simp [c_tokens_of]
  refine while_wp (IT cs m) (n := cs.length) ⟨[], 0, cs.length, none, rfl, rfl, rfl, by omega, rfl⟩ ?_
  rintro μ σ m' ⟨done, a, f, x, rfl, rfl, hd, hf, rfl⟩
  by_cases ha : a < cs.length
  · have hget : cs[a]? = some cs[a] := List.getElem?_eq_getElem ha
    have hdr : cs.drop a = cs[a] :: cs.drop (a + 1) := List.drop_eq_getElem_cons ha
    have hsize := r_size (k := k) (m := m ++ [.lst (done.map sD)]) hl ha
    generalize cs[a] = c at hget hdr
    have hix : idxD (.str (S cs)) (.int (a : Nat)) (m ++ [.lst (done.map sD)]) = .ok (.str ⟨#[c]⟩) (m ++ [.lst (done.map sD)]) := by
      refine idx_str hz ?_
      rw [S_list, atI_natC, hget]
    have hdone : done.length < sizeLine := by
      have h1 := congrArg List.length hd
      have h2 := toks_len cs.length cs
      simp only [List.length_append] at h1
      rw [sizeLine_eq]; omega
    cases f with
    | zero => omega
    | succ f =>
      by_cases hb : bl c = true
      · have hm := bl_in.mpr hb
        have e : toks (f + 1) (cs.drop a) = toks f (cs.drop (a + 1)) := by rw [hdr]; simp [toks, hb]
        simp [len_str hz, S_len, ha, hix, in_one, hm]
        exact ⟨cs.length - (a + 1), by omega, done, a + 1, f, x, by simp, rfl, by rw [← e]; exact hd, by omega, rfl⟩
      · have hb' : bl c = false := by simpa using hb
        have hm : ¬ c ∈ (Str.ofString " \n").cps := fun q => hb (bl_in.mp q)
        have e := toks_size (f := f) (c := c) (r := cs.drop (a + 1)) hb'
        rw [← hdr, List.drop_drop] at e
        have hp : 0 < sizeAt (cs.drop a) := by rw [hdr]; exact size_pos
        have hslc : slcD (.str (S cs)) (some (a : Int)) (some ((a : Int) + (sizeAt (cs.drop a) : Nat))) (m ++ [.lst (done.map sD)]) = .ok (.str (S ((cs.drop a).take (sizeAt (cs.drop a))))) (m ++ [.lst (done.map sD)]) := by
          rw [slc_str hz, S_cut (by omega)]
        simp [len_str hz, S_len, ha, hix, in_one, hm, hsize, hslc, hdone]
        exact ⟨cs.length - (a + sizeAt (cs.drop a)), by omega, done ++ [(cs.drop a).take (sizeAt (cs.drop a))], a + sizeAt (cs.drop a), f, _, by simp; rfl, by simp, by rw [← hd, e]; simp, by omega, rfl⟩
  · simp [len_str hz, S_len, ha]
    have hn : cs.drop a = [] := List.drop_eq_nil_of_le (by omega)
    rw [hn, toks_nil, List.append_nil] at hd
    rw [hd]
end
end PC.K04

namespace PC.K04
open PySem L2 Classical
section
variable {k : Nat} {m : Mem}
theorem r_chars : runF (tabP tab) G0 (k + 1) "_law_run_chars" [] m = .ok (.str (Str.ofString "abcdefghijklmnopqrstuvwxyzABCDEFGHIJKLMNOPQRSTUVWXYZ0123456789")) m := by
  rw [u_l_run_chars]
  simp [c_l_run_chars]
theorem run_in {c : Nat} : c ∈ (Str.ofString "abcdefghijklmnopqrstuvwxyzABCDEFGHIJKLMNOPQRSTUVWXYZ0123456789").cps ↔ run c = true := by
  unfold run runL
  rw [decide_eq_true_iff, Array.mem_toList_iff]
theorem S_app {a b : List Nat} : S a ++ S b = S (a ++ b) := by
  show (⟨a.toArray ++ b.toArray⟩ : Str) = ⟨(a ++ b).toArray⟩
  simp
theorem S_empty {h : List Nat} : S h = Str.ofString "" ↔ h = [] := by
  have : Str.ofString "" = S [] := by decide +kernel
  rw [this, S_inj]
theorem in_dblL {h : List Nat} {n : Nat} {m : Mem} (hn : m[n]? = some (.lst (dbls.map fun l => .str (S l)))) : opC .In (.str (S h)) (.ref n) m = .ok (.bool (dbl h)) m := by
  have := in_dbl (h := h) (m := m)
  show (match seqOf m (.ref n) with | some ys => ofB (inD m (.str (S h)) ys) m | none => .bad) = _
  rw [seq_ref hn]
  exact this
theorem dbls_eq : [PC.D.str (Str.ofString ".."), .str (Str.ofString "=="), .str (Str.ofString "!="), .str (Str.ofString "<="), .str (Str.ofString "<<"), .str (Str.ofString ">>")] = dbls.map fun l => .str (S l) := rfl
theorem r_goes {h : List Nat} {c : Nat} (hl : h.length ≤ 16000000) : runF (tabP tab) G0 (k + 2) "_law_goes_on" [sD h, .str ⟨#[c]⟩] m = .ok (.bool (goes h c)) m := by
  rw [u_l_goes_on]
  have hz : (S h).length ≤ sizeLine := by rw [S_len, sizeLine_eq]; omega
  have hch := r_chars (k := k) (m := m)
  have hadd : (S h).length + Str.length ⟨#[c]⟩ ≤ sizeLine := by rw [S_len, sizeLine_eq]; simp [Str.length]; omega
  have happ : S h ++ (⟨#[c]⟩ : Str) = S (h ++ [c]) := S_app (b := [c])
  by_cases h0 : h = []
  · subst h0
    have e : S [] = Str.ofString "" := S_empty.mpr rfl
    simp [c_l_goes_on, e, goes]
  · have e : ¬ S h = Str.ofString "" := fun q => h0 (S_empty.mp q)
    by_cases hb : bl c = true
    · have hm := bl_in.mpr hb
      simp [c_l_goes_on, e, goes, h0, in_one, hm, hb]
    · have hm : ¬ c ∈ (Str.ofString " \n").cps := fun q => hb (bl_in.mp q)
      have hix : idxD (.str (S h)) (.int (-1)) m = .ok (.str ⟨#[h.getLast h0]⟩) m := by
        refine idx_str hz ?_
        rw [S_list, atI_m1, List.getLast?_eq_getLast h0]
      have hgl : h.getLast?.getD 0 = h.getLast h0 := by rw [List.getLast?_eq_getLast h0]; rfl
      by_cases hr : run (h.getLast h0) = true
      · have hm2 := run_in.mpr hr
        by_cases hc : run c = true
        · have hm3 := run_in.mpr hc
          simp [c_l_goes_on, e, goes, h0, in_one, hm, hb, hix, hch, hm2, hgl, hr, hm3, hc]
        · have hm3 : ¬ c ∈ (Str.ofString "abcdefghijklmnopqrstuvwxyzABCDEFGHIJKLMNOPQRSTUVWXYZ0123456789").cps := fun q => hc (run_in.mp q)
          have hc' : run c = false := by simpa using hc
          simp [c_l_goes_on, e, goes, h0, in_one, hm, hb, hix, hch, hm2, hgl, hr, hm3, hc']
      · have hm2 : ¬ h.getLast h0 ∈ (Str.ofString "abcdefghijklmnopqrstuvwxyzABCDEFGHIJKLMNOPQRSTUVWXYZ0123456789").cps := fun q => hr (run_in.mp q)
        have hr' : run (h.getLast h0) = false := by simpa using hr
        have hin := in_dblL (h := h ++ [c]) (n := m.length) (m := m ++ [.lst [PC.D.str (Str.ofString ".."), .str (Str.ofString "=="), .str (Str.ofString "!="), .str (Str.ofString "<="), .str (Str.ofString "<<"), .str (Str.ofString ">>")]]) (by rw [dbls_eq]; simp)
        simp [c_l_goes_on, e, goes, h0, in_one, hm, hb, hix, hch, hm2, hgl, hr', hadd, happ, hin]
theorem chars_map (cs : List Nat) : (S cs ++ Str.ofString " ").cps.toList.map (fun c => PC.D.str ⟨#[c]⟩) = (cs ++ [32]).map fun c => PC.D.str ⟨#[c]⟩ := by
  have : Str.ofString " " = S [32] := by decide +kernel
  rw [this, S_app, S_list]
def IL (cs : List Nat) (M : Mem) (done : List Nat) (σ : Loc) (m : Mem) : Prop :=
  ∃ x : Option PC.D, σ = [some (sD cs), some (.ref M.length), some (sD (done.foldl step ([], [])).2), x] ∧ m = M ++ [.lst ((done.foldl step ([], [])).1.map sD)]
theorem step_len (st : List (List Nat) × List Nat) (c : Nat) : (step st c).1.length ≤ st.1.length + 1 ∧ (step st c).2.length ≤ st.2.length + 1 := by
  unfold step
  split
  · simp
  · constructor
    · simp only; split <;> simp
    · simp only; split <;> simp
theorem fold_len : ∀ (l : List Nat) (st : List (List Nat) × List Nat), (l.foldl step st).1.length ≤ st.1.length + l.length ∧ (l.foldl step st).2.length ≤ st.2.length + l.length
  | [], st => by simp
  | c :: l, st => by
    have h1 := fold_len l (step st c)
    have h2 := step_len st c
    simp only [List.foldl_cons, List.length_cons]
    omega
theorem r_l_tokens {cs : List Nat} (hl : cs.length ≤ 15000000) : runF (tabP tab) G0 (k + 3) "_law_tokens" [sD cs] m = .ok (.ref m.length) (m ++ [.lst ((toks cs.length cs).map sD)]) := by
  rw [u_l_tokens]
  have h1 : (S cs).length + Str.length (Str.ofString " ") ≤ sizeLine := by
    rw [S_len, sizeLine_eq, show Str.length (Str.ofString " ") = 1 by decide +kernel]; omega
  have hb := both cs.length cs [] (Nat.le_refl _)
  refine wp_eq ?_
  simp [c_l_tokens, h1]
  rw [chars_map]
  have hE : Str.ofString "" = S [] := by decide +kernel
  refine for_wpL (IL cs m) ⟨none, by simp [hE], by simp⟩ (fun _ _ _ _ => by simp) ?_ ?_
  · rintro done c σ m' hc hpre ⟨x, rfl, rfl⟩
    have hdl : done.length ≤ cs.length := by have := hpre.length_le; simp at this; omega
    have hfl := fold_len done ([], [])
    simp at hfl
    generalize hst : done.foldl step ([], []) = st at *
    obtain ⟨found, held⟩ := st
    simp only at hfl
    have hg := r_goes (k := k) (m := m ++ [.lst (found.map sD)]) (h := held) (c := c) (by omega)
    have hadd : (S held).length + Str.length ⟨#[c]⟩ ≤ sizeLine := by rw [S_len, sizeLine_eq]; simp [Str.length]; omega
    have happ : S held ++ (⟨#[c]⟩ : Str) = S (held ++ [c]) := S_app (b := [c])
    have hsz : found.length < sizeLine := by rw [sizeLine_eq]; omega
    have hnext : (done ++ [c]).foldl step ([], []) = step (found, held) c := by rw [List.foldl_append, hst]; rfl
    by_cases hgo : goes held c = true
    · simp [hg, hgo, hadd, happ]
      exact ⟨_, by rw [hnext]; simp [step, hgo]; rfl, by rw [hnext]; simp [step, hgo]⟩
    · have hgo' : goes held c = false := by simpa using hgo
      by_cases h0 : held = []
      · subst h0
        by_cases hb : bl c = true
        · have hm := bl_in.mpr hb
          simp [hg, hgo', hE, in_one, hm]
          exact ⟨_, by rw [hnext]; simp [step, hgo', hb]; rfl, by rw [hnext]; simp [step, hgo']⟩
        · have hm : ¬ c ∈ (Str.ofString " \n").cps := fun q => hb (bl_in.mp q)
          simp [hg, hgo', hE, in_one, hm]
          exact ⟨_, by rw [hnext]; simp [step, hgo', hb]; exact ⟨rfl, rfl⟩, by rw [hnext]; simp [step, hgo']⟩
      · have e : ¬ S held = S [] := fun q => h0 (S_inj.mp q)
        by_cases hb : bl c = true
        · have hm := bl_in.mpr hb
          simp [hg, hgo', hE, in_one, hm, e, hsz]
          exact ⟨_, by rw [hnext]; simp [step, hgo', hb]; rfl, by rw [hnext]; simp [step, hgo', h0]⟩
        · have hm : ¬ c ∈ (Str.ofString " \n").cps := fun q => hb (bl_in.mp q)
          simp [hg, hgo', hE, in_one, hm, e, hsz]
          exact ⟨_, by rw [hnext]; simp [step, hgo', hb]; exact ⟨rfl, rfl⟩, by rw [hnext]; simp [step, hgo', h0]⟩
  · rintro σ m' ⟨x, rfl, rfl⟩
    rw [hb]
    simp
end
end PC.K04

namespace PC.K04
open PySem L2 Classical
section
variable {k : Nat} {m : Mem}
theorem py_ref {α : Type} [E : Enc α] {n : Nat} {xs : List α} {m : Mem} (h : m[n]? = some (.lst (xs.map E.enc))) : pyOf m (.ref n) = some (.list (xs.map E.py)) := by
  show pyR m 20 n = _
  simp only [pyR, h, pyDs_enc, Option.map_some]
theorem eq_refs {α : Type} [E : Enc α] {a b : Nat} {xs ys : List α} {m : Mem} [Decidable (xs = ys)] (h1 : m[a]? = some (.lst (xs.map E.enc))) (h2 : m[b]? = some (.lst (ys.map E.enc))) (h : E.dp + 1 ≤ 150 := by decide) :
    eqD m (.ref a) (.ref b) = some (decide (xs = ys)) := by
  unfold eqD
  rw [py_ref h1, py_ref h2]
  have hd : min (PyData.list (xs.map E.py)).depth (PyData.list (ys.map E.py)).depth ≤ 150 := by
    refine Nat.le_trans (Nat.min_le_left _ _) (Nat.le_trans ?_ h)
    simp only [PyData.depth]
    exact Nat.add_le_add_right (depAll_enc xs) 1
  simp only [if_lo hd]
  congr 1
  refine bool_dec ?_
  simp only [PyData.eqv, eqvAll_enc]
theorem r_told {cs : List Nat} (hl : cs.length ≤ 15000000) : runF (tabP tab) G0 (k + 4) "_law_is_told" [sD cs] m = .ok (.bool true) m := by
  rw [u_l_is_told]
  have h1 := r_tokens_of (k := k + 1) (m := m) (cs := cs) (by omega)
  have h2 := r_l_tokens (k := k) (m := m ++ [.lst ((toks cs.length cs).map sD)]) hl
  have hlen := toks_len cs.length cs
  simp only [List.length_append, List.length_singleton, List.append_assoc, List.singleton_append] at h2
  have heq : eqD (m ++ [MO.lst ((toks cs.length cs).map sD), MO.lst ((toks cs.length cs).map sD)]) (.ref m.length) (.ref (m.length + 1)) = some true := by
    have := eq_refs (a := m.length) (b := m.length + 1) (xs := (toks cs.length cs).map S) (ys := (toks cs.length cs).map S) (m := m ++ [MO.lst ((toks cs.length cs).map sD), MO.lst ((toks cs.length cs).map sD)]) (by simp; exact fun _ _ => rfl) (by simp; exact fun _ _ => rfl)
    rw [this]; simp
  simp [c_l_is_told, h1]
  rw [comp_mapL (f := fun _ => .bool true) (fun i hi acc => by simp) (by rw [sizeLine_eq]; omega)]
  simp [h2, heq]
end
end PC.K04

namespace PC.K04
open PySem L2 Classical
section
variable {k : Nat} {m : Mem}
theorem drawG : DrawG (runF (tabP tab) G0 (k + 1)) := fun n s r h1 h2 => by
  rw [u_l_draw]
  exact draw_ok h1 h2
/-- some text of at most n signs -/
def Txt1 (s : DS) (r : Mem) (n : Nat) (d : PC.D) (m : Mem) : Prop := ∃ (cs : List Nat) (s' : DS), d = sD cs ∧ cs.length ≤ n ∧ s'.xs = s.xs ∧ m = s'.mem r
theorem Txt1.le {s : DS} {r : Mem} {n n' : Nat} {d : PC.D} {m : Mem} (h : Txt1 s r n d m) (hn : n ≤ n') : Txt1 s r n' d m := by
  obtain ⟨cs, s', h1, h2, h3, h4⟩ := h
  exact ⟨cs, s', h1, by omega, h3, h4⟩
theorem r_pickS {s : DS} {r : Mem} {z : Str} (h0 : 0 < z.length) (h1 : z.length ≤ 1000) : (runF (tabP tab) G0 (k + 2) "_law_pick" [.ref 1, .str z] (s.mem r)).wp (Txt1 s r 1) := by
  rw [u_l_pick]
  have hz : z.length ≤ sizeLine := by rw [sizeLine_eq]; omega
  obtain ⟨d, m, e, j, s', rfl, hj, hx, rfl⟩ := wp_ex_eq (drawG (k := k) z.length s r h0 (by omega))
  have hl : z.cps.toList.length = z.length := by simp [Str.length]
  have e2 : z.cps.toList[j]? = some (z.cps.toList[j]'(by omega)) := List.getElem?_eq_getElem _
  generalize z.cps.toList[j]'(by omega) = c at e2
  have hix : idxD (.str z) (.int (j : Nat)) (s'.mem r) = .ok (.str ⟨#[c]⟩) (s'.mem r) := idx_str hz (by rw [atI_natC, e2])
  simp [cPick, len_str hz, e, hix, hx]
  exact ⟨[c], s', rfl, by simp, hx, rfl⟩
theorem r_pickL {s : DS} {r : Mem} {j n : Nat} {ys : List (List Nat)} (hr : r[j]? = some (.lst (ys.map sD))) (h0 : 0 < ys.length) (h1 : ys.length < 1000) (hn : ∀ y ∈ ys, y.length ≤ n) :
    (runF (tabP tab) G0 (k + 2) "_law_pick" [.ref 1, .ref (j + 2)] (s.mem r)).wp (Txt1 s r n) := by
  rw [u_l_pick]
  refine (pick_ok (ys := ys.map sD) drawG (fun s' => by simp [hr]) (by simpa using h0) (by simp; omega) (by simp)).imp ?_
  rintro d m ⟨i, s', hi, hx, rfl⟩
  rw [List.getElem?_map] at hi
  cases e : ys[i]? with
  | none => rw [e] at hi; simp at hi
  | some y =>
    rw [e] at hi; simp at hi
    exact ⟨y, s', hi.symm, hn y (List.mem_of_getElem? e), hx, rfl⟩
end
end PC.K04

namespace PC.K04
open PySem L2 Classical
section
variable {k : Nat} {m : Mem}
theorem txt_gc {s s1 : DS} {r : Mem} {n : Nat} {d : PC.D} {m : Mem} (hx : s1.xs = s.xs) (h : Txt1 s1 r n d m) : (gcD (s.mem r) d m).wp (Txt1 s r n) := by
  obtain ⟨cs, s', rfl, hl, hx2, rfl⟩ := h
  rw [gc_ds0 (hx2.trans hx) (by simp)]
  exact ⟨cs, s', rfl, hl, hx2.trans hx, rfl⟩
theorem r_sign {s : DS} {r : Mem} {b : Bool} : (runF (tabP tab) G0 (k + 3) "_law_sign" [.ref 1, .bool b] (s.mem r)).wp (Txt1 s r 1) := by
  rw [u_l_sign]
  have l1 : 0 < Str.length (Str.ofString ",;:.@=!<>*&|^+#$'/?_\"\\`") ∧ Str.length (Str.ofString ",;:.@=!<>*&|^+#$'/?_\"\\`") ≤ 1000 := by decide +kernel
  have l2 : Str.length (Str.ofString ",;:.@=!<>*&|^+#$'/?_\"\\`") + Str.length (Str.ofString "(){}[]~-(){}[]") ≤ sizeLine := by decide +kernel
  have l3 : 0 < Str.length (Str.ofString ",;:.@=!<>*&|^+#$'/?_\"\\`" ++ Str.ofString "(){}[]~-(){}[]") ∧ Str.length (Str.ofString ",;:.@=!<>*&|^+#$'/?_\"\\`" ++ Str.ofString "(){}[]~-(){}[]") ≤ 1000 := by decide +kernel
  cases b with
  | false =>
    simp [c_l_sign]
    exact (r_pickS (k := k) (s := s) (r := r) l1.1 l1.2).imp fun d m h => txt_gc rfl h
  | true =>
    simp [c_l_sign, opB_addS l2]
    exact (r_pickS (k := k) (s := s) (r := r) l3.1 l3.2).imp fun d m h => txt_gc rfl h
end
end PC.K04

namespace PC.K04
open PySem L2 Classical
section
variable {k : Nat} {m : Mem}
theorem strs_S (parts : List (List Nat)) : strsD (parts.map sD) = some (parts.map S) := by
  induction parts with
  | nil => rfl
  | cons p ps ih => simp only [List.map_cons, strsD, ih, Option.map_some]
theorem mt_joinS {a : List Nat} {n : Nat} {parts : List (List Nat)} {m : Mem} (hn : m[n]? = some (.lst (parts.map sD))) (h : ((parts.map S).map (·.length)).sum + (parts.map S).length * (S a).length ≤ 16777216) :
    mtD .join (.str (S a)) [.ref n] m = .ok (.str (Txt.join (S a) (parts.map S))) m := by
  have e : (seqOf m (.ref n)).bind strsD = some (parts.map S) := by rw [seq_ref hn]; exact strs_S parts
  show (match (seqOf m (.ref n)).bind strsD with | some ys => if Lo ((ys.map Str.length).sum + ys.length * (S a).length ≤ 16777216) then Res.ok (D.str (Txt.join (S a) ys)) m else Res.bad | none => Res.bad) = _
  rw [e]
  exact if_lo h
theorem sum_ones {parts : List (List Nat)} (h : ∀ p ∈ parts, p.length ≤ 1) : ((parts.map S).map (·.length)).sum ≤ parts.length := by
  induction parts with
  | nil => simp
  | cons p ps ih =>
    have h1 := h p (by simp)
    have h2 := ih fun q hq => h q (by simp [hq])
    simp only [List.map_cons, List.sum_cons, List.length_cons, S_len] at h2 ⊢
    omega
theorem join_some {parts : List (List Nat)} (h : ∀ p ∈ parts, p.length ≤ 1) : ∃ cs : List Nat, Txt.join (S []) (parts.map S) = S cs ∧ cs.length ≤ parts.length := by
  refine ⟨(Txt.join (S []) (parts.map S)).cps.toList, S_of.symm, ?_⟩
  have := StrLaws.join_length_le (S []) (parts.map S)
  have h2 := sum_ones h
  have e : (Txt.join (S []) (parts.map S)).cps.toList.length = (Txt.join (S []) (parts.map S)).length := by simp [Str.length]
  rw [e, TL.join_eq]
  simp [S_len] at this h2 ⊢
  omega
end
end PC.K04

namespace PC.K04
open PySem L2 Classical
section
variable {k : Nat} {m : Mem}
def Parts (s : DS) (r : Mem) (n : Nat) (d : PC.D) (m : Mem) : Prop := ∃ (ps : List (List Nat)) (s' : DS), d = .ref (List.length r + 2) ∧ ps.length = n ∧ (∀ p ∈ ps, p.length ≤ 1) ∧ s'.xs = s.xs ∧ m = s'.mem (r ++ [.lst (ps.map sD)])
theorem r_parts {s : DS} {r : Mem} {n : Nat} (hn : n ≤ 1000) {body : PC.D → Mem → Res (Option PC.D)} {z : Str} (h0 : 0 < z.length) (h1 : z.length ≤ 1000)
    (hb : ∀ i m, body (.int (i : Nat)) m = (runF (tabP tab) G0 (k + 2) "_law_pick" [.ref 1, .str z] m).bind fun y m5 => .ok (some y) m5) :
    (compD [] (List.length r + 2) body ((List.range n).map fun i => .int (i : Nat)) (s.mem (r ++ [.lst []]))).wp (Parts s r n) := by
  refine comp_wpL (fun done acc m => ∃ (ps : List (List Nat)) (s' : DS), acc = ps.map sD ∧ ps.length = done.length ∧ (∀ p ∈ ps, p.length ≤ 1) ∧ s'.xs = s.xs ∧ m = s'.mem (r ++ [.lst acc])) ⟨[], s, rfl, rfl, (fun _ h => nomatch h), rfl, rfl⟩ (fun _ _ _ _ => by simp) ?_ ?_
  · rintro done y acc m hy hpre ⟨ps, s1, rfl, hl, hp, hx, rfl⟩
    have hdl : done.length < n := by have := hpre.length_le; simp at this; omega
    obtain ⟨d, m, e, cs, s2, rfl, hc, hx2, rfl⟩ := wp_ex_eq (r_pickS (k := k) (s := s1) (r := r ++ [.lst (ps.map sD)]) h0 h1)
    rw [hb, e]
    simp
    refine ⟨by rw [sizeLine_eq]; omega, ps ++ [cs], by simp, by simp [hl], fun p hq => ?_, s2, hx2.trans hx, rfl⟩
    rcases List.mem_append.mp hq with q | q
    · exact hp p q
    · rw [List.mem_singleton.mp q]; exact hc
  · rintro acc m ⟨ps, s1, rfl, hl, hp, hx, rfl⟩
    exact ⟨ps, s1, rfl, by simpa using hl, hp, hx, rfl⟩
end
end PC.K04

namespace PC.K04
open PySem L2 Classical
section
variable {k : Nat} {m : Mem}
theorem txt_gcJ {s s1 : DS} {r j : Mem} {n : Nat} {cs : List Nat} (hx : s1.xs = s.xs) (h : cs.length ≤ n) : (gcD (s.mem r) (sD cs) (s1.mem (r ++ j))).wp (Txt1 s r n) := by
  rw [gc_ds hx (by simp)]
  exact ⟨cs, s1, rfl, h, hx, rfl⟩
theorem r_piece {s : DS} {r : Mem} {most : Nat} {b : Bool} (h0 : 0 < most) (hm : most ≤ 44) : (runF (tabP tab) G0 (k + 4) "_law_piece" [.ref 1, .int most, .bool b] (s.mem r)).wp (Txt1 s r 500) := by
  rw [u_l_piece]
  obtain ⟨d, m, e, j, s1, rfl, hj, hx, rfl⟩ := wp_ex_eq (drawG (k := k + 2) 7 s r (by omega) (by omega))
  simp at e
  by_cases j3 : j < 3
  · obtain ⟨d, m, e2, j2, s2, rfl, hj2, hx2, rfl⟩ := wp_ex_eq (drawG (k := k + 2) 9 s1 r (by omega) (by omega))
    simp at e2
    have j3' : (j : Int) < 3 := by omega
    simp [c_l_piece, e, j3', e2]
    have hr : (1 : Int) + (j2 : Int) = ((1 + j2 : Nat) : Int) := by omega
    have h62 : 1 + j2 < 2 ^ 62 := by omega
    rw [hr, if_pos (rngOk_nat h62), rng_nat]
    simp only [wp_ok, DS.len, DS.app]
    have hch : 0 < Str.length (Str.ofString "abcdefghijklmnopqrstuvwxyzABCDEFGHIJKLMNOPQRSTUVWXYZ0123456789") ∧ Str.length (Str.ofString "abcdefghijklmnopqrstuvwxyzABCDEFGHIJKLMNOPQRSTUVWXYZ0123456789") ≤ 1000 := by decide +kernel
    refine (r_parts (k := k + 1) (s := s2) (r := r) (n := 1 + j2) (by omega) hch.1 hch.2 (fun i m => by simp [r_chars])).imp ?_
    rintro d m ⟨ps, s3, rfl, hpl, hp1, hx3, rfl⟩
    obtain ⟨cs, ecs, hcs⟩ := join_some hp1
    have hE : Str.ofString "" = S [] := by decide +kernel
    have hj1 := mt_joinS (a := []) (n := List.length r + 2) (parts := ps) (m := s3.mem (r ++ [.lst (ps.map sD)])) (by simp) (by
      have := sum_ones hp1
      simp only [List.length_map, S_len, List.length_nil, Nat.mul_zero, Nat.add_zero] at this ⊢
      omega)
    rw [ecs] at hj1
    obtain ⟨d, m, e4, j4, s4, rfl, hj4, hx4, rfl⟩ := wp_ex_eq (drawG (k := k + 2) most s3 (r ++ [.lst (ps.map sD)]) h0 (by omega))
    rw [hE, hj1]
    have hz : (S cs).length * (1 + (j4 : Int)).toNat < sizeLine := by
      rw [S_len, sizeLine_eq, show (1 + (j4 : Int)).toNat = 1 + j4 by omega]
      have : cs.length * (1 + j4) ≤ 10 * 44 := Nat.mul_le_mul (by omega) (by omega)
      omega
    have hb1 : -(2 ^ 63) ≤ 1 + (j4 : Int) := by omega
    have hb2 : 1 + (j4 : Int) < 2 ^ 31 := by omega
    simp only [wp_ok, e4, opB_add, opB_mulS hb1 hb2 hz]
    have hrep : repS (S cs) (1 + (j4 : Int)) = S (repS (S cs) (1 + (j4 : Int))).cps.toList := S_of.symm
    rw [hrep]
    refine txt_gcJ (hx4.trans (hx3.trans (hx2.trans hx))) ?_
    have hl2 := repS_len (z := S cs) (n := 1 + (j4 : Int))
    have e5 : (repS (S cs) (1 + (j4 : Int))).cps.toList.length = (repS (S cs) (1 + (j4 : Int))).length := by simp [Str.length]
    rw [e5]
    have h440 : (S cs).length * (1 + (j4 : Int)).toNat ≤ 440 := by
      rw [S_len, show (1 + (j4 : Int)).toNat = 1 + j4 by omega]
      exact Nat.mul_le_mul (by omega : cs.length ≤ 10) (by omega : 1 + j4 ≤ 44)
    rcases hl2 with q | q
    · omega
    · rw [q, S_len]; omega
  · have j3' : ¬ (j : Int) < 3 := by omega
    by_cases je : (j : Int) = 3
    · obtain ⟨d, m, e2, j2, s2, rfl, hj2, hx2, rfl⟩ := wp_ex_eq (drawG (k := k + 2) 2 s1 r (by omega) (by omega))
      simp at e2
      simp [c_l_piece, e, je, e2]
      have hr : (2 : Int) + (j2 : Int) = ((2 + j2 : Nat) : Int) := by omega
      have h62 : 2 + j2 < 2 ^ 62 := by omega
      rw [hr, if_pos (rngOk_nat h62), rng_nat]
      simp only [wp_ok, DS.len, DS.app]
      have hch : 0 < Str.length (Str.ofString ".=!<>") ∧ Str.length (Str.ofString ".=!<>") ≤ 1000 := by decide +kernel
      refine (r_parts (k := k + 1) (s := s2) (r := r) (n := 2 + j2) (by omega) hch.1 hch.2 (fun i m => by simp)).imp ?_
      rintro d m ⟨ps, s3, rfl, hpl, hp1, hx3, rfl⟩
      obtain ⟨cs, ecs, hcs⟩ := join_some hp1
      have hE : Str.ofString "" = S [] := by decide +kernel
      have hj1 := mt_joinS (a := []) (n := List.length r + 2) (parts := ps) (m := s3.mem (r ++ [.lst (ps.map sD)])) (by simp) (by
        have := sum_ones hp1
        simp only [List.length_map, S_len, List.length_nil, Nat.mul_zero, Nat.add_zero] at this ⊢
        omega)
      rw [ecs] at hj1
      rw [hE, hj1]
      simp only [wp_ok]
      exact txt_gcJ (hx3.trans (hx2.trans hx)) (by omega)
    · by_cases j4 : (j : Int) = 4
      · simp [c_l_piece, e, j4]
        refine (r_pickL (k := k + 1) (s := s1) (r := r ++ [MO.lst [.str (Str.ofString " "), .str (Str.ofString "\n"), .str (Str.ofString "   "), .str (Str.ofString " \n\n ")]]) (j := List.length r) (n := 4) (ys := [[32], [10], [32, 32, 32], [32, 10, 10, 32]]) (by simp; exact ⟨rfl, rfl, rfl, rfl⟩) (by decide) (by decide) (by decide)).imp ?_
        rintro d m ⟨cs, s2, rfl, hc, hx2, rfl⟩
        rw [gc_ds hx2 (by simp)]
        simp only [wp_ok]
        exact txt_gc (hx2.trans hx) ⟨cs, s2, rfl, by omega, rfl, rfl⟩
      · simp [c_l_piece, e, j3', je, j4]
        exact (r_sign (k := k) (s := s1) (r := r) (b := b)).imp fun d m h => txt_gc hx (h.le (by omega))
end
end PC.K04

namespace PC.K04
open PySem L2 Classical
section
variable {k : Nat} {m : Mem}
def ID (n most : Nat) (b : Bool) (s0 : DS) (r : Mem) (done : List Nat) (σ : Loc) (m : Mem) : Prop :=
  ∃ (cs : List Nat) (s : DS) (x : Option PC.D), σ = [some (.ref 1), some (.int n), some (.int most), some (.bool b), some (sD cs), x] ∧ m = s.mem r ∧ cs.length ≤ 502 * done.length ∧ s.xs = s0.xs
theorem r_text {s : DS} {r : Mem} {n most : Nat} {b : Bool} (hn : n ≤ 400) (h0 : 0 < most) (hm : most ≤ 44) : (runF (tabP tab) G0 (k + 5) "_law_drawn_text" [.ref 1, .int n, .int most, .bool b] (s.mem r)).wp (Txt1 s r 210000) := by
  rw [u_l_drawn_text]
  have h62 : n < 2 ^ 62 := by omega
  have hE : Str.ofString "" = S [] := by decide +kernel
  simp [c_l_drawn_text, h62, rng_nat]
  refine for_wpL (ID n most b s r) ⟨[], s, none, by simp [hE], rfl, by simp, rfl⟩ (fun _ _ _ _ => by simp) ?_ ?_
  · rintro done i σ m hi hpre ⟨cs, s1, x, rfl, rfl, hl, hx⟩
    have hdl : done.length < n := by have := hpre.length_le; simp at this; omega
    obtain ⟨d, m, e1, c2, s2, rfl, hc2, hx2, rfl⟩ := wp_ex_eq (r_piece (k := k) (s := s1) (r := r) (most := most) (b := b) h0 hm)
    obtain ⟨d, m, e2, j, s3, rfl, hj, hx3, rfl⟩ := wp_ex_eq (drawG (k := k + 3) 3 s2 r (by omega) (by omega))
    simp at e2
    have l1 : (S cs).length + (S c2).length ≤ sizeLine := by rw [S_len, S_len, sizeLine_eq]; omega
    have a1 : S cs ++ S c2 = S (cs ++ c2) := S_app
    by_cases j1 : (j : Int) = 1
    · simp [e1, l1, a1, e2, j1]
      refine (r_pickL (k := k + 2) (s := s3) (r := r ++ [MO.lst [.str (Str.ofString " "), .str (Str.ofString "\n"), .str (Str.ofString "  "), .str (Str.ofString "\n ")]]) (j := List.length r) (n := 2) (ys := [[32], [10], [32, 32], [10, 32]]) (by simp; exact ⟨rfl, rfl, rfl, rfl⟩) (by decide) (by decide) (by decide)).imp ?_
      rintro d m ⟨c3, s4, rfl, hc3, hx4, rfl⟩
      rw [gc_ds hx4 (by simp)]
      have l2 : (S (cs ++ c2)).length + (S c3).length ≤ sizeLine := by rw [S_len, S_len, List.length_append, sizeLine_eq]; omega
      have a2 : S (cs ++ c2) ++ S c3 = S (cs ++ c2 ++ c3) := S_app
      simp only [wp_ok, opB_addS l2, a2]
      exact ⟨cs ++ c2 ++ c3, s4, _, rfl, rfl, by simp; omega, hx4.trans (hx3.trans (hx2.trans hx))⟩
    · simp [e1, l1, a1, e2, j1]
      exact ⟨cs ++ c2, s3, _, rfl, rfl, by simp; omega, hx3.trans (hx2.trans hx)⟩
  · rintro σ m ⟨cs, s1, x, rfl, rfl, hl, hx⟩
    simp
    exact txt_gc rfl ⟨cs, s1, rfl, by simp at hl; omega, hx, rfl⟩
end
end PC.K04

namespace PC.K04
open PySem L2 Classical
section
variable {k : Nat} {m : Mem}
theorem gc_nil {d : PC.D} (h : below 0 d = true) : gcD [] d m = .ok d [] := gc_same (m0 := []) (j := m) h
theorem r_law {ns : List Int} (hl : ns.length ≤ 63) : (runF (tabP tab) G0 (k + 10) "law" [.kl (ns.map .int)] []).wp fun d _ => d = .bool true := by
  rw [u_law]
  have e0 : runF (tabP tab) G0 (k + 9) "_law_begin" [.kl (ns.map .int)] [] = .ok (.ref 1) (DS.mem ⟨ns, 0, 0, 7⟩ []) := by
    rw [u_l_begin]; exact begin_ok (by omega)
  obtain ⟨d, m, e1, t, s1, rfl, ht, hx1, rfl⟩ := wp_ex_eq (drawG (k := k + 8) 15 ⟨ns, 0, 0, 7⟩ [] (by omega) (by omega))
  simp at e1
  have rest : ∀ (cs : List Nat) (s : DS), cs.length ≤ 210000 → (dSs (runF (tabP tab) G0 (k + 9)) G0
      (.cons (.asg (.name 4) (.call "_law_drawn_text" (.cons (.var 1) (.cons (.call "_law_draw" (.cons (.var 1) (.cons (.lit (.int 11)) .nil))) (.cons (.lit (.int 1)) (.cons (.lit (.bool true)) .nil)))))) <|
       .cons (.ite (.not (.and (.val (.call "_law_is_told" (.cons (.var 3) .nil))) (.and (.val (.call "_law_is_told" (.cons (.var 4) .nil))) (.val (.call "_law_is_told" (.cons (.var 3) .nil)))))) (.cons (.ret (.lit (.bool false))) .nil) .nil) <|
       .cons (.ret (.gc (.call "_law_is_told" (.cons (.bin .Add (.bin .Add (.var 3) (.gc (.call "_law_pick" (.cons (.var 1) (.cons (.lst (.cons (.lit (.str " ")) (.cons (.lit (.str "\n")) .nil))) .nil))))) (.var 4)) .nil)))) <| .nil)
      [some (.kl (ns.map .int)), some (.ref 1), some (.int t), some (sD cs), none] (s.mem [])).wp (fun _ m => (gcD [] .none m).wp fun d _ => d = .bool true) (fun d m => (gcD [] d m).wp fun d _ => d = .bool true) (fun _ _ => False) (fun _ _ => False) := by
    intro cs s hc
    obtain ⟨d, m, e2, n2, s2, rfl, hn2, hx2, rfl⟩ := wp_ex_eq (drawG (k := k + 8) 11 s [] (by omega) (by omega))
    obtain ⟨d, m, e3, c2, s3, rfl, hc2, hx3, rfl⟩ := wp_ex_eq (r_text (k := k + 4) (s := s2) (r := []) (n := n2) (most := 1) (b := true) (by omega) (by omega) (by omega))
    simp at e2 e3
    have t1 := r_told (k := k + 5) (m := s3.mem []) (cs := cs) (by omega)
    have t2 := r_told (k := k + 5) (m := s3.mem []) (cs := c2) (by omega)
    simp [e2, e3, t1, t2]
    refine (r_pickL (k := k + 7) (s := s3) (r := [MO.lst [.str (Str.ofString " "), .str (Str.ofString "\n")]]) (j := 0) (n := 1) (ys := [[32], [10]]) (by simp; exact ⟨rfl, rfl⟩) (by decide) (by decide) (by decide)).imp ?_
    rintro d m ⟨c3, s4, rfl, hc3, hx4, rfl⟩
    have l1 : (S cs).length + (S c3).length ≤ sizeLine := by rw [S_len, S_len, sizeLine_eq]; omega
    have a1 : S cs ++ S c3 = S (cs ++ c3) := S_app
    have l2 : (S (cs ++ c3)).length + (S c2).length ≤ sizeLine := by rw [S_len, S_len, List.length_append, sizeLine_eq]; omega
    have a2 : S (cs ++ c3) ++ S c2 = S (cs ++ c3 ++ c2) := S_app
    have t3 := r_told (k := k + 5) (m := s4.mem []) (cs := cs ++ c3 ++ c2) (by simp; omega)
    have g1 : gcD (s3.mem []) (sD c3) (s4.mem [MO.lst [.str (Str.ofString " "), .str (Str.ofString "\n")]]) = .ok (sD c3) (s4.mem []) := gc_ds (s := s3) (s' := s4) (r := []) (j := [MO.lst [.str (Str.ofString " "), .str (Str.ofString "\n")]]) hx4 (by simp)
    have g2 : gcD (s3.mem []) (.bool true) (s4.mem []) = .ok (.bool true) (s4.mem []) := gc_ds0 hx4 (by simp)
    rw [g1]
    simp only [wp_ok, opB_addS l1, a1, opB_addS l2, a2, t3, g2]
    rw [gc_nil (by simp)]
    rfl
  have text : ∀ (s : DS) (n most : Nat) (b : Bool), n ≤ 400 → 0 < most → most ≤ 44 → ∃ (cs : List Nat) (s' : DS), runF (tabP tab) G0 (k + 9) "_law_drawn_text" [.ref 1, .int n, .int most, .bool b] (s.mem []) = .ok (sD cs) (s'.mem []) ∧ cs.length ≤ 210000 := by
    intro s n most b hn h0 hm
    obtain ⟨d, m, e3, c2, s3, rfl, hc2, hx3, rfl⟩ := wp_ex_eq (r_text (k := k + 4) (s := s) (r := []) (n := n) (most := most) (b := b) hn h0 hm)
    exact ⟨c2, s3, e3, hc2⟩
  by_cases t7 : (t : Int) = 7
  · obtain ⟨d, m, e2, n, s2, rfl, hn, hx2, rfl⟩ := wp_ex_eq (drawG (k := k + 8) 200 s1 [] (by omega) (by omega))
    obtain ⟨cs, s3, e3, hc⟩ := text s2 (100 + n) 1 false (by omega) (by omega) (by omega)
    have hr : (100 : Int) + (n : Int) = ((100 + n : Nat) : Int) := by omega
    simp at e2 e3
    have := rest cs s3 hc
    simp [c_law, e0, e1, t7, e2, e3] at this ⊢
    exact this
  · by_cases t3 : (t : Int) = 3
    · obtain ⟨d, m, e2, n, s2, rfl, hn, hx2, rfl⟩ := wp_ex_eq (drawG (k := k + 8) 21 s1 [] (by omega) (by omega))
      obtain ⟨cs, s3, e3, hc⟩ := text s2 n 44 true (by omega) (by omega) (by omega)
      simp at e2 e3
      have := rest cs s3 hc
      simp [c_law, e0, e1, t3, e2, e3] at this ⊢
      exact this
    · obtain ⟨d, m, e2, n, s2, rfl, hn, hx2, rfl⟩ := wp_ex_eq (drawG (k := k + 8) 21 s1 [] (by omega) (by omega))
      obtain ⟨cs, s3, e3, hc⟩ := text s2 n 1 true (by omega) (by omega) (by omega)
      simp at e2 e3
      have := rest cs s3 hc
      simp [c_law, e0, e1, t7, t3, e2, e3] at this ⊢
      exact this
end
theorem law_true (ns : List Int) (hl : ns.length ≤ 63) : ∃ m, runF (tabP tab) G0 40 "law" [.kl (ns.map .int)] [] = .ok (.bool true) m := by
  obtain ⟨d, m, e, rfl⟩ := wp_ex_eq (r_law (k := 30) hl)
  exact ⟨m, e⟩
end PC.K04

namespace PC.K04
open PySem L2 Classical
theorem tab_law : (tab.find? fun g => g.name == FD.name f_law) = some f_law := by rfl
section
theorem all_mk {l : PySem.W.OpenLaw} {w : World} {K : PySem.W.Frag} {h : Heap} {mg : Str → Option Value} {fa a_0 a_1 a_2 a_3 a_4 a_5 a_6 a_7 a_8 a_9 a_10 a_11 a_12 : Addr} (X : K.In h) (G : h.Ns mainGlobals mg) (hfa : mg "law" = some (.ref fa))
    {od0 an0 od1 an1 od2 an2 od3 an3 od4 an4 od5 an5 od6 an6 od7 an7 od8 an8 od9 an9 od10 an10 od11 an11 od12 an12 : Option Addr} {sl0 sl1 sl2 sl3 sl4 sl5 sl6 sl7 sl8 sl9 sl10 sl11 sl12 : Array (Option Value)} {oc0 kV0 dc0 pm0 cd0 ct0 oc1 kV1 dc1 pm1 cd1 ct1 oc2 kV2 dc2 pm2 cd2 ct2 oc3 kV3 dc3 pm3 cd3 ct3 oc4 kV4 dc4 pm4 cd4 ct4 oc5 kV5 dc5 pm5 cd5 ct5 oc6 kV6 dc6 pm6 cd6 ct6 oc7 kV7 dc7 pm7 cd7 ct7 oc8 kV8 dc8 pm8 cd8 ct8 oc9 kV9 dc9 pm9 cd9 ct9 oc10 kV10 dc10 pm10 cd10 ct10 oc11 kV11 dc11 pm11 cd11 ct11 oc12 kV12 dc12 pm12 cd12 ct12 : Value} {gt0 : Tok} {gt2 : Tok} {gt3 : Tok} {gt4 : Tok} {gt5 : Tok} {gt6 : Tok} {gt7 : Tok} {ga1 : Addr} {god1 : Option Addr} {gn1 : Nat} {gsl1 : Array (Option Value)}
    (p0 : PySem.W.nsIn K mainGlobals "tokens_of" = some (some (.ref a_0))) (l0 : K.lookup a_0 = some ⟨oc0, od0, .func (PySem.W.fnOf "tokens_of" "tokens_of" (defArgs s_tokens_of) (defBody s_tokens_of) (defScope s_tokens_of) .none kV0 dc0 pm0 an0 cd0 ct0), sl0⟩) (c0 : PySem.W.codeIn K cd0 "tokens_of" = true) (k0 : PySem.W.keepIn K (.ref a_0) = true)
    (p1 : PySem.W.nsIn K mainGlobals "token_size" = some (some (.ref a_1))) (l1 : K.lookup a_1 = some ⟨oc1, od1, .func (PySem.W.fnOf "token_size" "token_size" (defArgs s_token_size) (defBody s_token_size) (defScope s_token_size) .none kV1 dc1 pm1 an1 cd1 ct1), sl1⟩) (c1 : PySem.W.codeIn K cd1 "token_size" = true) (k1 : PySem.W.keepIn K (.ref a_1) = true)
    (p2 : PySem.W.nsIn K mainGlobals "_law_begin" = some (some (.ref a_2))) (l2 : K.lookup a_2 = some ⟨oc2, od2, .func (PySem.W.fnOf "_law_begin" "_law_begin" (defArgs s_l_begin) (defBody s_l_begin) (defScope s_l_begin) .none kV2 dc2 pm2 an2 cd2 ct2), sl2⟩) (c2 : PySem.W.codeIn K cd2 "_law_begin" = true) (k2 : PySem.W.keepIn K (.ref a_2) = true)
    (p3 : PySem.W.nsIn K mainGlobals "_law_draw" = some (some (.ref a_3))) (l3 : K.lookup a_3 = some ⟨oc3, od3, .func (PySem.W.fnOf "_law_draw" "_law_draw" (defArgs s_l_draw) (defBody s_l_draw) (defScope s_l_draw) .none kV3 dc3 pm3 an3 cd3 ct3), sl3⟩) (c3 : PySem.W.codeIn K cd3 "_law_draw" = true) (k3 : PySem.W.keepIn K (.ref a_3) = true)
    (p4 : PySem.W.nsIn K mainGlobals "_law_pick" = some (some (.ref a_4))) (l4 : K.lookup a_4 = some ⟨oc4, od4, .func (PySem.W.fnOf "_law_pick" "_law_pick" (defArgs s_l_pick) (defBody s_l_pick) (defScope s_l_pick) .none kV4 dc4 pm4 an4 cd4 ct4), sl4⟩) (c4 : PySem.W.codeIn K cd4 "_law_pick" = true) (k4 : PySem.W.keepIn K (.ref a_4) = true)
    (p5 : PySem.W.nsIn K mainGlobals "_law_run_chars" = some (some (.ref a_5))) (l5 : K.lookup a_5 = some ⟨oc5, od5, .func (PySem.W.fnOf "_law_run_chars" "_law_run_chars" (defArgs s_l_run_chars) (defBody s_l_run_chars) (defScope s_l_run_chars) .none kV5 dc5 pm5 an5 cd5 ct5), sl5⟩) (c5 : PySem.W.codeIn K cd5 "_law_run_chars" = true) (k5 : PySem.W.keepIn K (.ref a_5) = true)
    (p6 : PySem.W.nsIn K mainGlobals "_law_sign" = some (some (.ref a_6))) (l6 : K.lookup a_6 = some ⟨oc6, od6, .func (PySem.W.fnOf "_law_sign" "_law_sign" (defArgs s_l_sign) (defBody s_l_sign) (defScope s_l_sign) .none kV6 dc6 pm6 an6 cd6 ct6), sl6⟩) (c6 : PySem.W.codeIn K cd6 "_law_sign" = true) (k6 : PySem.W.keepIn K (.ref a_6) = true)
    (p7 : PySem.W.nsIn K mainGlobals "_law_piece" = some (some (.ref a_7))) (l7 : K.lookup a_7 = some ⟨oc7, od7, .func (PySem.W.fnOf "_law_piece" "_law_piece" (defArgs s_l_piece) (defBody s_l_piece) (defScope s_l_piece) .none kV7 dc7 pm7 an7 cd7 ct7), sl7⟩) (c7 : PySem.W.codeIn K cd7 "_law_piece" = true) (k7 : PySem.W.keepIn K (.ref a_7) = true)
    (p8 : PySem.W.nsIn K mainGlobals "_law_drawn_text" = some (some (.ref a_8))) (l8 : K.lookup a_8 = some ⟨oc8, od8, .func (PySem.W.fnOf "_law_drawn_text" "_law_drawn_text" (defArgs s_l_drawn_text) (defBody s_l_drawn_text) (defScope s_l_drawn_text) .none kV8 dc8 pm8 an8 cd8 ct8), sl8⟩) (c8 : PySem.W.codeIn K cd8 "_law_drawn_text" = true) (k8 : PySem.W.keepIn K (.ref a_8) = true)
    (p9 : PySem.W.nsIn K mainGlobals "_law_goes_on" = some (some (.ref a_9))) (l9 : K.lookup a_9 = some ⟨oc9, od9, .func (PySem.W.fnOf "_law_goes_on" "_law_goes_on" (defArgs s_l_goes_on) (defBody s_l_goes_on) (defScope s_l_goes_on) .none kV9 dc9 pm9 an9 cd9 ct9), sl9⟩) (c9 : PySem.W.codeIn K cd9 "_law_goes_on" = true) (k9 : PySem.W.keepIn K (.ref a_9) = true)
    (p10 : PySem.W.nsIn K mainGlobals "_law_tokens" = some (some (.ref a_10))) (l10 : K.lookup a_10 = some ⟨oc10, od10, .func (PySem.W.fnOf "_law_tokens" "_law_tokens" (defArgs s_l_tokens) (defBody s_l_tokens) (defScope s_l_tokens) .none kV10 dc10 pm10 an10 cd10 ct10), sl10⟩) (c10 : PySem.W.codeIn K cd10 "_law_tokens" = true) (k10 : PySem.W.keepIn K (.ref a_10) = true)
    (p11 : PySem.W.nsIn K mainGlobals "_law_is_told" = some (some (.ref a_11))) (l11 : K.lookup a_11 = some ⟨oc11, od11, .func (PySem.W.fnOf "_law_is_told" "_law_is_told" (defArgs s_l_is_told) (defBody s_l_is_told) (defScope s_l_is_told) .none kV11 dc11 pm11 an11 cd11 ct11), sl11⟩) (c11 : PySem.W.codeIn K cd11 "_law_is_told" = true) (k11 : PySem.W.keepIn K (.ref a_11) = true)
    (p12 : PySem.W.nsIn K mainGlobals "law" = some (some (.ref a_12))) (l12 : K.lookup a_12 = some ⟨oc12, od12, .func (PySem.W.fnOf "law" "law" (defArgs s_law) (defBody s_law) (defScope s_law) .none kV12 dc12 pm12 an12 cd12 ct12), sl12⟩) (c12 : PySem.W.codeIn K cd12 "law" = true) (k12 : PySem.W.keepIn K (.ref a_12) = true)
    (z0 : PySem.W.nsIn K mainGlobals "len" = some none)
    (z1 : PySem.W.nsIn K mainGlobals "int" = some none)
    (z2 : PySem.W.nsIn K mainGlobals "abs" = some none)
    (z3 : PySem.W.nsIn K mainGlobals "min" = some none)
    (z4 : PySem.W.nsIn K mainGlobals "max" = some none)
    (z5 : PySem.W.nsIn K mainGlobals "sum" = some none)
    (z6 : PySem.W.nsIn K mainGlobals "all" = some none)
    (z7 : PySem.W.nsIn K mainGlobals "any" = some none)
    (z8 : PySem.W.nsIn K mainGlobals "tuple" = some none)
    (z9 : PySem.W.nsIn K mainGlobals "list" = some none)
    (z10 : PySem.W.nsIn K mainGlobals "isinstance" = some none)
    (z11 : PySem.W.nsIn K mainGlobals "range" = some none)
    (z12 : PySem.W.nsIn K mainGlobals "zip" = some none)
    (z13 : PySem.W.nsIn K mainGlobals "enumerate" = some none)
    (z14 : PySem.W.nsIn K mainGlobals "reversed" = some none)
    (z15 : PySem.W.nsIn K mainGlobals "bool" = some none)
    (z16 : PySem.W.nsIn K mainGlobals "str" = some none)
    (gg1 : PySem.W.nsIn K mainGlobals "DOUBLE" = some (some (Value.ref ga1)))
    (gl1 : K.lookup ga1 = some ⟨.type "tuple", god1, .seq #[(Value.str ".." gt2), (Value.str "==" gt3), (Value.str "!=" gt4), (Value.str "<=" gt5), (Value.str "<<" gt6), (Value.str ">>" gt7)] gn1, gsl1⟩)
    (gg0 : PySem.W.nsIn K mainGlobals "RUN" = some (some (Value.str "abcdefghijklmnopqrstuvwxyzABCDEFGHIJKLMNOPQRSTUVWXYZ0123456789" gt0))) :
    ∃ fd : FuncData, (∀ (s : Shared) (v : Value), BindsTo s fd ⟨[v], []⟩ [("_law_script", v)]) ∧ ∀ base : Heap, K.In base → base.Ns mainGlobals mg → FnOk l.prog w K mg base CX0 40 fa fd ["_law_script"] (spI K 1 (runF (tabP tab) G0 40 "law")) := by
  have e := hfa.symm.trans (PySem.W.mg_of X G p12)
  cases e
  have F0 := fun_mk (st := s_tokens_of) l0 c0 k0
  have B0 := F0.binds (ps := ["text"]) fun _ _ _ _ _ _ us hl => match us, hl with | [_], _ => rfl
  have F1 := fun_mk (st := s_token_size) l1 c1 k1
  have B1 := F1.binds (ps := ["text", "at"]) fun _ _ _ _ _ _ us hl => match us, hl with | [_, _], _ => rfl
  have F2 := fun_mk (st := s_l_begin) l2 c2 k2
  have B2 := F2.binds (ps := ["_law_script"]) fun _ _ _ _ _ _ us hl => match us, hl with | [_], _ => rfl
  have F3 := fun_mk (st := s_l_draw) l3 c3 k3
  have B3 := F3.binds (ps := ["_law_d", "_law_many"]) fun _ _ _ _ _ _ us hl => match us, hl with | [_, _], _ => rfl
  have F4 := fun_mk (st := s_l_pick) l4 c4 k4
  have B4 := F4.binds (ps := ["_law_d", "_law_row"]) fun _ _ _ _ _ _ us hl => match us, hl with | [_, _], _ => rfl
  have F5 := fun_mk (st := s_l_run_chars) l5 c5 k5
  have B5 := F5.binds (ps := []) fun _ _ _ _ _ _ us hl => match us, hl with | [], _ => rfl
  have F6 := fun_mk (st := s_l_sign) l6 c6 k6
  have B6 := F6.binds (ps := ["_law_d", "_law_is_free"]) fun _ _ _ _ _ _ us hl => match us, hl with | [_, _], _ => rfl
  have F7 := fun_mk (st := s_l_piece) l7 c7 k7
  have B7 := F7.binds (ps := ["_law_d", "_law_most", "_law_is_free"]) fun _ _ _ _ _ _ us hl => match us, hl with | [_, _, _], _ => rfl
  have F8 := fun_mk (st := s_l_drawn_text) l8 c8 k8
  have B8 := F8.binds (ps := ["_law_d", "_law_pieces", "_law_most", "_law_is_free"]) fun _ _ _ _ _ _ us hl => match us, hl with | [_, _, _, _], _ => rfl
  have F9 := fun_mk (st := s_l_goes_on) l9 c9 k9
  have B9 := F9.binds (ps := ["_law_held", "_law_char"]) fun _ _ _ _ _ _ us hl => match us, hl with | [_, _], _ => rfl
  have F10 := fun_mk (st := s_l_tokens) l10 c10 k10
  have B10 := F10.binds (ps := ["_law_text"]) fun _ _ _ _ _ _ us hl => match us, hl with | [_], _ => rfl
  have F11 := fun_mk (st := s_l_is_told) l11 c11 k11
  have B11 := F11.binds (ps := ["_law_text"]) fun _ _ _ _ _ _ us hl => match us, hl with | [_], _ => rfl
  have F12 := fun_mk (st := s_law) l12 c12 k12
  have B12 := F12.binds (ps := ["_law_script"]) fun _ _ _ _ _ _ us hl => match us, hl with | [_], _ => rfl
  have hin : ∀ f ∈ tab, InW K mg f := by
    unfold tab
    simp only [List.forall_mem_cons]
    exact ⟨⟨_, _, PySem.W.mg_of X G p0, F0, B0⟩, ⟨_, _, PySem.W.mg_of X G p1, F1, B1⟩, ⟨_, _, PySem.W.mg_of X G p2, F2, B2⟩, ⟨_, _, PySem.W.mg_of X G p3, F3, B3⟩, ⟨_, _, PySem.W.mg_of X G p4, F4, B4⟩, ⟨_, _, PySem.W.mg_of X G p5, F5, B5⟩, ⟨_, _, PySem.W.mg_of X G p6, F6, B6⟩, ⟨_, _, PySem.W.mg_of X G p7, F7, B7⟩, ⟨_, _, PySem.W.mg_of X G p8, F8, B8⟩, ⟨_, _, PySem.W.mg_of X G p9, F9, B9⟩, ⟨_, _, PySem.W.mg_of X G p10, F10, B10⟩, ⟨_, _, PySem.W.mg_of X G p11, F11, B11⟩, ⟨_, _, PySem.W.mg_of X G p12, F12, B12⟩, fun _ h => nomatch h⟩
  have hz : ∀ x ∈ bltN, mg x = none := by
    unfold bltN
    simp only [List.forall_mem_cons]
    exact ⟨PySem.W.mg_none_of X G z0, PySem.W.mg_none_of X G z1, PySem.W.mg_none_of X G z2, PySem.W.mg_none_of X G z3, PySem.W.mg_none_of X G z4, PySem.W.mg_none_of X G z5, PySem.W.mg_none_of X G z6, PySem.W.mg_none_of X G z7, PySem.W.mg_none_of X G z8, PySem.W.mg_none_of X G z9, PySem.W.mg_none_of X G z10, PySem.W.mg_none_of X G z11, PySem.W.mg_none_of X G z12, PySem.W.mg_none_of X G z13, PySem.W.mg_none_of X G z14, PySem.W.mg_none_of X G z15, PySem.W.mg_none_of X G z16, fun _ h => nomatch h⟩
  have hG : ∀ (x : Str) (d : PC.D), G0 x = some d → ∃ u v, mg x = some u ∧ RelV v u ∧ ∀ ρ H, RV K ρ H d v := by
    intro x d h
    unfold G0 at h
    split at h
    · rename_i hx; subst hx; cases h; exact ⟨_, (.str "abcdefghijklmnopqrstuvwxyzABCDEFGHIJKLMNOPQRSTUVWXYZ0123456789"), PySem.W.mg_of X G gg0, ⟨_, rfl⟩, fun ρ H => by simp only [RV, RVs]; first | done | exact rfl⟩
    split at h
    · rename_i hx; subst hx; cases h; exact ⟨_, (.ref ga1), PySem.W.mg_of X G gg1, rfl, fun ρ H => by simp only [RV, RVs]; first | done | exact ⟨ga1, [(.str ".."), (.str "=="), (.str "!="), (.str "<="), (.str "<<"), (.str ">>")], rfl, .inr ⟨_, _, _, gl1, rfl, rfl, (show 6 ≤ sizeLine by decide +kernel), (.cons ⟨_, rfl⟩ (.cons ⟨_, rfl⟩ (.cons ⟨_, rfl⟩ (.cons ⟨_, rfl⟩ (.cons ⟨_, rfl⟩ (.cons ⟨_, rfl⟩ .nil))))))⟩, ⟨_, _, rfl, rfl, ⟨_, _, rfl, rfl, ⟨_, _, rfl, rfl, ⟨_, _, rfl, rfl, ⟨_, _, rfl, rfl, ⟨_, _, rfl, rfl, rfl⟩⟩⟩⟩⟩⟩⟩⟩
    cases h
  exact ⟨PySem.W.fnOf "law" "law" (defArgs s_law) (defBody s_law) (defScope s_law) .none kV12 dc12 pm12 an12 cd12 ct12, fun s v => .of_eq rfl, fun base _ _ => tab_ok tab_all hin hG hz 40 f_law tab_law _ _ F12⟩
end
end PC.K04
open PySem PySem.W PyProof.Rows
set_option maxHeartbeats 0 in
theorem PySem.Challenge.cw_beatfabric_k04_tokens_holds : PySem.Challenge.rw_beatfabric_k04_tokens.Holds := by
  w_on; o_law; k_head; (case hw => w_witness2)
  k_fill
  refine L2.walk_of (l := PySem.Challenge.rw_beatfabric_k04_tokens) (n := 63) (k := 40) (x := "_law_script") (CX := fun _ => L2.CX0) (sp := fun w => PC.spI _ 1 (PC.runF (PC.tabP PC.K04.tab) PC.K04.G0 40 "law")) rfl (by decide) rfl ⟨rfl, by decide, by decide⟩ (fun w h Y => PySem.W.kIn_of Y) ?F (fun _ _ a ns hl hO hS => PC.law_sp hS hO (PC.K04.law_true ns hl)) (fun _ _ _ _ _ h => h)
  case F =>
    intro w mg fa h KX G hmg
    refine' PC.K04.all_mk KX G hmg ?p0 ?l0 ?c0 ?k0 ?p1 ?l1 ?c1 ?k1 ?p2 ?l2 ?c2 ?k2 ?p3 ?l3 ?c3 ?k3 ?p4 ?l4 ?c4 ?k4 ?p5 ?l5 ?c5 ?k5 ?p6 ?l6 ?c6 ?k6 ?p7 ?l7 ?c7 ?k7 ?p8 ?l8 ?c8 ?k8 ?p9 ?l9 ?c9 ?k9 ?p10 ?l10 ?c10 ?k10 ?p11 ?l11 ?c11 ?k11 ?p12 ?l12 ?c12 ?k12 ?z0 ?z1 ?z2 ?z3 ?z4 ?z5 ?z6 ?z7 ?z8 ?z9 ?z10 ?z11 ?z12 ?z13 ?z14 ?z15 ?z16 ?gg1 ?gl1 ?gg0
    (case p0 => k_is); (case l0 => k_is); (case c0 => k_is); (case k0 => k_is)
    (case p1 => k_is); (case l1 => k_is); (case c1 => k_is); (case k1 => k_is)
    (case p2 => k_is); (case l2 => k_is); (case c2 => k_is); (case k2 => k_is)
    (case p3 => k_is); (case l3 => k_is); (case c3 => k_is); (case k3 => k_is)
    (case p4 => k_is); (case l4 => k_is); (case c4 => k_is); (case k4 => k_is)
    (case p5 => k_is); (case l5 => k_is); (case c5 => k_is); (case k5 => k_is)
    (case p6 => k_is); (case l6 => k_is); (case c6 => k_is); (case k6 => k_is)
    (case p7 => k_is); (case l7 => k_is); (case c7 => k_is); (case k7 => k_is)
    (case p8 => k_is); (case l8 => k_is); (case c8 => k_is); (case k8 => k_is)
    (case p9 => k_is); (case l9 => k_is); (case c9 => k_is); (case k9 => k_is)
    (case p10 => k_is); (case l10 => k_is); (case c10 => k_is); (case k10 => k_is)
    (case p11 => k_is); (case l11 => k_is); (case c11 => k_is); (case k11 => k_is)
    (case p12 => k_is); (case l12 => k_is); (case c12 => k_is); (case k12 => k_is)
    (case z0 => k_is); (case z1 => k_is); (case z2 => k_is); (case z3 => k_is); (case z4 => k_is); (case z5 => k_is); (case z6 => k_is); (case z7 => k_is); (case z8 => k_is); (case z9 => k_is); (case z10 => k_is); (case z11 => k_is); (case z12 => k_is); (case z13 => k_is); (case z14 => k_is); (case z15 => k_is); (case z16 => k_is)
    (case gg1 => k_is)
    (case gl1 => k_is)
    (case gg0 => k_is)

