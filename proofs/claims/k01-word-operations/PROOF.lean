import PyProof.Rows.All
import Wide.All
import OpenK.AllK
import Wide.FinOn
import HandS.ForMost
import HandS.ForExc
import HandS.Flow
import HandS.Walk
import HandS.Zip
import HandS.TupAny
import HandS.TupMul
import HandS.Style
import HandS.IsInst
import HandS.Conv
import HandS.Wide
import HandS.WideBits
import KE.DataEq
import PyProof.StrOps2
import HandS.More
import HandS.Deep
import KE.GoesEnum
import KE.GoesMore
import KE.GoesZip
import HandS.Rev
import HandS.Defaults
import KE.BitLaws
import KE.OsArith
import HandS.Text
import KE.KBits
import PySem.Challenge.RW_beatfabric_k01_word_operations
set_option Elab.async false
set_option linter.all false
set_option maxRecDepth 100000
set_option maxHeartbeats 7654321
/-! PCore: plain data, a memory of lists, a small syntax and what it means. -/
namespace PC
open PySem L2
noncomputable section
/-- a side condition; that it holds is never computed -/
def Lo (p : Prop) : Prop := p
instance (p : Prop) : Decidable (Lo p) := Classical.propDecidable _
theorem if_lo {p : Prop} {α : Sort _} {a b : α} (h : p) : (if Lo p then a else b) = a := if_pos h

/-- plain data; ref n is the n-th thing of the memory -/
inductive D where
  | none | bool (b : Bool) | int (i : Int) | str (s : Str) | tup (xs : List D) | ref (n : Nat)
  /-- a list that is never written (the script) -/
  | kl (xs : List D)

structure Exc where
  cls : Str
  fs : List (Str × D)

/-- a thing of the memory -/
inductive MO where
  | lst (xs : List D)
  | dk (kvs : List (Key × D))
  | dt (kvs : List (List Key × D))
abbrev Mem := List MO
abbrev Loc := List (Option D)

inductive Res (α : Type) where
  | bad | ok (a : α) (m : Mem) | ex (e : Exc) (m : Mem)
def Res.bind {α β : Type} (r : Res α) (f : α → Mem → Res β) : Res β :=
  match r with
  | .bad => .bad
  | .ok a m => f a m
  | .ex e m => .ex e m
@[simp] theorem Res.ok_bind {α β : Type} (a : α) (m : Mem) (f : α → Mem → Res β) : (Res.ok a m).bind f = f a m := rfl
@[simp] theorem Res.bad_bind {α β : Type} (f : α → Mem → Res β) : (Res.bad : Res α).bind f = .bad := rfl
@[simp] theorem Res.ex_bind {α β : Type} (e : Exc) (m : Mem) (f : α → Mem → Res β) : (Res.ex e m : Res α).bind f = .ex e m := rfl

inductive SR where
  | bad | nx (σ : Loc) (m : Mem) | rt (d : D) (m : Mem) | bk (σ : Loc) (m : Mem) | ct (σ : Loc) (m : Mem) | ex (e : Exc) (σ : Loc) (m : Mem)
def SR.seq (r : SR) (f : Loc → Mem → SR) : SR :=
  match r with
  | .nx σ m => f σ m
  | r => r
@[simp] theorem SR.nx_seq (σ : Loc) (m : Mem) (f : Loc → Mem → SR) : (SR.nx σ m).seq f = f σ m := rfl
@[simp] theorem SR.rt_seq (d : D) (m : Mem) (f : Loc → Mem → SR) : (SR.rt d m).seq f = .rt d m := rfl
@[simp] theorem SR.bk_seq (σ : Loc) (m : Mem) (f : Loc → Mem → SR) : (SR.bk σ m).seq f = .bk σ m := rfl
@[simp] theorem SR.ct_seq (σ : Loc) (m : Mem) (f : Loc → Mem → SR) : (SR.ct σ m).seq f = .ct σ m := rfl
@[simp] theorem SR.bad_seq (f : Loc → Mem → SR) : SR.bad.seq f = .bad := rfl
@[simp] theorem SR.ex_seq (e : Exc) (σ : Loc) (m : Mem) (f : Loc → Mem → SR) : (SR.ex e σ m).seq f = .ex e σ m := rfl
/-- a value, then a statement's end -/
def Res.to {α : Type} (r : Res α) (σ : Loc) (f : α → Mem → SR) : SR :=
  match r with
  | .bad => .bad
  | .ok a m => f a m
  | .ex e m => .ex e σ m
@[simp] theorem Res.ok_to {α : Type} (a : α) (m : Mem) (σ : Loc) (f : α → Mem → SR) : (Res.ok a m).to σ f = f a m := rfl
@[simp] theorem Res.bad_to {α : Type} (σ : Loc) (f : α → Mem → SR) : (Res.bad : Res α).to σ f = .bad := rfl
@[simp] theorem Res.ex_to {α : Type} (e : Exc) (m : Mem) (σ : Loc) (f : α → Mem → SR) : (Res.ex e m : Res α).to σ f = .ex e σ m := rfl

/-! ### the syntax -/
inductive BI where
  | len | int | abs | min2 | max2 | sum | all | any | tuple | list | max1 | min1
inductive MT where
  | append | pop | popAt | extend | bitLength | split | join | insert | reverse | index
mutual
inductive CE where
  | var (i : Nat) | lit (d : D) | glob (x : Str)
  | bin (o : Operator) (a b : CE) | neg (a : CE) | inv (a : CE)
  | cmp (o : CmpOp) (a b : CE) | chain (o o' : CmpOp) (a b c : CE)
  | and (a b : CE) | or (a b : CE) | not (a : CE) | ife (t : CB) (a b : CE)
  | tup (es : CEs) | lst (es : CEs)
  | idx (a i : CE) | slc (a : CE) (lo hi : CO)
  | call (f : Str) (es : CEs) | bi (f : BI) (es : CEs) | isin (e : CE) (T : String) | meth (f : MT) (o : CE) (es : CEs)
  | comp (vs : List Nat) (t : CT) (it : CI) (c : CBO) (e : CE)
  /-- nothing in the text: what is not reached any more is forgotten -/
  | gc (e : CE)
  /-- list(range(..)) -/
  | lrng1 (a : CE) | lrng2 (a b : CE)
inductive CEs where
  | nil | cons (e : CE) (es : CEs)
inductive CO where
  | none | some (e : CE)
inductive CB where
  | and (a b : CB) | or (a b : CB) | not (a : CB) | val (e : CE)
inductive CBO where
  | none | some (t : CB)
inductive CI where
  | plain (e : CE) | rng1 (a : CE) | rng2 (a b : CE) | zip (a b : CE) | enum (a : CE) | rev (a : CE)
inductive CT where
  | name (i : Nat) | tup (ts : CTs) | sub (o i : CE)
inductive CTs where
  | nil | cons (t : CT) (ts : CTs)
end
mutual
inductive CS where
  | asg (t : CT) (e : CE) | aug (i : Nat) (o : Operator) (e : CE) | augS (o i : CE) (p : Operator) (e : CE)
  | expr (e : CE) | ret (e : CE) | retN | pass | brk | cont
  | par3 (i j l : Nat) (a b c : CE)
  | ite (t : CB) (a b : CSs) | whl (t : CB) (b : CSs) | fr (t : CT) (it : CI) (b : CSs)
inductive CSs where
  | nil | cons (s : CS) (ss : CSs)
end

/-! ### operations on data -/
def seqOf (m : Mem) : D → Option (List D)
  | .tup xs => some xs
  | .kl xs => some xs
  | .ref n => match m[n]? with
    | some (.lst xs) => some xs
    | _ => Option.none
  | _ => Option.none
/- data read off -/
mutual
def pyD (f : Nat → Option PyData) : D → Option PyData
  | .none => some .none
  | .bool b => some (.bool b)
  | .int i => some (.int i)
  | .str s => some (.str s)
  | .tup xs => (pyDs f xs).map .tuple
  | .kl xs => (pyDs f xs).map .list
  | .ref n => f n
def pyDs (f : Nat → Option PyData) : List D → Option (List PyData)
  | [] => some []
  | d :: ds => match pyD f d, pyDs f ds with
    | some x, some xs => some (x :: xs)
    | _, _ => Option.none
end
def pyR (m : Mem) : Nat → Nat → Option PyData
  | 0, _ => Option.none
  | k + 1, n => match m[n]? with
    | some (.lst xs) => (pyDs (pyR m k) xs).map .list
    | _ => Option.none
def pyOf (m : Mem) (d : D) : Option PyData := pyD (pyR m 20) d
def eqD (m : Mem) (x y : D) : Option Bool :=
  match pyOf m x, pyOf m y with
  | some a, some b => if Lo (min a.depth b.depth ≤ 150) then some (PyData.eqv a b) else Option.none
  | _, _ => Option.none
/-- is x among ys -/
def inD (m : Mem) (x : D) (ys : List D) : Option Bool :=
  match pyOf m x, pyDs (pyR m 20) ys with
  | some a, some bs => if Lo (PyData.depthAll bs ≤ 150 ∧ a.depth ≤ 150) then some (bs.any fun b => PyData.eqv b a) else Option.none
  | _, _ => Option.none
def truD (m : Mem) : D → Option Bool
  | .none => some false
  | .bool b => some b
  | .int i => some (i != 0)
  | .str s => if Lo (s.length ≤ sizeLine) then some ((s.length : Int) != 0) else Option.none
  | .tup xs => some (!xs.isEmpty)
  | .kl xs => some (!xs.isEmpty)
  | .ref n => match m[n]? with
    | some (.lst xs) => some (!xs.isEmpty)
    | some (.dk kvs) => some (!kvs.isEmpty)
    | _ => Option.none
def newL (xs : List D) (m : Mem) : Res D := .ok (.ref m.length) (m ++ [.lst xs])
/-- a text n times -/
def repS (z : Str) (n : Int) : Str := if n < 1 then Str.empty else if (n == 1 || z.length == 0) = true then z else ⟨(List.replicate n.toNat z.cps).foldl (· ++ ·) #[]⟩
def opB (o : Operator) (x y : D) (m : Mem) : Res D :=
  match o, x, y with
  | .Add, .int i, .int j => .ok (.int (i + j)) m
  | .Add, .int i, .bool b => .ok (.int (i + (if b then 1 else 0))) m
  | .Add, .str a, .str b => if Lo (a.length + b.length ≤ sizeLine) then .ok (.str (a ++ b)) m else .bad
  | .Add, .tup xs, .tup ys => if Lo (xs.length + ys.length ≤ sizeLine) then .ok (.tup (xs ++ ys)) m else .bad
  | .Add, .ref a, .ref b => match m[a]?, m[b]? with
    | some (.lst xs), some (.lst ys) => if Lo (xs.length + ys.length ≤ sizeLine) then newL (xs ++ ys) m else .bad
    | _, _ => .bad
  | .Sub, .int i, .int j => .ok (.int (i - j)) m
  | .Mult, .int i, .int j => if Lo (((-(2 ^ 64) < i ∧ i < 2 ^ 64) ∨ (-(2 ^ 64) < j ∧ j < 2 ^ 64)) ∨ i.natAbs.log2 + j.natAbs.log2 < 1000000) then .ok (.int (i * j)) m else .bad
  | .Mult, .ref a, .int k => match m[a]? with
    | some (.lst xs) => if Lo (-(2 ^ 63) ≤ k ∧ k < 2 ^ 63 ∧ xs.length * k.toNat ≤ sizeLine) then newL (List.replicate k.toNat xs).flatten m else .bad
    | _ => .bad
  | .FloorDiv, .int i, .int j => if Lo (0 < j ∧ j.natAbs.log2 < 9000) then .ok (.int (i / j)) m else .bad
  | .Mod, .int i, .int j => if Lo (0 < j) then .ok (.int (i % j)) m else .bad
  | .Pow, .int i, .int j => if Lo (0 ≤ j ∧ j ≤ 1000000 ∧ i.natAbs < 2 ^ 64) then .ok (.int (i ^ j.toNat)) m else .bad
  | .LShift, .int i, .int j => if Lo (0 ≤ j ∧ j ≤ 1000000 ∧ i.natAbs < 2 ^ 64) then .ok (.int (i * 2 ^ j.toNat)) m else .bad
  | .RShift, .int i, .int j => if Lo (0 ≤ j) then .ok (.int (i / 2 ^ j.toNat)) m else .bad
  | .BitAnd, .int i, .int j => .ok (.int (Builtin.bitAnd i j)) m
  | .BitOr, .int i, .int j => .ok (.int (Builtin.bitOr i j)) m
  | .BitXor, .int i, .int j => .ok (.int (Builtin.bitXor i j)) m
  | .Mult, .str z, .int n => if Lo (-(2 ^ 63) ≤ n ∧ n < 2 ^ 31 ∧ z.length * n.toNat < sizeLine) then .ok (.str (repS z n)) m else .bad
  | _, _, _ => .bad
/-- x op= y for ints -/
def opA (o : Operator) (x y : D) (m : Mem) : Res D :=
  match o, x, y with
  | .Add, .int i, .int j => .ok (.int (i + j)) m
  | .Add, .str a, .str b => if Lo (a.length + b.length ≤ sizeLine) then .ok (.str (a ++ b)) m else .bad
  | .Sub, .int i, .int j => .ok (.int (i - j)) m
  | .BitOr, .int i, .int j => .ok (.int (Builtin.bitOr i j)) m
  | .BitXor, .int i, .int j => .ok (.int (Builtin.bitXor i j)) m
  | _, _, _ => .bad
def ofB (o : Option Bool) (m : Mem) : Res D := match o with | some b => .ok (.bool b) m | Option.none => .bad
def ofNB (o : Option Bool) (m : Mem) : Res D := match o with | some b => .ok (.bool (!b)) m | Option.none => .bad
def opC (o : CmpOp) (x y : D) (m : Mem) : Res D :=
  match o, x, y with
  | .Eq, x, y => ofB (eqD m x y) m
  | .NotEq, x, y => ofNB (eqD m x y) m
  | .Lt, .int i, .int j => .ok (.bool (decide (i < j))) m
  | .LtE, .int i, .int j => .ok (.bool (decide (i ≤ j))) m
  | .Gt, .int i, .int j => .ok (.bool (decide (j < i))) m
  | .GtE, .int i, .int j => .ok (.bool (decide (j ≤ i))) m
  | .Is, .none, .none => .ok (.bool true) m
  | .Is, _, .none => .ok (.bool false) m
  | .IsNot, .none, .none => .ok (.bool false) m
  | .IsNot, _, .none => .ok (.bool true) m
  | .In, .str a, .str b => .ok (.bool (!(Builtin.Str.occurrences b a 0 b.length 1).isEmpty)) m
  | .NotIn, .str a, .str b => .ok (.bool (!(!(Builtin.Str.occurrences b a 0 b.length 1).isEmpty))) m
  | .In, x, y => match seqOf m y with
    | some ys => ofB (inD m x ys) m
    | Option.none => .bad
  | .NotIn, x, y => match seqOf m y with
    | some ys => ofNB (inD m x ys) m
    | Option.none => .bad
  | _, _, _ => .bad
def idxD (a i : D) (m : Mem) : Res D :=
  match a, i with
  | .str s, .int k => if Lo (s.length ≤ sizeLine) then (match atI s.cps.toList k with | some c => .ok (.str ⟨#[c]⟩) m | Option.none => .bad) else .bad
  | a, .int k => match seqOf m a with
    | some xs => match atI xs k with | some d => .ok d m | Option.none => .bad
    | Option.none => .bad
  | _, _ => .bad
def sIx (n d : Nat) : Option Int → Nat := HT.sIx n d
def cutD {α : Type} (xs : List α) (lo hi : Option Int) : List α := (xs.drop (HT.sIx xs.length 0 lo)).take (HT.sIx xs.length xs.length hi - HT.sIx xs.length 0 lo)
def slcD (a : D) (lo hi : Option Int) (m : Mem) : Res D :=
  match a with
  | .tup xs => .ok (.tup (cutD xs lo hi)) m
  | .str z => if Lo (z.length ≤ sizeLine) then .ok (.str (cutS z lo hi)) m else .bad
  | .kl xs => newL (cutD xs lo hi) m
  | .ref n => match seqOf m (.ref n) with
    | some xs => newL (cutD xs lo hi) m
    | Option.none => .bad
  | _ => .bad
def intsD : List D → Option (List Int)
  | [] => some []
  | .int i :: r => (intsD r).map (i :: ·)
  | _ => Option.none
def strsD : List D → Option (List Str)
  | [] => some []
  | .str i :: r => (strsD r).map (i :: ·)
  | _ => Option.none
def boolsD : List D → Option (List Bool)
  | [] => some []
  | .bool i :: r => (boolsD r).map (i :: ·)
  | _ => Option.none
/-- the ints of a list or tuple -/
def lintsD (m : Mem) (d : D) : Option (List Int) := (seqOf m d).bind intsD
def lboolsD (m : Mem) (d : D) : Option (List Bool) := (seqOf m d).bind boolsD
def maxL : List Int → Int
  | [] => 0
  | [x] => x
  | x :: y :: r => if maxL (y :: r) ≤ x then x else maxL (y :: r)
def minL : List Int → Int
  | [] => 0
  | [x] => x
  | x :: y :: r => if x ≤ minL (y :: r) then x else minL (y :: r)
def lenD (m : Mem) : D → Option Nat
  | .str s => if Lo (s.length ≤ sizeLine) then some s.length else Option.none
  | d => (seqOf m d).map List.length
def biD (f : BI) (ds : List D) (m : Mem) : Res D :=
  match f, ds with
  | .len, [d] => match lenD m d with | some n => .ok (.int n) m | Option.none => .bad
  | .int, [.int i] => .ok (.int i) m
  | .int, [.bool b] => .ok (.int (if b then 1 else 0)) m
  | .abs, [.int i] => .ok (.int (if i < 0 then -i else i)) m
  | .min2, [.int i, .int j] => .ok (.int (if j < i then j else i)) m
  | .max2, [.int i, .int j] => .ok (.int (if j > i then j else i)) m
  | .sum, [d] => match lintsD m d with | some ns => .ok (.int ns.sum) m | Option.none => .bad
  | .max1, [.ref d] => match lintsD m (.ref d) with | some ns => if ns = [] then .bad else .ok (.int (maxL ns)) m | Option.none => .bad
  | .min1, [.ref d] => match lintsD m (.ref d) with | some ns => if ns = [] then .bad else .ok (.int (minL ns)) m | Option.none => .bad
  | .all, [d] => match lboolsD m d with | some ns => .ok (.bool (ns.all id)) m | Option.none => .bad
  | .any, [d] => match lboolsD m d with | some ns => .ok (.bool (ns.any id)) m | Option.none => .bad
  | .tuple, [d] => match seqOf m d with | some xs => .ok (.tup xs) m | Option.none => .bad
  | .list, [d] => match seqOf m d with | some xs => newL xs m | Option.none => .bad
  | _, _ => .bad
def isinD (m : Mem) (T : String) : D → Option Bool
  | .none => some false
  | .bool _ => some (T == "int" || T == "bool")
  | .int _ => some (T == "int")
  | .str _ => some (T == "str")
  | .tup _ => some (T == "tuple")
  | .kl _ => some (T == "list")
  | .ref n => match m[n]? with
    | some (.lst _) => some (T == "list")
    | _ => Option.none
def setL (m : Mem) (n : Nat) (xs : List D) : Mem := m.set n (.lst xs)
/-- the place of the first thing that equals x -/
def findD (m : Mem) (x : D) : List D → Option (Option Nat)
  | [] => some Option.none
  | y :: ys => match eqD m y x with
    | some true => some (some 0)
    | some false => (findD m x ys).map (Option.map (· + 1))
    | Option.none => Option.none
abbrev bitLen (i : Int) : Nat := Builtin.Int.intBits i
def mtD (f : MT) (o : D) (ds : List D) (m : Mem) : Res D :=
  match f, o, ds with
  | .append, .ref n, [d] => match m[n]? with
    | some (.lst xs) => if Lo (xs.length < sizeLine) then .ok .none (m.set n (.lst (xs ++ [d]))) else .bad
    | _ => .bad
  | .extend, .ref n, [.ref k] => match m[n]?, m[k]? with
    | some (.lst xs), some (.lst ys) => if Lo (xs.length + ys.length ≤ sizeLine) then .ok .none (m.set n (.lst (xs ++ ys))) else .bad
    | _, _ => .bad
  | .pop, .ref n, [] => match m[n]? with
    | some (.lst xs) => match xs[xs.length - 1]? with
      | some d => .ok d (m.set n (.lst xs.dropLast))
      | Option.none => .bad
    | _ => .bad
  | .popAt, .ref n, [.int i] => match m[n]? with
    | some (.lst xs) => if Lo (-(2 ^ 63) ≤ i ∧ i < 2 ^ 63) then (match ixN xs.length i with
      | some k => match xs[k]? with | some d => .ok d (m.set n (.lst (xs.eraseIdx k))) | Option.none => .bad
      | Option.none => .bad) else .bad
    | _ => .bad
  | .bitLength, .int i, [] => .ok (.int (bitLen i)) m
  | .split, .str a, [.str b] => if Lo (b.length ≠ 0 ∧ a.length + 2 ≤ sizeLine) then newL ((Txt.split a b).map .str) m else .bad
  | .join, .str a, [d] => match (seqOf m d).bind strsD with
    | some ys => if Lo ((ys.map (·.length)).sum + ys.length * a.length ≤ 16777216) then .ok (.str (Txt.join a ys)) m else .bad
    | Option.none => .bad
  | .insert, .ref n, [.int i, d] => match m[n]? with
    | some (.lst xs) => if Lo (xs.length < sizeLine ∧ 0 ≤ i ∧ i < 2 ^ 63) then .ok .none (m.set n (.lst (xs.take i.toNat ++ [d] ++ xs.drop i.toNat))) else .bad
    | _ => .bad
  | .reverse, .ref n, [] => match m[n]? with
    | some (.lst xs) => .ok .none (m.set n (.lst xs.reverse))
    | _ => .bad
  | .index, .ref n, [d] => match pyOf m (.ref n), pyOf m d with
    | some (.list ds), some z => if Lo (SeqAt.shaped (.list ds) = true ∧ SeqAt.shaped z = true) then (match ds.findIdx? (fun y => PyData.eqv y z) with
      | some j => .ok (.int (j : Nat)) m
      | Option.none => .bad) else .bad
    | _, _ => .bad
  | _, _, _ => .bad
/-- x[i] ahead of x[i] op= e -/
def getD (a i : D) (m : Mem) : Res D :=
  match a, i with
  | .ref n, .int k => match m[n]? with
    | some (.lst xs) => if Lo (0 ≤ k ∧ k < 2 ^ 63) then (match xs[k.toNat]? with | some d => .ok d m | Option.none => .bad) else .bad
    | _ => .bad
  | _, _ => .bad
/-- what a method's receiver must be, ahead of the arguments -/
def mtPre (f : MT) (x : D) (m : Mem) : Bool :=
  match f, x with
  | .bitLength, .int _ => true
  | .bitLength, _ => false
  | .split, .str _ => true
  | .split, _ => false
  | .join, .str _ => true
  | .join, _ => false
  | _, .ref n => match m[n]? with | some (.lst _) => true | _ => false
  | _, _ => false
/-- o[i] = v -/
def putD (o i v : D) (m : Mem) : Option Mem :=
  match o, i with
  | .ref n, .int k => match m[n]? with
    | some (.lst xs) => match ixN xs.length k with
      | some j => some (m.set n (.lst (xs.set j v)))
      | Option.none => Option.none
    | _ => Option.none
  | _, _ => Option.none
end
end PC

namespace PC
open PySem L2 Classical

mutual
def below (n : Nat) : D → Bool
  | .none => true
  | .bool _ => true
  | .int _ => true
  | .str _ => true
  | .tup xs => belows n xs
  | .kl xs => belows n xs
  | .ref k => decide (k < n)
def belows (n : Nat) : List D → Bool
  | [] => true
  | d :: ds => below n d && belows n ds
end
def MO.below (n : Nat) : MO → Bool
  | .lst xs => belows n xs
  | .dk kvs => belows n (kvs.map (·.2))
  | .dt kvs => belows n (kvs.map (·.2))
/-- what stood ahead stands (or speaks of what stood ahead alone) -/
def oldOk (m0 m : Mem) : Prop := m0.length ≤ m.length ∧ ∀ i, i < m0.length → m[i]? = m0[i]? ∨ ∃ o, m[i]? = some o ∧ o.below m0.length = true
/-- forget what is not reached any more -/
noncomputable def gcD (m0 : Mem) (d : D) (m : Mem) : Res D :=
  if oldOk m0 m then
    if below m0.length d = true then .ok d (m.take m0.length)
    else match d with
      | .ref j => match m[j]? with
        | some o => if o.below m0.length = true then .ok (.ref m0.length) (m.take m0.length ++ [o]) else .ok d m
        | Option.none => .ok d m
      | d => .ok d m
  else .ok d m
def guardOk (gs : List (Nat × List D)) (m : Mem) : Prop := ∀ p ∈ gs, m[p.1]? = some (.lst p.2)
def wipeL (σ : Loc) : List Nat → Loc
  | [] => σ
  | v :: vs => (wipeL σ vs).set v none
noncomputable def forD (gs : List (Nat × List D)) (body : D → Loc → Mem → SR) : List D → Loc → Mem → SR
  | [], σ, m => if guardOk gs m then .nx σ m else .bad
  | x :: xs, σ, m => if guardOk gs m then
      match body x σ m with
      | .nx σ' m' => forD gs body xs σ' m'
      | .ct σ' m' => forD gs body xs σ' m'
      | .bk σ' m' => .nx σ' m'
      | .rt d m' => .rt d m'
      | .ex e σ' m' => .ex e σ' m'
      | .bad => .bad
    else .bad
noncomputable def compD (gs : List (Nat × List D)) (n : Nat) (body : D → Mem → Res (Option D)) : List D → Mem → Res D
  | [], m => if guardOk gs m then .ok (.ref n) m else .bad
  | x :: xs, m => if guardOk gs m then
      (body x m).bind fun o m1 => match o with
        | none => compD gs n body xs m1
        | some y => match m1[n]? with
          | some (.lst acc) => if Lo (acc.length < sizeLine) then compD gs n body xs (m1.set n (.lst (acc ++ [y]))) else .bad
          | _ => .bad
    else .bad
def whileN (c : Loc → Mem → Res Bool) (b : Loc → Mem → SR) : Nat → Loc → Mem → SR
  | 0, _, _ => .bad
  | k + 1, σ, m => (c σ m).to σ fun t m1 =>
      match t with
      | false => .nx σ m1
      | true => match b σ m1 with
        | .nx σ' m' => whileN c b k σ' m'
        | .ct σ' m' => whileN c b k σ' m'
        | .bk σ' m' => .nx σ' m'
        | .rt d m' => .rt d m'
        | .ex e σ' m' => .ex e σ' m'
        | .bad => .bad
noncomputable def whileD (c : Loc → Mem → Res Bool) (b : Loc → Mem → SR) (σ : Loc) (m : Mem) : SR :=
  if h : ∃ k, whileN c b k σ m ≠ .bad then whileN c b (choose h) σ m else .bad
mutual
def tgtHas : CT → Nat → Bool
  | .name i, j => i == j
  | .tup ts, j => tgtsHas ts j
  | .sub _ _, _ => false
def tgtsHas : CTs → Nat → Bool
  | .nil, _ => false
  | .cons t ts, j => tgtHas t j || tgtsHas ts j
end
mutual
def tgtIn (vs : List Nat) : CT → Bool
  | .name i => vs.contains i
  | .tup ts => tgtsIn vs ts
  | .sub _ _ => false
def tgtsIn (vs : List Nat) : CTs → Bool
  | .nil => true
  | .cons t ts => tgtIn vs t && tgtsIn vs ts
end
/-- what is walked: the things, and the lists that must not change meanwhile -/
def iterD (m : Mem) : D → Option (List D × List (Nat × List D))
  | .tup xs => some (xs, [])
  | .kl xs => some (xs, [])
  | .str s => some (s.cps.toList.map fun c => .str ⟨#[c]⟩, [])
  | .ref n => match m[n]? with
    | some (.lst xs) => some (xs, [(n, xs)])
    | _ => none
  | _ => none
/-- .. a list or a tuple -/
def iterS (m : Mem) : D → Option (List D × List (Nat × List D))
  | .tup xs => some (xs, [])
  | .kl xs => some (xs, [])
  | .ref n => match m[n]? with
    | some (.lst xs) => some (xs, [(n, xs)])
    | _ => none
  | _ => none
abbrev Itr := List D × List (Nat × List D)
def rngD (lo hi : Int) : List D := (List.range (hi - lo).toNat).map fun i => .int (lo + (i : Nat))
def rngOk (i : Int) : Prop := -(2 ^ 62) ≤ i ∧ i < 2 ^ 62
noncomputable instance (i : Int) : Decidable (rngOk i) := Classical.propDecidable _
def enumD (xs : List D) : List D := xs.zipIdx.map fun p => .tup [.int (p.2 : Nat), p.1]
def zipD (xs ys : List D) : List D := (xs.zip ys).map fun p => .tup [p.1, p.2]

noncomputable def truR (x : D) (m : Mem) : Res Bool := match truD m x with | some t => .ok t m | none => .bad
abbrev Fn := Str → List D → Mem → Res D
section
variable (Γ : Fn) (G : Str → Option D)
mutual
noncomputable def dE : CE → Loc → Mem → Res D
  | .var i, σ, m => match σ[i]? with | some (some d) => .ok d m | _ => .bad
  | .lit d, _, m => .ok d m
  | .glob x, _, m => match G x with | some d => .ok d m | none => .bad
  | .bin o a b, σ, m => (dE a σ m).bind fun x m1 => (dE b σ m1).bind fun y m2 => opB o x y m2
  | .neg a, σ, m => (dE a σ m).bind fun x m1 => match x with | .int i => .ok (.int (-i)) m1 | _ => .bad
  | .inv a, σ, m => (dE a σ m).bind fun x m1 => match x with | .int i => .ok (.int (Builtin.bitNot i)) m1 | _ => .bad
  | .cmp o a b, σ, m => (dE a σ m).bind fun x m1 => (dE b σ m1).bind fun y m2 => opC o x y m2
  | .chain o o' a b c, σ, m => (dE a σ m).bind fun x m1 => (dE b σ m1).bind fun y m2 => (opC o x y m2).bind fun z m3 =>
      match z with
      | .bool true => (dE c σ m3).bind fun w m4 => opC o' y w m4
      | .bool false => .ok (.bool false) m3
      | _ => .bad
  | .and a b, σ, m => (dE a σ m).bind fun x m1 => match truD m1 x with
      | some true => dE b σ m1
      | some false => .ok x m1
      | none => .bad
  | .or a b, σ, m => (dE a σ m).bind fun x m1 => match truD m1 x with
      | some true => .ok x m1
      | some false => dE b σ m1
      | none => .bad
  | .not a, σ, m => (dE a σ m).bind fun x m1 => ofNB (truD m1 x) m1
  | .ife t a b, σ, m => (dB t σ m).bind fun c m1 => if c = true then dE a σ m1 else dE b σ m1
  | .tup es, σ, m => (dEs es σ m).bind fun xs m1 => .ok (.tup xs) m1
  | .lst es, σ, m => (dEs es σ m).bind fun xs m1 => newL xs m1
  | .idx a i, σ, m => (dE a σ m).bind fun x m1 => (dE i σ m1).bind fun y m2 => idxD x y m2
  | .slc a lo hi, σ, m => (dE a σ m).bind fun x m1 => (dO lo σ m1).bind fun l m2 => (dO hi σ m2).bind fun h m3 => slcD x l h m3
  | .call f es, σ, m => (dEs es σ m).bind fun xs m1 => Γ f xs m1
  | .bi f es, σ, m => (dEs es σ m).bind fun xs m1 => biD f xs m1
  | .isin e T, σ, m => (dE e σ m).bind fun x m1 => ofB (isinD m1 T x) m1
  | .meth f o es, σ, m => (dE o σ m).bind fun x m1 => if mtPre f x m1 = true then (dEs es σ m1).bind fun xs m2 => mtD f x xs m2 else .bad
  | .comp vs t it c e, σ, m => (dI it σ m).bind fun p m1 =>
      compD p.2 m1.length (fun x m2 => (dT t x (wipeL σ vs) m2).bind fun σ2 m3 => (dBO c σ2 m3).bind fun b m4 =>
        if b = true then (dE e σ2 m4).bind fun y m5 => .ok (some y) m5 else .ok none m4) p.1 (m1 ++ [.lst []])
  | .gc e, σ, m => (dE e σ m).bind fun d m1 => gcD m d m1
  | .lrng1 a, σ, m => (dE a σ m).bind fun x m1 => match x with | .int j => if Lo (0 ≤ j ∧ j ≤ 16777216) then newL (rngD 0 j) m1 else .bad | _ => .bad
  | .lrng2 a b, σ, m => (dE a σ m).bind fun x m1 => (dE b σ m1).bind fun y m2 => match x, y with
      | .int i, .int j => if Lo (0 ≤ i ∧ i ≤ 16777216 ∧ 0 ≤ j ∧ j ≤ 16777216) then newL (rngD i j) m2 else .bad
      | _, _ => .bad
noncomputable def dEs : CEs → Loc → Mem → Res (List D)
  | .nil, _, m => .ok [] m
  | .cons e es, σ, m => (dE e σ m).bind fun x m1 => (dEs es σ m1).bind fun xs m2 => .ok (x :: xs) m2
noncomputable def dO : CO → Loc → Mem → Res (Option Int)
  | .none, _, m => .ok none m
  | .some e, σ, m => (dE e σ m).bind fun x m1 => match x with | .int i => .ok (some i) m1 | _ => .bad
noncomputable def dB : CB → Loc → Mem → Res Bool
  | .and a b, σ, m => (dB a σ m).bind fun t m1 => if t = true then dB b σ m1 else .ok false m1
  | .or a b, σ, m => (dB a σ m).bind fun t m1 => if t = true then .ok true m1 else dB b σ m1
  | .not a, σ, m => (dB a σ m).bind fun t m1 => .ok (!t) m1
  | .val e, σ, m => (dE e σ m).bind truR
noncomputable def dBO : CBO → Loc → Mem → Res Bool
  | .none, _, m => .ok true m
  | .some t, σ, m => dB t σ m
noncomputable def dI : CI → Loc → Mem → Res Itr
  | .plain e, σ, m => (dE e σ m).bind fun x m1 => match iterD m1 x with | some p => .ok p m1 | none => .bad
  | .rng1 a, σ, m => (dE a σ m).bind fun x m1 => match x with | .int j => if rngOk j then .ok (rngD 0 j, []) m1 else .bad | _ => .bad
  | .rng2 a b, σ, m => (dE a σ m).bind fun x m1 => (dE b σ m1).bind fun y m2 => match x, y with
      | .int i, .int j => if rngOk i ∧ rngOk j then .ok (rngD i j, []) m2 else .bad
      | _, _ => .bad
  | .zip a b, σ, m => (dE a σ m).bind fun x m1 => (dE b σ m1).bind fun y m2 => match iterS m2 x, iterS m2 y with
      | some p, some q => .ok (zipD p.1 q.1, p.2 ++ q.2) m2
      | _, _ => .bad
  | .enum a, σ, m => (dE a σ m).bind fun x m1 => match iterS m1 x with | some p => .ok (enumD p.1, p.2) m1 | none => .bad
  | .rev a, σ, m => (dE a σ m).bind fun x m1 => match iterS m1 x with | some p => .ok (p.1.reverse, p.2) m1 | none => .bad
noncomputable def dT : CT → D → Loc → Mem → Res Loc
  | .name i, d, σ, m => .ok (σ.set i (some d)) m
  | .tup ts, d, σ, m => match seqOf m d with
      | some xs => dTs ts xs σ m
      | none => .bad
  | .sub o i, d, σ, m => (dE o σ m).bind fun x m1 => (dE i σ m1).bind fun y m2 => match putD x y d m2 with
      | some m3 => .ok σ m3
      | none => .bad
noncomputable def dTs : CTs → List D → Loc → Mem → Res Loc
  | .nil, [], σ, m => .ok σ m
  | .cons t ts, d :: ds, σ, m => (dT t d σ m).bind fun σ1 m1 => dTs ts ds σ1 m1
  | _, _, _, _ => .bad
end
mutual
noncomputable def dS : CS → Loc → Mem → SR
  | .asg t e, σ, m => (dE Γ G e σ m).to σ fun x m1 => (dT Γ G t x σ m1).to σ fun σ1 m2 => .nx σ1 m2
  | .aug i o e, σ, m => match σ[i]? with
      | some (some x) => (dE Γ G e σ m).to σ fun y m1 => (opA o x y m1).to σ fun z m2 => .nx (σ.set i (some z)) m2
      | _ => .bad
  | .augS o i p e, σ, m => (dE Γ G o σ m).to σ fun x m1 => (dE Γ G i σ m1).to σ fun y m2 => (getD x y m2).to σ fun z m3 =>
      (dE Γ G e σ m3).to σ fun w m4 => (opA p z w m4).to σ fun u m5 => match putD x y u m5 with
        | some m6 => .nx σ m6
        | none => .bad
  | .par3 i j l a b c, σ, m => (dE Γ G a σ m).to σ fun x m1 => (dE Γ G b σ m1).to σ fun y m2 => (dE Γ G c σ m2).to σ fun z m3 => .nx (((σ.set i (some x)).set j (some y)).set l (some z)) m3
  | .expr e, σ, m => (dE Γ G e σ m).to σ fun _ m1 => .nx σ m1
  | .ret e, σ, m => (dE Γ G e σ m).to σ fun d m1 => .rt d m1
  | .retN, _, m => .rt .none m
  | .pass, σ, m => .nx σ m
  | .brk, σ, m => .bk σ m
  | .cont, σ, m => .ct σ m
  | .ite t a b, σ, m => (dB Γ G t σ m).to σ fun c m1 => if c = true then dSs a σ m1 else dSs b σ m1
  | .whl t b, σ, m => whileD (fun σ m => dB Γ G t σ m) (fun σ m => dSs b σ m) σ m
  | .fr t it b, σ, m => (dI Γ G it σ m).to σ fun p m1 =>
      forD p.2 (fun x σ m => (dT Γ G t x σ m).to σ fun σ1 m2 => dSs b σ1 m2) p.1 σ m1
noncomputable def dSs : CSs → Loc → Mem → SR
  | .nil, σ, m => .nx σ m
  | .cons s ss, σ, m => (dS s σ m).seq fun σ1 m1 => dSs ss σ1 m1
end
end
structure Def where
  np : Nat
  nl : Nat
  body : CSs
  defs : List D
noncomputable def fin (m0 : Mem) : SR → Res D
  | .nx _ m => gcD m0 .none m
  | .rt d m => gcD m0 d m
  | .ex e _ m => .ex e m
  | _ => .bad
noncomputable def runF (P : Str → Option Def) (G : Str → Option D) : Nat → Fn
  | 0, _, _, _ => .bad
  | k + 1, f, ds, m => match P f with
    | none => .bad
    | some d => if ds.length ≤ d.np ∧ d.np ≤ ds.length + d.defs.length then fin m (dSs (runF P G k) G d.body ((ds ++ d.defs.drop (ds.length + d.defs.length - d.np)).map some ++ List.replicate (d.nl - d.np) none) m) else .bad
end PC

namespace PC
open PySem L2 Classical

/-- a list that is never written -/
def FzL (K : PySem.W.Frag) (H : Hp) (a : Addr) (xs : List V) : Prop :=
  (∃ o, H a = some (.frz o (.lst xs))) ∨
    ∃ (o : Obj) (its : Array Value) (n : Nat), K.lookup a = some o ∧ o.cls = .type "list" ∧ o.dict = none ∧ o.data = .seq its n ∧ its.size ≤ sizeLine ∧ Vals xs its.toList
theorem FzL.sq {K : PySem.W.Frag} {H : Hp} {a : Addr} {xs : List V} : FzL K H a xs → SqL K H a xs
  | .inl h => .inl (.inr h)
  | .inr h => .inr h
section
variable (K : PySem.W.Frag)
mutual
/-- v stands for d -/
def RV (ρ : List Addr) (H : Hp) : D → V → Prop
  | .none, v => v = .non
  | .bool b, v => v = .bl b
  | .int i, v => v = .int i
  | .str s, v => v = .str s
  | .tup ds, v => ∃ a vs, v = .ref a ∧ SqT K H a vs ∧ RVs ρ H ds vs
  | .ref n, v => ∃ a, ρ[n]? = some a ∧ v = .ref a
  | .kl ds, v => ∃ a vs, v = .ref a ∧ FzL K H a vs ∧ RVs ρ H ds vs
def RVs (ρ : List Addr) (H : Hp) : List D → List V → Prop
  | [], vs => vs = []
  | d :: ds, vs => ∃ v ws, vs = v :: ws ∧ RV ρ H d v ∧ RVs ρ H ds ws
end
def RKV {κ : Type} (ρ : List Addr) (H : Hp) : List (κ × D) → List (κ × V) → Prop
  | [], ws => ws = []
  | p :: ps, ws => ∃ v r, ws = (p.1, v) :: r ∧ RV K ρ H p.2 v ∧ RKV ρ H ps r
def RO (ρ : List Addr) (H : Hp) (a : Addr) : MO → Prop
  | .lst xs => ∃ vs, H a = some (.lst vs) ∧ RVs K ρ H xs vs
  | .dk kvs => ∃ ws, H a = some (.dK ws) ∧ RKV K ρ H kvs ws
  | .dt kvs => ∃ ws, H a = some (.dT ws) ∧ RKV K ρ H kvs ws
structure Rel (ρ : List Addr) (m : Mem) (H : Hp) : Prop where
  len : ρ.length = m.length
  nd : ρ.Nodup
  ob : ∀ (i : Nat) (o : MO), m[i]? = some o → ∃ a, ρ[i]? = some a ∧ RO K ρ H a o
/-- the tuples stay, and what is never written -/
structure Ext (H H' : Hp) : Prop where
  t : ∀ a xs, H a = some (.tup xs) → H' a = some (.tup xs)
  f : ∀ a o u, H a = some (.frz o u) → H' a = some (.frz o u)
def RL (ρ : List Addr) (H : Hp) (σ : Loc) (σV : L2.St) : Prop :=
  σV.length = σ.length ∧ ∀ (i : Nat) d, σ[i]? = some (some d) → ∃ v, σV[i]? = some (some v) ∧ RV K ρ H d v
end
theorem Ext.refl (H : Hp) : Ext H H := ⟨fun _ _ e => e, fun _ _ _ e => e⟩
theorem Ext.trans {H H1 H2 : Hp} (a : Ext H H1) (b : Ext H1 H2) : Ext H H2 := ⟨fun p xs e => b.t p xs (a.t p xs e), fun p o u e => b.f p o u (a.f p o u e)⟩
theorem Ext.new {H : Hp} {p : Addr} {o : HO} (h : H p = none) : Ext H (upd H p o) :=
  ⟨fun a xs e => by rw [upd_ne (ne_of_none e h)]; exact e, fun a u w e => by rw [upd_ne (ne_of_none e h)]; exact e⟩
theorem Ext.mut {H : Hp} {p : Addr} {o u : HO} (h : H p = some u) (ht : ∀ xs, u ≠ .tup xs) (hf : ∀ ob w, u ≠ .frz ob w) : Ext H (upd H p o) :=
  ⟨fun a xs e => by rw [upd_ne (fun z => ht xs (by rw [z, h] at e; exact Option.some.inj e))]; exact e,
   fun a ob w e => by rw [upd_ne (fun z => hf ob w (by rw [z, h] at e; exact Option.some.inj e))]; exact e⟩
section
variable {K : PySem.W.Frag} {ρ ρ' : List Addr} {H H' : Hp} {m m' : Mem}
theorem Ext.fzl {a : Addr} {xs : List V} (e : Ext H H') (h : FzL K H a xs) : FzL K H' a xs := by
  rcases h with ⟨o, h⟩ | h
  · exact .inl ⟨o, e.f _ _ _ h⟩
  · exact .inr h
theorem Ext.sqt {a : Addr} {xs : List V} (e : Ext H H') (h : SqT K H a xs) : SqT K H' a xs := by
  rcases h with h | h
  · rcases h with h | ⟨o, h⟩
    · exact .inl (.inl (e.t _ _ h))
    · exact .inl (.inr ⟨o, e.f _ _ _ h⟩)
  · exact .inr h
theorem pre_get {α : Type} {l l' : List α} (p : l <+: l') {n : Nat} {a : α} (h : l[n]? = some a) : l'[n]? = some a := by
  obtain ⟨t, rfl⟩ := p
  have := (List.getElem?_eq_some_iff.mp h).1
  rw [List.getElem?_append_left this]; exact h
mutual
theorem RV.mono (p : ρ <+: ρ') (e : Ext H H') : ∀ (d : D) (v : V), RV K ρ H d v → RV K ρ' H' d v
  | .none, _, h => by simpa only [RV] using h
  | .bool _, _, h => by simpa only [RV] using h
  | .int _, _, h => by simpa only [RV] using h
  | .str _, _, h => by simpa only [RV] using h
  | .tup ds, v, h => by
    simp only [RV] at h ⊢
    obtain ⟨a, vs, h1, h2, h3⟩ := h
    exact ⟨a, vs, h1, e.sqt h2, RVs.mono p e ds vs h3⟩
  | .kl ds, v, h => by
    simp only [RV] at h ⊢
    obtain ⟨a, vs, h1, h2, h3⟩ := h
    exact ⟨a, vs, h1, e.fzl h2, RVs.mono p e ds vs h3⟩
  | .ref n, v, h => by
    simp only [RV] at h ⊢
    obtain ⟨a, h1, h2⟩ := h
    exact ⟨a, pre_get p h1, h2⟩
theorem RVs.mono (p : ρ <+: ρ') (e : Ext H H') : ∀ (ds : List D) (vs : List V), RVs K ρ H ds vs → RVs K ρ' H' ds vs
  | [], _, h => by simpa only [RVs] using h
  | d :: ds, vs, h => by
    simp only [RVs] at h ⊢
    obtain ⟨v, ws, h1, h2, h3⟩ := h
    exact ⟨v, ws, h1, RV.mono p e d v h2, RVs.mono p e ds ws h3⟩
end
theorem RKV.mono {κ : Type} (p : ρ <+: ρ') (e : Ext H H') : ∀ (ds : List (κ × D)) (vs : List (κ × V)), RKV K ρ H ds vs → RKV K ρ' H' ds vs
  | [], _, h => h
  | d :: ds, vs, h => by
    obtain ⟨v, ws, h1, h2, h3⟩ := h
    exact ⟨v, ws, h1, RV.mono p e _ v h2, RKV.mono p e ds ws h3⟩
theorem RL.mono {σ : Loc} {σV : L2.St} (p : ρ <+: ρ') (e : Ext H H') (h : RL K ρ H σ σV) : RL K ρ' H' σ σV :=
  ⟨h.1, fun i d q => let ⟨v, h1, h2⟩ := h.2 i d q; ⟨v, h1, RV.mono p e d v h2⟩⟩
theorem RVs.len : ∀ {ds : List D} {vs : List V}, RVs K ρ H ds vs → vs.length = ds.length
  | [], _, h => by simp only [RVs] at h; subst h; rfl
  | d :: ds, vs, h => by
    simp only [RVs] at h
    obtain ⟨v, ws, rfl, _, h3⟩ := h
    simp [RVs.len h3]
theorem RVs.get : ∀ {ds : List D} {vs : List V} {i : Nat} {d : D}, RVs K ρ H ds vs → ds[i]? = some d → ∃ v, vs[i]? = some v ∧ RV K ρ H d v
  | [], _, _, _, _, q => by simp at q
  | d :: ds, vs, i, d', h, q => by
    simp only [RVs] at h
    obtain ⟨v, ws, rfl, h2, h3⟩ := h
    cases i with
    | zero => simp at q; subst q; exact ⟨v, rfl, h2⟩
    | succ i => simpa using RVs.get h3 (by simpa using q)
theorem RVs.of_get : ∀ {ds : List D} {vs : List V}, vs.length = ds.length → (∀ (i : Nat) d v, ds[i]? = some d → vs[i]? = some v → RV K ρ H d v) → RVs K ρ H ds vs
  | [], vs, hl, _ => by simp only [RVs]; exact List.eq_nil_of_length_eq_zero hl
  | d :: ds, [], hl, _ => by simp at hl
  | d :: ds, v :: vs, hl, h => by
    simp only [RVs]
    exact ⟨v, vs, rfl, h 0 d v rfl rfl, RVs.of_get (by simpa using hl) fun i d' v' e1 e2 => h (i + 1) d' v' (by simpa using e1) (by simpa using e2)⟩
theorem RVs.app : ∀ {ds es : List D} {vs ws : List V}, RVs K ρ H ds vs → RVs K ρ H es ws → RVs K ρ H (ds ++ es) (vs ++ ws)
  | [], _, _, _, h, h' => by simp only [RVs] at h; subst h; exact h'
  | d :: ds, es, vs, ws, h, h' => by
    simp only [RVs] at h
    obtain ⟨v, us, rfl, h2, h3⟩ := h
    simp only [List.cons_append, RVs]
    exact ⟨v, us ++ ws, rfl, h2, RVs.app h3 h'⟩
theorem RVs.set {ds : List D} {vs : List V} {j : Nat} {d : D} {v : V} (h : RVs K ρ H ds vs) (r : RV K ρ H d v) : RVs K ρ H (ds.set j d) (vs.set j v) := by
  refine RVs.of_get (by simp [h.len]) fun i d' v' e1 e2 => ?_
  by_cases e : j = i
  · subst e
    rw [List.getElem?_set_self'] at e1 e2
    cases q1 : ds[j]? with
    | none => rw [q1] at e1; simp at e1
    | some z =>
      obtain ⟨w, hw, _⟩ := h.get q1
      rw [q1] at e1; rw [hw] at e2
      simp at e1 e2
      subst e1; subst e2; exact r
  · rw [List.getElem?_set_ne e] at e1 e2
    obtain ⟨w, hw, r'⟩ := h.get e1
    rw [hw] at e2; cases e2; exact r'
theorem RVs.take (n : Nat) {ds : List D} {vs : List V} (h : RVs K ρ H ds vs) : RVs K ρ H (ds.take n) (vs.take n) :=
  RVs.of_get (by simp [h.len]) fun i d v e1 e2 => by
    rw [List.getElem?_take] at e1 e2
    split at e1
    · rename_i hlt
      rw [if_pos hlt] at e2
      obtain ⟨w, hw, r⟩ := h.get e1
      rw [hw] at e2; cases e2; exact r
    · cases e1
theorem RVs.drop (n : Nat) {ds : List D} {vs : List V} (h : RVs K ρ H ds vs) : RVs K ρ H (ds.drop n) (vs.drop n) :=
  RVs.of_get (by simp [h.len]) fun i d v e1 e2 => by
    rw [List.getElem?_drop] at e1 e2
    obtain ⟨w, hw, r⟩ := h.get e1
    rw [hw] at e2; cases e2; exact r
theorem RVs.dropLast {ds : List D} {vs : List V} (h : RVs K ρ H ds vs) : RVs K ρ H ds.dropLast vs.dropLast := by
  rw [List.dropLast_eq_take, List.dropLast_eq_take, h.len]; exact h.take _
theorem RVs.erase (n : Nat) {ds : List D} {vs : List V} (h : RVs K ρ H ds vs) : RVs K ρ H (ds.eraseIdx n) (vs.eraseIdx n) := by
  rw [List.eraseIdx_eq_take_drop_succ, List.eraseIdx_eq_take_drop_succ]
  exact (h.take n).app (h.drop (n + 1))
theorem RVs.rep {ds : List D} {vs : List V} (h : RVs K ρ H ds vs) : ∀ n : Nat, RVs K ρ H (List.replicate n ds).flatten (List.replicate n vs).flatten
  | 0 => by simp [RVs]
  | n + 1 => by simp only [List.replicate_succ, List.flatten_cons]; exact h.app (RVs.rep h n)
theorem RVs.rev {ds : List D} {vs : List V} (h : RVs K ρ H ds vs) : RVs K ρ H ds.reverse vs.reverse :=
  RVs.of_get (by simp [h.len]) fun i d v e1 e2 => by
    have hi : i < ds.length := by simpa using (List.getElem?_eq_some_iff.mp e1).1
    rw [List.getElem?_reverse hi] at e1
    rw [List.getElem?_reverse (by rw [h.len]; exact hi), h.len] at e2
    obtain ⟨w, hw, r⟩ := h.get e1
    rw [hw] at e2; cases e2; exact r
theorem RVs.one {d : D} {v : V} (h : RV K ρ H d v) : RVs K ρ H [d] [v] := by simp only [RVs]; exact ⟨v, [], rfl, h, rfl⟩
theorem RVs.one_inv {d : D} {vs : List V} (h : RVs K ρ H [d] vs) : ∃ v, vs = [v] ∧ RV K ρ H d v := by
  simp only [RVs] at h; obtain ⟨v, ws, rfl, h2, rfl⟩ := h; exact ⟨v, rfl, h2⟩
theorem RVs.two_inv {d e : D} {vs : List V} (h : RVs K ρ H [d, e] vs) : ∃ v w, vs = [v, w] ∧ RV K ρ H d v ∧ RV K ρ H e w := by
  simp only [RVs] at h; obtain ⟨v, ws, rfl, h2, w, us, rfl, h3, rfl⟩ := h; exact ⟨v, w, rfl, h2, h3⟩
theorem RVs.nil_inv {vs : List V} (h : RVs K ρ H [] vs) : vs = [] := by simpa only [RVs] using h
theorem RVs.ints : ∀ {ds : List D} {vs : List V} {ns : List Int}, RVs K ρ H ds vs → intsD ds = some ns → vs = ns.map V.int
  | [], _, _, h, q => by simp only [RVs] at h; simp only [intsD, Option.some.injEq] at q; subst q; exact h
  | d :: ds, vs, ns, h, q => by
    simp only [RVs] at h
    obtain ⟨v, ws, rfl, h2, h3⟩ := h
    cases d with
    | int i =>
      simp only [intsD] at q
      cases e : intsD ds with
      | none => rw [e] at q; simp at q
      | some r =>
        rw [e] at q; simp at q; subst q
        simp only [RV] at h2
        rw [h2, RVs.ints h3 e]; rfl
    | _ => simp [intsD] at q
theorem RVs.bools : ∀ {ds : List D} {vs : List V} {ns : List Bool}, RVs K ρ H ds vs → boolsD ds = some ns → vs = ns.map V.bl
  | [], _, _, h, q => by simp only [RVs] at h; simp only [boolsD, Option.some.injEq] at q; subst q; exact h
  | d :: ds, vs, ns, h, q => by
    simp only [RVs] at h
    obtain ⟨v, ws, rfl, h2, h3⟩ := h
    cases d with
    | bool i =>
      simp only [boolsD] at q
      cases e : boolsD ds with
      | none => rw [e] at q; simp at q
      | some r =>
        rw [e] at q; simp at q; subst q
        simp only [RV] at h2
        rw [h2, RVs.bools h3 e]; rfl
    | _ => simp [boolsD] at q

/-! ### the memory -/
theorem Rel.lst {n : Nat} {xs : List D} {a : Addr} (R : Rel K ρ m H) (h : m[n]? = some (.lst xs)) (ha : ρ[n]? = some a) : ∃ vs, H a = some (.lst vs) ∧ RVs K ρ H xs vs := by
  obtain ⟨b, hb, o⟩ := R.ob n _ h
  rw [ha] at hb; cases hb; exact o
theorem Rel.inj {i j : Nat} {a : Addr} (R : Rel K ρ m H) (h1 : ρ[i]? = some a) (h2 : ρ[j]? = some a) : i = j := by
  obtain ⟨l1, e1⟩ := List.getElem?_eq_some_iff.mp h1
  obtain ⟨l2, e2⟩ := List.getElem?_eq_some_iff.mp h2
  exact (List.getElem_inj R.nd).mp (e1.trans e2.symm)
theorem Rel.there {i : Nat} {a : Addr} (R : Rel K ρ m H) (h1 : ρ[i]? = some a) : ∃ o, m[i]? = some o ∧ RO K ρ H a o := by
  have l := (List.getElem?_eq_some_iff.mp h1).1
  rw [R.len] at l
  obtain ⟨b, hb, o⟩ := R.ob i m[i] (by simp [l])
  rw [h1] at hb; cases hb
  exact ⟨m[i], by simp [l], o⟩
theorem RO.exi {a : Addr} : ∀ {o : MO}, RO K ρ H a o → ∃ u, H a = some u
  | .lst _, ⟨_, h, _⟩ => ⟨_, h⟩
  | .dk _, ⟨_, h, _⟩ => ⟨_, h⟩
  | .dt _, ⟨_, h, _⟩ => ⟨_, h⟩
theorem Rel.fresh {p : Addr} (R : Rel K ρ m H) (h : H p = none) : p ∉ ρ := fun hp => by
  obtain ⟨i, hi⟩ := List.mem_iff_getElem?.mp hp
  obtain ⟨o, _, r⟩ := R.there hi
  obtain ⟨u, e⟩ := r.exi
  rw [h] at e; cases e
theorem RO.mono (p : ρ <+: ρ') (e : Ext H H') {a : Addr} (k : H' a = H a) : ∀ {o : MO}, RO K ρ H a o → RO K ρ' H' a o
  | .lst _, ⟨vs, h, r⟩ => ⟨vs, k ▸ h, r.mono p e⟩
  | .dk _, ⟨vs, h, r⟩ => ⟨vs, k ▸ h, r.mono p e⟩
  | .dt _, ⟨vs, h, r⟩ => ⟨vs, k ▸ h, r.mono p e⟩
/-- a heap that keeps all things of the memory -/
theorem Rel.keep (R : Rel K ρ m H) (e : Ext H H') (k : ∀ a ∈ ρ, H' a = H a) : Rel K ρ m H' :=
  ⟨R.len, R.nd, fun i o h => let ⟨a, ha, r⟩ := R.ob i o h; ⟨a, ha, r.mono (List.prefix_refl _) e (k a (List.mem_iff_getElem?.mpr ⟨i, ha⟩))⟩⟩
/-- a new tuple (or anything that the memory does not hold) -/
theorem Rel.new {p : Addr} {o : HO} (R : Rel K ρ m H) (h : H p = none) : Rel K ρ m (upd H p o) :=
  R.keep (.new h) fun a ha => upd_ne fun e => R.fresh h (e ▸ ha)
theorem Rel.alloc {p : Addr} {o : HO} {x : MO} (R : Rel K ρ m H) (h : H p = none) (r : RO K (ρ ++ [p]) (upd H p o) p x) : Rel K (ρ ++ [p]) (m ++ [x]) (upd H p o) := by
  refine ⟨by simp [R.len], ?_, fun i y e => ?_⟩
  · rw [List.nodup_append]
    exact ⟨R.nd, by simp, fun a ha b hb e => R.fresh h (by simp at hb; subst hb; subst e; exact ha)⟩
  · by_cases hi : i < m.length
    · rw [List.getElem?_append_left hi] at e
      obtain ⟨a, ha, q⟩ := R.ob i y e
      exact ⟨a, pre_get (List.prefix_append _ _) ha, q.mono (List.prefix_append _ _) (.new h) (upd_ne fun z => R.fresh h (z ▸ List.mem_iff_getElem?.mpr ⟨i, ha⟩))⟩
    · have hl := (List.getElem?_eq_some_iff.mp e).1
      have : i = m.length := by simp at hl; omega
      subst this
      simp at e; subst e
      exact ⟨p, by rw [← R.len]; simp, r⟩
theorem Rel.allocL {p : Addr} {xs : List D} {vs : List V} (R : Rel K ρ m H) (h : H p = none) (r : RVs K ρ H xs vs) :
    Rel K (ρ ++ [p]) (m ++ [.lst xs]) (upd H p (.lst vs)) := R.alloc h ⟨vs, upd_same, r.mono (List.prefix_append _ _) (.new h)⟩
theorem RV.last {p : Addr} (R : Rel K ρ m H) : RV K (ρ ++ [p]) H' (.ref m.length) (.ref p) := by
  simp only [RV]; exact ⟨p, by rw [← R.len]; simp, rfl⟩
/-- a thing is written -/
theorem Rel.write {n : Nat} {a : Addr} {x : MO} {o u : HO} (R : Rel K ρ m H) (ha : ρ[n]? = some a) (hu : H a = some u) (ht : ∀ xs, u ≠ .tup xs) (hf : ∀ ob w, u ≠ .frz ob w)
    (r : RO K ρ (upd H a o) a x) : Rel K ρ (m.set n x) (upd H a o) := by
  refine ⟨by simp [R.len], R.nd, fun i y e => ?_⟩
  by_cases hi : n = i
  · subst hi
    rw [List.getElem?_set_self'] at e
    cases q : m[n]? with
    | none => rw [q] at e; simp at e
    | some z => rw [q] at e; simp at e; subst e; exact ⟨a, ha, r⟩
  · rw [List.getElem?_set_ne hi] at e
    obtain ⟨b, hb, q⟩ := R.ob i y e
    have hne : b ≠ a := fun z => hi (R.inj ha (z ▸ hb))
    exact ⟨b, hb, q.mono (List.prefix_refl _) (.mut hu ht hf) (upd_ne hne)⟩
theorem Rel.writeL {n : Nat} {a : Addr} {xs : List D} {vs us : List V} (R : Rel K ρ m H) (ha : ρ[n]? = some a) (hu : H a = some (.lst us)) (r : RVs K ρ H xs vs) :
    Rel K ρ (m.set n (.lst xs)) (upd H a (.lst vs)) ∧ Ext H (upd H a (.lst vs)) := by
  have e : Ext H (upd H a (.lst vs)) := .mut hu (fun _ z => nomatch z) (fun _ _ z => nomatch z)
  exact ⟨R.write ha hu (fun _ z => nomatch z) (fun _ _ z => nomatch z) ⟨vs, upd_same, r.mono (List.prefix_refl _) e⟩, e⟩
/-- a list or a tuple is read -/
theorem RV.seq {d : D} {v : V} {xs : List D} (R : Rel K ρ m H) (r : RV K ρ H d v) (h : seqOf m d = some xs) :
    ∃ a vs, v = .ref a ∧ RVs K ρ H xs vs ∧ ((∃ n, (d = .ref n ∨ d = .kl xs) ∧ SqL K H a vs) ∨ (d = .tup xs ∧ SqT K H a vs)) := by
  cases d with
  | tup ys =>
    simp only [seqOf, Option.some.injEq] at h; subst h
    simp only [RV] at r
    obtain ⟨a, vs, e, s, q⟩ := r
    exact ⟨a, vs, e, q, .inr ⟨rfl, s⟩⟩
  | ref n =>
    simp only [RV] at r
    obtain ⟨a, ha, e⟩ := r
    obtain ⟨o, ho, ro⟩ := R.there ha
    simp only [seqOf, ho] at h
    cases o with
    | lst ys =>
      simp only [Option.some.injEq] at h; subst h
      obtain ⟨vs, h1, h2⟩ := ro
      exact ⟨a, vs, e, h2, .inl ⟨n, .inl rfl, SqL.of h1⟩⟩
    | _ => simp at h
  | kl ys =>
    simp only [seqOf, Option.some.injEq] at h; subst h
    simp only [RV] at r
    obtain ⟨a, vs, e, s, q⟩ := r
    exact ⟨a, vs, e, q, .inl ⟨0, .inr rfl, s.sq⟩⟩
  | _ => simp [seqOf] at h

/-! ### forgetting -/
mutual
theorem below_mono {n : Nat} (hp : ∀ k a, k < n → ρ[k]? = some a → ρ'[k]? = some a) : ∀ (d : D) (v : V), below n d = true → RV K ρ H d v → RV K ρ' H d v
  | .none, _, _, h => by simpa only [RV] using h
  | .bool _, _, _, h => by simpa only [RV] using h
  | .int _, _, _, h => by simpa only [RV] using h
  | .str _, _, _, h => by simpa only [RV] using h
  | .tup ds, v, b, h => by
    simp only [RV] at h ⊢
    obtain ⟨a, vs, h1, h2, h3⟩ := h
    exact ⟨a, vs, h1, h2, belows_mono hp ds vs (by simpa only [below] using b) h3⟩
  | .kl ds, v, b, h => by
    simp only [RV] at h ⊢
    obtain ⟨a, vs, h1, h2, h3⟩ := h
    exact ⟨a, vs, h1, h2, belows_mono hp ds vs (by simpa only [below] using b) h3⟩
  | .ref k, v, b, h => by
    simp only [RV] at h ⊢
    obtain ⟨a, h1, h2⟩ := h
    exact ⟨a, hp k a (by simpa [below] using b) h1, h2⟩
theorem belows_mono {n : Nat} (hp : ∀ k a, k < n → ρ[k]? = some a → ρ'[k]? = some a) : ∀ (ds : List D) (vs : List V), belows n ds = true → RVs K ρ H ds vs → RVs K ρ' H ds vs
  | [], _, _, h => by simpa only [RVs] using h
  | d :: ds, vs, b, h => by
    simp only [RVs] at h ⊢
    obtain ⟨v, ws, h1, h2, h3⟩ := h
    simp only [belows, Bool.and_eq_true] at b
    exact ⟨v, ws, h1, below_mono hp d v b.1 h2, belows_mono hp ds ws b.2 h3⟩
end
theorem belowKV_mono {κ : Type} {n : Nat} (hp : ∀ k a, k < n → ρ[k]? = some a → ρ'[k]? = some a) : ∀ (ds : List (κ × D)) (vs : List (κ × V)), belows n (ds.map (·.2)) = true → RKV K ρ H ds vs → RKV K ρ' H ds vs
  | [], _, _, h => h
  | d :: ds, vs, b, h => by
    obtain ⟨v, ws, h1, h2, h3⟩ := h
    simp only [List.map_cons, belows, Bool.and_eq_true] at b
    exact ⟨v, ws, h1, below_mono hp _ v b.1 h2, belowKV_mono hp ds ws b.2 h3⟩
theorem RO.below_mono_ {n : Nat} {a : Addr} (hp : ∀ k a, k < n → ρ[k]? = some a → ρ'[k]? = some a) : ∀ {o : MO}, o.below n = true → RO K ρ H a o → RO K ρ' H a o
  | .lst _, b, ⟨vs, h, r⟩ => ⟨vs, h, belows_mono hp _ _ b r⟩
  | .dk _, b, ⟨vs, h, r⟩ => ⟨vs, h, belowKV_mono hp _ _ b r⟩
  | .dt _, b, ⟨vs, h, r⟩ => ⟨vs, h, belowKV_mono hp _ _ b r⟩
mutual
theorem RV.lt : ∀ (d : D) (v : V), RV K ρ H d v → below ρ.length d = true
  | .none, _, _ => rfl
  | .bool _, _, _ => rfl
  | .int _, _, _ => rfl
  | .str _, _, _ => rfl
  | .tup ds, v, h => by
    simp only [RV] at h
    obtain ⟨a, vs, h1, h2, h3⟩ := h
    simp only [below]; exact RVs.lt ds vs h3
  | .kl ds, v, h => by
    simp only [RV] at h
    obtain ⟨a, vs, h1, h2, h3⟩ := h
    simp only [below]; exact RVs.lt ds vs h3
  | .ref k, v, h => by
    simp only [RV] at h
    obtain ⟨a, h1, h2⟩ := h
    simp only [below, decide_eq_true_eq]; exact (List.getElem?_eq_some_iff.mp h1).1
theorem RVs.lt : ∀ (ds : List D) (vs : List V), RVs K ρ H ds vs → belows ρ.length ds = true
  | [], _, _ => rfl
  | d :: ds, vs, h => by
    simp only [RVs] at h
    obtain ⟨v, ws, h1, h2, h3⟩ := h
    simp only [belows, Bool.and_eq_true]
    exact ⟨RV.lt d v h2, RVs.lt ds ws h3⟩
end
theorem RKV.lt {κ : Type} : ∀ (ds : List (κ × D)) (vs : List (κ × V)), RKV K ρ H ds vs → belows ρ.length (ds.map (·.2)) = true
  | [], _, _ => rfl
  | d :: ds, vs, h => by
    obtain ⟨v, ws, h1, h2, h3⟩ := h
    simp only [List.map_cons, belows, Bool.and_eq_true]
    exact ⟨RV.lt _ v h2, RKV.lt ds ws h3⟩
theorem RO.lt {a : Addr} : ∀ {o : MO}, RO K ρ H a o → o.below ρ.length = true
  | .lst _, ⟨vs, h, r⟩ => RVs.lt _ _ r
  | .dk _, ⟨vs, h, r⟩ => RKV.lt _ _ r
  | .dt _, ⟨vs, h, r⟩ => RKV.lt _ _ r
/-- what was asked of the state ahead and the state behind: the memory behind, its addresses begin with those ahead -/
theorem gc_ok {m0 : Mem} {ρ0 : List Addr} {H0 : Hp} {d : D} {v : V} (R0 : Rel K ρ0 m0 H0) (R : Rel K ρ m H) (p : ρ0 <+: ρ) (r : RV K ρ H d v) {d' : D} {m' : Mem} (h : gcD m0 d m = .ok d' m') :
    ∃ ρ', Rel K ρ' m' H ∧ ρ0 <+: ρ' ∧ RV K ρ' H d' v := by
  unfold gcD at h
  split at h
  · rename_i ho
    obtain ⟨hl, ho⟩ := ho
    have e0 : ρ.take m0.length = ρ0 := by
      obtain ⟨t, rfl⟩ := p
      rw [← R0.len, List.take_left]
    have old : ∀ i o, i < m0.length → m[i]? = some o → o.below m0.length = true := fun i o hi e => by
      rcases ho i hi with q | ⟨u, q1, q2⟩
      · rw [e] at q
        obtain ⟨a, _, ro⟩ := R0.ob i o q.symm
        rw [← R0.len]; exact ro.lt
      · rw [e] at q1; cases q1; exact q2
    have hp0 : ∀ (k : Nat) a, k < m0.length → ρ[k]? = some a → ρ0[k]? = some a := fun k a hk e => by
      rw [← e0, List.getElem?_take, if_pos hk]; exact e
    have R1 : Rel K ρ0 (m.take m0.length) H := by
      refine ⟨by rw [List.length_take, R0.len]; omega, R0.nd, fun i o e => ?_⟩
      rw [List.getElem?_take] at e
      split at e
      · rename_i hi
        obtain ⟨a, ha, ro⟩ := R.ob i o e
        exact ⟨a, hp0 i a hi ha, RO.below_mono_ hp0 (old i o hi e) ro⟩
      · cases e
    split at h
    · rename_i hb
      cases h
      exact ⟨ρ0, R1, List.prefix_refl _, below_mono hp0 d v hb r⟩
    · rename_i hb
      split at h
      · rename_i j
        split at h
        · rename_i o ej
          split at h
          · rename_i hob
            cases h
            have r' := r
            simp only [RV] at r'
            obtain ⟨a, ha, hv⟩ := r'
            obtain ⟨a', ha', ro⟩ := R.ob j o ej
            rw [ha] at ha'; cases ha'
            have hj : ¬ j < m0.length := by simpa [below] using hb
            have hna : a ∉ ρ0 := fun hm => by
              obtain ⟨i, hi⟩ := List.mem_iff_getElem?.mp hm
              have hil : i < m0.length := by rw [← R0.len]; exact (List.getElem?_eq_some_iff.mp hi).1
              have := R.inj (pre_get p hi) ha
              omega
            have hp1 : ∀ (k : Nat) b, k < m0.length → ρ[k]? = some b → (ρ0 ++ [a])[k]? = some b := fun k b hk e => pre_get (List.prefix_append _ _) (hp0 k b hk e)
            refine ⟨ρ0 ++ [a], ⟨by rw [List.length_append, List.length_append, List.length_take, R0.len]; simp; omega, ?_, fun i o' e => ?_⟩, List.prefix_append _ _, ?_⟩
            · rw [List.nodup_append]
              exact ⟨R0.nd, by simp, fun x hx b hb e => hna (by simp at hb; subst hb; subst e; exact hx)⟩
            · by_cases hi : i < (m.take m0.length).length
              · rw [List.getElem?_append_left hi] at e
                obtain ⟨b, hb', rb⟩ := R1.ob i o' e
                exact ⟨b, pre_get (List.prefix_append _ _) hb', rb.mono (List.prefix_append _ _) (.refl _) rfl⟩
              · have hl2 := (List.getElem?_eq_some_iff.mp e).1
                have : i = (m.take m0.length).length := by simp at hl2 hi ⊢; omega
                subst this
                simp at e; subst e
                refine ⟨a, ?_, RO.below_mono_ hp1 hob ro⟩
                have : (m.take m0.length).length = ρ0.length := by rw [List.length_take, R0.len]; omega
                rw [this]; simp
            · simp only [RV]; exact ⟨a, by rw [← R0.len]; simp, hv⟩
          · cases h; exact ⟨ρ, R, p, r⟩
        · cases h; exact ⟨ρ, R, p, r⟩
      · cases h; exact ⟨ρ, R, p, r⟩
  · cases h; exact ⟨ρ, R, p, r⟩
end
end PC

namespace PC
open PySem L2 Classical

/-- what is wanted of a value, told by its reading -/
def Post {α β : Type} (K : PySem.W.Frag) (RR : List Addr → Hp → α → β → Prop) (ρ : List Addr) (H : Hp) (Q : β → Hp → Prop) : Res α → Prop
  | .ok a m' => ∀ ρ' H' b, Rel K ρ' m' H' → ρ <+: ρ' → Ext H H' → RR ρ' H' a b → Q b H'
  | _ => False
section
variable {K : PySem.W.Frag} {α β γ δ : Type} {RR : List Addr → Hp → α → β → Prop} {RS : List Addr → Hp → γ → δ → Prop} {ρ ρ' : List Addr} {H H' : Hp} {m : Mem}
theorem Post.mono {Q : β → Hp → Prop} (p : ρ <+: ρ') (e : Ext H H') : ∀ {r : Res α}, Post K RR ρ H Q r → Post K RR ρ' H' Q r
  | .ok _ _, h => fun ρ1 H1 b R q x r => h ρ1 H1 b R (p.trans q) (e.trans x) r
  | .bad, h => h
  | .ex _ _, h => h
theorem Post.imp {Q Q' : β → Hp → Prop} (h : ∀ b H', Q b H' → Q' b H') : ∀ {r : Res α}, Post K RR ρ H Q r → Post K RR ρ H Q' r
  | .ok _ _, q => fun ρ1 H1 b R p x r => h _ _ (q ρ1 H1 b R p x r)
  | .bad, q => q
  | .ex _ _, q => q
theorem Post.bind {Q : δ → Hp → Prop} {Q' : β → Hp → Prop} {f : α → Mem → Res γ} {r : Res α} (h : Post K RS ρ H Q (r.bind f))
    (k : ∀ a m1 ρ1 H1 b, Rel K ρ1 m1 H1 → ρ <+: ρ1 → Ext H H1 → RR ρ1 H1 a b → Post K RS ρ1 H1 Q (f a m1) → Q' b H1) : Post K RR ρ H Q' r := by
  cases r with
  | bad => exact h
  | ex e m => exact h
  | ok a m1 => exact fun ρ1 H1 b R p x r => k a m1 ρ1 H1 b R p x r (Post.mono p x (r := f a m1) h)
theorem Post.bind0 {Q : δ → Hp → Prop} {Q' : β → Hp → Prop} {f : α → Mem → Res γ} {r : Res α} (h : Post K RS ρ H Q (r.bind f))
    (k : ∀ a m1 ρ1 H1 b, r = .ok a m1 → Rel K ρ1 m1 H1 → ρ <+: ρ1 → Ext H H1 → RR ρ1 H1 a b → Post K RS ρ H Q (f a m1) → Q' b H1) : Post K RR ρ H Q' r := by
  cases r with
  | bad => exact h
  | ex e m => exact h
  | ok a m1 => exact fun ρ1 H1 b R p x r => k a m1 ρ1 H1 b rfl R p x r h
theorem Post.ok {Q : β → Hp → Prop} {a : α} {b : β} (h : Post K RR ρ H Q (.ok a m)) (R : Rel K ρ m H) (r : RR ρ H a b) : Q b H := h ρ H b R (List.prefix_refl _) (.refl _) r
end

section
variable (F : Cx → Prop)
def bE (e : Expr) : TE := fun σ H Q => ∃ t, (∀ X, F X → PE X e t) ∧ t σ H Q
def bT (e : Expr) : TT := fun σ H Q => ∃ t, (∀ X, F X → PT X e t) ∧ t σ H Q
def bA (es : List Expr) : TA := fun σ H Q => ∃ t, (∀ X, F X → PA X es t) ∧ t σ H Q
def bS (s : Stmt) : TS := fun D σ H => ∃ t, (∀ X, F X → PS X s t) ∧ t D σ H
def bSs (s : List Stmt) : TS := fun D σ H => ∃ t, (∀ X, F X → PSs X s t) ∧ t D σ H
def bG (e : Expr) : TG := fun v σ H Q => ∃ t, (∀ X, F X → PG X e t) ∧ t v σ H Q
def bGs (es : List Expr) : TGs := fun vs σ H Q => ∃ t, (∀ X, F X → PGs X es t) ∧ t vs σ H Q
def bI (tg e : Expr) : TI := fun σ H Q => ∃ t, (∀ X, F X → PI X tg e t) ∧ t σ H Q
def bO (e : Option Expr) : TO := fun σ H Q => ∃ t, (∀ X, F X → PO X e t) ∧ t σ H Q
def bTs (es : List Expr) : TT := fun σ H Q => ∃ t, (∀ X, F X → PTs X es t) ∧ t σ H Q
def bOp (f : Value → Value → Sem Value) : R2 := fun x y H Q => ∃ r, (∀ X, F X → OpR X f r) ∧ r x y H Q
def bIx : R2 := fun x y H Q => ∃ r, (∀ X, F X → IxR X r) ∧ r x y H Q
def bSl : V → Option Int → Option Int → Hp → VK → Prop := fun x lo hi H Q => ∃ r, (∀ X, F X → SlR X r) ∧ r x lo hi H Q
def bCa (f : Value) : List V → Hp → VK → Prop := fun xs H Q => ∃ r, (∀ X, F X → CallR X f r) ∧ r xs H Q
def bMt (id : String) : V → List V → Hp → VK → Prop := fun x xs H Q => ∃ r, (∀ X, F X → MtR X id r) ∧ r x xs H Q
def bPut : TSet := fun o i v H Q => ∃ r, (∀ X, F X → PSet X r) ∧ r o i v H Q
end
section
variable {F : Cx → Prop} {X : Cx}
theorem bE_ok (h : F X) (e : Expr) : PE X e (bE F e) := ⟨fun pins s σ H Q I ⟨_, ht, q⟩ => (ht X h).run pins s σ H Q I q⟩
theorem bT_ok (h : F X) (e : Expr) : PT X e (bT F e) := ⟨fun pins s σ H Q I ⟨_, ht, q⟩ => (ht X h).run pins s σ H Q I q⟩
theorem bA_ok (h : F X) (e : List Expr) : PA X e (bA F e) := ⟨fun pos pins s σ H Q I ⟨_, ht, q⟩ => (ht X h).run pos pins s σ H Q I q⟩
theorem bS_ok (h : F X) (e : Stmt) : PS X e (bS F e) := ⟨fun pins s σ H D I ⟨_, ht, q⟩ => (ht X h).run pins s σ H D I q⟩
theorem bSs_ok (h : F X) (e : List Stmt) : PSs X e (bSs F e) := ⟨fun pins s σ H D I ⟨_, ht, q⟩ => (ht X h).run pins s σ H D I q⟩
theorem bG_ok (h : F X) (e : Expr) : PG X e (bG F e) := ⟨fun pins s σ H v u Q I r ⟨_, ht, q⟩ => (ht X h).run pins s σ H v u Q I r q⟩
theorem bGs_ok (h : F X) (e : List Expr) : PGs X e (bGs F e) := ⟨fun pins s σ H v u Q I r ⟨_, ht, q⟩ => (ht X h).run pins s σ H v u Q I r q⟩
theorem bI_ok (h : F X) (tg e : Expr) : PI X tg e (bI F tg e) := ⟨fun pins s σ H R I ⟨_, ht, q⟩ => (ht X h).run pins s σ H R I q⟩
theorem bO_ok (h : F X) (e : Option Expr) : PO X e (bO F e) := ⟨fun pins s σ H Q I ⟨_, ht, q⟩ => (ht X h).run pins s σ H Q I q⟩
theorem bTs_ok (h : F X) (e : List Expr) : PTs X e (bTs F e) := ⟨fun pins s σ H Q I ⟨_, ht, q⟩ => (ht X h).run pins s σ H Q I q⟩
theorem bOp_ok (h : F X) (f : Value → Value → Sem Value) : OpR X f (bOp F f) := fun pins s σ H x y v u Q I rx ry ⟨_, ht, q⟩ => ht X h pins s σ H x y v u Q I rx ry q
theorem bIx_ok (h : F X) : IxR X (bIx F) := fun a b pins s σ H x y v u Q I rx ry ⟨_, ht, q⟩ => ht X h a b pins s σ H x y v u Q I rx ry q
theorem bSl_ok (h : F X) : SlR X (bSl F) := fun pins s σ H x v vl vu lo hi sl Q I rx hs p1 p2 ⟨_, ht, q⟩ => ht X h pins s σ H x v vl vu lo hi sl Q I rx hs p1 p2 q
theorem bCa_ok (h : F X) (f : Value) : CallR X f (bCa F f) := fun pins s σ H xs us Q I r ⟨_, ht, q⟩ => ht X h pins s σ H xs us Q I r q
theorem bMt_ok (h : F X) (id : String) : MtR X id (bMt F id) := fun pins s σ H x xs v us Q I rx r ⟨_, ht, q⟩ => ht X h pins s σ H x xs v us Q I rx r q
theorem bPut_ok (h : F X) : PSet X (bPut F) := fun pins s σ H o i v ov iv u Q I ro ri rv ⟨_, ht, q⟩ => ht X h pins s σ H o i v ov iv u Q I ro ri rv q
end

/-- what every context of the family has -/
structure Few (K : PySem.W.Frag) (F : Cx → Prop) : Prop where
  eK : ∀ X, F X → X.K = K
  calm : ∀ X, F X → X.calm = true
  un : ∀ X, F X → X.A.units + 200 < cLine

section
variable {K : PySem.W.Frag} {F : Cx → Prop} {ρ : List Addr} {H : Hp} {m : Mem} {x y : D} {v w : V} {Q : VK}
/-! ### data read off -/
def pyFn (K : PySem.W.Frag) (ρ : List Addr) (H : Hp) (f : Nat → Option PyData) : Prop := ∀ n d a, f n = some d → ρ[n]? = some a → Dp K H (.ref a) d ∧ d.plain = true
mutual
theorem pyD_dp {f : Nat → Option PyData} (hf : pyFn K ρ H f) : ∀ (d : D) (v : V) (p : PyData), RV K ρ H d v → pyD f d = some p → Dp K H v p ∧ p.plain = true
  | .none, v, p, r, h => by simp only [RV] at r; simp only [pyD, Option.some.injEq] at h; subst r; subst h; exact ⟨.non, rfl⟩
  | .bool b, v, p, r, h => by simp only [RV] at r; simp only [pyD, Option.some.injEq] at h; subst r; subst h; exact ⟨.bl b, rfl⟩
  | .int b, v, p, r, h => by simp only [RV] at r; simp only [pyD, Option.some.injEq] at h; subst r; subst h; exact ⟨.int b, rfl⟩
  | .str b, v, p, r, h => by simp only [RV] at r; simp only [pyD, Option.some.injEq] at h; subst r; subst h; exact ⟨.str b, rfl⟩
  | .tup xs, v, p, r, h => by
    simp only [RV] at r
    obtain ⟨a, vs, rfl, h2, h3⟩ := r
    simp only [pyD, Option.map_eq_some_iff] at h
    obtain ⟨ps, e1, rfl⟩ := h
    obtain ⟨q1, q2⟩ := pyDs_dp hf xs vs ps h3 e1
    exact ⟨.tup h2 q1, by simpa [PyData.plain] using q2⟩
  | .kl xs, v, p, r, h => by
    simp only [RV] at r
    obtain ⟨a, vs, rfl, h2, h3⟩ := r
    simp only [pyD, Option.map_eq_some_iff] at h
    obtain ⟨ps, e1, rfl⟩ := h
    obtain ⟨q1, q2⟩ := pyDs_dp hf xs vs ps h3 e1
    exact ⟨.lst h2.sq q1, by simpa [PyData.plain] using q2⟩
  | .ref n, v, p, r, h => by
    simp only [RV] at r
    obtain ⟨a, h1, rfl⟩ := r
    exact hf n p a (by simpa only [pyD] using h) h1
theorem pyDs_dp {f : Nat → Option PyData} (hf : pyFn K ρ H f) : ∀ (ds : List D) (vs : List V) (ps : List PyData), RVs K ρ H ds vs → pyDs f ds = some ps → DpAll K H vs ps ∧ PyData.plainAll ps = true
  | [], vs, ps, r, h => by simp only [RVs] at r; simp only [pyDs, Option.some.injEq] at h; subst r; subst h; exact ⟨.nil, rfl⟩
  | d :: ds, vs, ps, r, h => by
    simp only [RVs] at r
    obtain ⟨v, ws, rfl, h2, h3⟩ := r
    simp only [pyDs] at h
    split at h
    · rename_i x xs e1 e2
      cases h
      obtain ⟨q1, q2⟩ := pyD_dp hf d v x h2 e1
      obtain ⟨q3, q4⟩ := pyDs_dp hf ds ws xs h3 e2
      exact ⟨.cons q1 q3, by simp [PyData.plainAll, q2, q4]⟩
    · cases h
end
theorem pyR_fn (R : Rel K ρ m H) : ∀ k, pyFn K ρ H (pyR m k)
  | 0 => fun n d a h _ => by simp [pyR] at h
  | k + 1 => fun n d a h ha => by
    simp only [pyR] at h
    obtain ⟨o, ho, ro⟩ := R.there ha
    rw [ho] at h
    cases o with
    | lst xs =>
      obtain ⟨vs, h1, h2⟩ := ro
      simp only [Option.map_eq_some_iff] at h
      obtain ⟨ps, e1, rfl⟩ := h
      obtain ⟨q1, q2⟩ := pyDs_dp (pyR_fn R k) xs vs ps h2 e1
      exact ⟨.lst (SqL.of h1) q1, by simpa [PyData.plain] using q2⟩
    | _ => simp at h
theorem pyOf_dp (R : Rel K ρ m H) {p : PyData} (r : RV K ρ H x v) (h : pyOf m x = some p) : Dp K H v p ∧ p.plain = true := pyD_dp (pyR_fn R 20) x v p r h
def rEqP (K : PySem.W.Frag) : R2 := fun x y H Q => ∃ d e, Dp K H x d ∧ Dp K H y e ∧ d.plain = true ∧ e.plain = true ∧ min d.depth e.depth ≤ 150 ∧ Q (.bl (PyData.eqv d e)) H
def rNeP (K : PySem.W.Frag) : R2 := fun x y H Q => ∃ d e, Dp K H x d ∧ Dp K H y e ∧ d.plain = true ∧ e.plain = true ∧ min d.depth e.depth ≤ 150 ∧ Q (.bl (!PyData.eqv d e)) H
theorem op_eqP {X : Cx} (hu : X.A.units + 200 < cLine) : OpR X (compareOp .Eq) (rEqP X.K) := by
  intro pins s σ H x y v u Q I rx ry h
  obtain ⟨d, e, hd, he, sd, se, dp, q⟩ := h
  obtain ⟨as, r1⟩ := Dp.reads I d x v hd rx
  obtain ⟨bs, r2⟩ := Dp.reads I e y u he ry
  exact SeqAt.eq_plain r1 r2 sd se (by omega) ⟨.bl _, H, I, rfl, q⟩
theorem op_neP {X : Cx} (hu : X.A.units + 200 < cLine) : OpR X (compareOp .NotEq) (rNeP X.K) := by
  intro pins s σ H x y v u Q I rx ry h
  obtain ⟨d, e, hd, he, sd, se, dp, q⟩ := h
  obtain ⟨as, r1⟩ := Dp.reads I d x v hd rx
  obtain ⟨bs, r2⟩ := Dp.reads I e y u he ry
  exact SeqAt.ne_plain r1 r2 sd se (by omega) ⟨.bl _, H, I, rfl, q⟩
def rInP (K : PySem.W.Frag) (neg : Bool) : R2 := fun x y H Q => ∃ a vs ds e, y = .ref a ∧ (SqL K H a vs ∨ SqT K H a vs) ∧ DpAll K H vs ds ∧ PyData.plainAll ds = true ∧ Dp K H x e ∧ e.plain = true ∧ PyData.depthAll ds ≤ 150 ∧
  Q (.bl (if neg then !(ds.any fun z => PyData.eqv z e) else ds.any fun z => PyData.eqv z e)) H
theorem op_inP {X : Cx} (hu : X.A.units + 200 < cLine) : OpR X (compareOp .In) (rInP X.K false) := by
  intro pins s σ H x y v u Q I rx ry h
  obtain ⟨a, vs, ds, e, rfl, hs, hd, sd, he, se, dp, q⟩ := h
  obtain ⟨bs, r2⟩ := Dp.reads I e x v he rx
  rcases hs with hs | hs
  · obtain ⟨as, r1⟩ := Dp.reads I (.list ds) (.ref a) u (.lst hs hd) ry
    exact SeqAt.in_list_data r1 r2 sd se (by omega) ⟨.bl _, H, I, rfl, q⟩
  · obtain ⟨as, r1⟩ := Dp.reads I (.tuple ds) (.ref a) u (.tup hs hd) ry
    exact SeqAt.in_tuple_data r1 r2 sd se (by omega) ⟨.bl _, H, I, rfl, q⟩
theorem op_ninP {X : Cx} (hu : X.A.units + 200 < cLine) : OpR X (compareOp .NotIn) (rInP X.K true) := by
  intro pins s σ H x y v u Q I rx ry h
  obtain ⟨a, vs, ds, e, rfl, hs, hd, sd, he, se, dp, q⟩ := h
  obtain ⟨bs, r2⟩ := Dp.reads I e x v he rx
  rcases hs with hs | hs
  · obtain ⟨as, r1⟩ := Dp.reads I (.list ds) (.ref a) u (.lst hs hd) ry
    exact SeqAt.notIn_list_data r1 r2 sd se (by omega) ⟨.bl _, H, I, rfl, q⟩
  · obtain ⟨as, r1⟩ := Dp.reads I (.tuple ds) (.ref a) u (.tup hs hd) ry
    exact SeqAt.notIn_tuple_data r1 r2 sd se (by omega) ⟨.bl _, H, I, rfl, q⟩

/-! ### operators -/
theorem post_newL {xs : List D} {vs : List V} {Q : V → Hp → Prop} (R : Rel K ρ m H) (r : RVs K ρ H xs vs) (h : Post K (RV K) ρ H Q (newL xs m)) : ∀ p, H p = none → Q (.ref p) (upd H p (.lst vs)) := fun p hp =>
  h _ _ _ (R.allocL hp r) (List.prefix_append _ _) (.new hp) (.last R)
theorem rv_tup {xs : List D} {vs : List V} {p : Addr} (hp : H p = none) (r : RVs K ρ H xs vs) : RV K ρ (upd H p (.tup vs)) (.tup xs) (.ref p) := by
  simp only [RV]; exact ⟨p, vs, rfl, SqT.of upd_same, r.mono (List.prefix_refl _) (.new hp)⟩
theorem post_newT {xs : List D} {vs : List V} {Q : V → Hp → Prop} (R : Rel K ρ m H) (r : RVs K ρ H xs vs) (h : Post K (RV K) ρ H Q (.ok (.tup xs) m)) : ∀ p, H p = none → Q (.ref p) (upd H p (.tup vs)) := fun p hp =>
  h _ _ _ (R.new hp) (List.prefix_refl _) (.new hp) (rv_tup hp r)
theorem RVs.nil_iff {xs : List D} {vs : List V} (r : RVs K ρ H xs vs) : vs = [] ↔ xs = [] := by
  rw [← List.length_eq_zero_iff, ← List.length_eq_zero_iff, r.len]
theorem repS_len {z : Str} {n : Int} : (repS z n).length ≤ z.length * n.toNat ∨ repS z n = z := by
  unfold repS
  split
  · left; exact Nat.zero_le _
  · split
    · right; rfl
    · left
      have : ∀ (k : Nat) (a : Array Nat), ((List.replicate k z.cps).foldl (· ++ ·) a).size = a.size + k * z.cps.size := by
        intro k
        induction k with
        | zero => intro a; simp
        | succ k ih => intro a; simp only [List.replicate_succ, List.foldl_cons, ih, Array.size_append, Nat.add_mul, Nat.one_mul]; omega
      show ((List.replicate n.toNat z.cps).foldl (· ++ ·) #[]).size ≤ _
      rw [this, Nat.mul_comm]
      simp [Str.length]
theorem op_repS {X : Cx} : OpR X (binaryOp .Mult) (fun x y H Q => ∃ z n, x = .str z ∧ y = .int n ∧ -(2 ^ 63) ≤ n ∧ n < 2 ^ 31 ∧ z.length * n.toNat < sizeLine ∧ Q (.str (repS z n)) H) := by
  intro pins s σ H x y v u Q I rx ry h
  obtain ⟨z, n, rfl, rfl, h1, h2, h3, q⟩ := h
  obtain ⟨t, rfl⟩ := rx
  obtain ⟨t', rfl⟩ := ry
  refine P.mul_str ?_ ?_ ?_ ?_
  · rw [decide_eq_false (by omega), decide_eq_false (by omega)]; rfl
  · intro hn _ hgt
    have hz : z.length ≤ z.length * n.toNat := Nat.le_mul_of_pos_right _ (by omega)
    have hn0 : 0 < n := by omega
    have h4 : (z.length : Int) < 2 ^ 24 := by rw [sizeLine_eq] at h3; omega
    have h5 : (z.length : Int) * n ≤ 2 ^ 63 - 1 := by
      have e : (z.length : Int) * n = ((z.length * n.toNat : Nat) : Int) := by
        rw [Int.natCast_mul, Int.toNat_of_nonneg (by omega)]
      rw [e]
      rw [sizeLine_eq] at h3
      omega
    have := (Int.le_ediv_iff_mul_le hn0).mpr h5
    omega
  · intro _ _
    exact decide_eq_false (by omega)
  · unfold repS at q
    split
    · rename_i hn
      rw [if_pos hn] at q
      exact ⟨Nat.zero_le _, .str Str.empty, H, I.tok _, ⟨_, rfl⟩, q⟩
    · rename_i hn
      rw [if_neg hn] at q
      split
      · rename_i h4
        rw [if_pos h4] at q
        exact ⟨.str z, H, I, ⟨_, rfl⟩, q⟩
      · rename_i h4
        rw [if_neg h4] at q
        refine ⟨?_, .str _, H, I.tok _, ⟨_, rfl⟩, q⟩
        have := repS_len (z := z) (n := n)
        unfold repS at this
        rw [if_neg hn, if_neg h4] at this
        rcases this with q1 | q1
        · omega
        · rw [q1]
          have hz : z.length ≤ z.length * n.toNat := Nat.le_mul_of_pos_right _ (by omega)
          omega
theorem opB_ok (hF : Few K F) {o : Operator} (R : Rel K ρ m H) (rx : RV K ρ H x v) (ry : RV K ρ H y w) (h : Post K (RV K) ρ H Q (opB o x y m)) : bOp F (binaryOp o) v w H Q := by
  unfold opB at h
  split at h
  case h_1 => simp only [RV] at rx ry; subst rx; subst ry; exact ⟨_, fun X _ => op_add, _, _, rfl, rfl, h.ok R (by simp [RV])⟩
  case h_2 => simp only [RV] at rx ry; subst rx; subst ry; exact ⟨_, fun X _ => op_add_ib, _, _, rfl, rfl, h.ok R (by simp [RV, PyProof.Rows.b2i])⟩
  case h_3 =>
    simp only [RV] at rx ry; subst rx; subst ry
    split at h
    · rename_i hl; exact ⟨_, fun X _ => op_add_str, _, _, rfl, rfl, hl, h.ok R (by simp [RV])⟩
    · exact h.elim
  case h_4 =>
    split at h
    · rename_i xs ys hl
      have rx' := rx
      have ry' := ry
      simp only [RV] at rx ry
      obtain ⟨a, vs, rfl, h2, h3⟩ := rx
      obtain ⟨b, ws, rfl, k2, k3⟩ := ry
      refine ⟨rCatA K, fun X hX => hF.eK X hX ▸ op_catA, a, b, vs, ws, rfl, rfl, h2, k2, by rw [h3.len, k3.len]; exact hl, fun e => ?_, fun _ e => ?_, fun _ _ => post_newT R (h3.app k3) h⟩
      · have e1 := h3.nil_iff.mp e
        subst e1
        exact h.ok R (by simpa using ry')
      · have e1 := k3.nil_iff.mp e
        subst e1
        exact h.ok R (by simpa using rx')
    · exact h.elim
  case h_5 =>
    split at h
    · rename_i xs ys e1 e2
      split at h
      · rename_i hl
        simp only [RV] at rx ry
        obtain ⟨a, ha, rfl⟩ := rx
        obtain ⟨b, hb, rfl⟩ := ry
        obtain ⟨vs, h1, h2⟩ := R.lst e1 ha
        obtain ⟨ws, k1, k2⟩ := R.lst e2 hb
        exact ⟨_, fun X _ => op_cat, a, b, vs, ws, rfl, rfl, h1, k1, by rw [h2.len, k2.len]; exact hl, post_newL R (h2.app k2) h⟩
      · exact h.elim
    · exact h.elim
  case h_6 => simp only [RV] at rx ry; subst rx; subst ry; exact ⟨_, fun X _ => op_sub, _, _, rfl, rfl, h.ok R (by simp [RV])⟩
  case h_7 =>
    simp only [RV] at rx ry; subst rx; subst ry
    split at h
    · rename_i hl
      rcases hl with hl | hl
      · exact ⟨_, fun X _ => op_mul, _, _, rfl, rfl, hl, h.ok R (by simp [RV])⟩
      · exact ⟨_, fun X _ => op_mulW, _, _, rfl, rfl, hl, h.ok R (by simp [RV])⟩
    · exact h.elim
  case h_8 =>
    split at h
    · rename_i xs e1
      split at h
      · rename_i hl
        simp only [RV] at rx ry; subst ry
        obtain ⟨a, ha, rfl⟩ := rx
        obtain ⟨vs, h1, h2⟩ := R.lst e1 ha
        exact ⟨_, fun X _ => op_rep, a, _, vs, rfl, rfl, h1, hl.1, hl.2.1, by rw [h2.len]; exact hl.2.2, post_newL R (h2.rep _) h⟩
      · exact h.elim
    · exact h.elim
  case h_9 =>
    simp only [RV] at rx ry; subst rx; subst ry
    split at h
    · rename_i hl; exact ⟨_, fun X _ => op_fdivW, _, _, rfl, rfl, hl, h.ok R (by simp [RV])⟩
    · exact h.elim
  case h_10 =>
    simp only [RV] at rx ry; subst rx; subst ry
    split at h
    · rename_i hl; exact ⟨_, fun X _ => op_mod, _, _, rfl, rfl, hl, h.ok R (by simp [RV])⟩
    · exact h.elim
  case h_11 =>
    simp only [RV] at rx ry; subst rx; subst ry
    split at h
    · rename_i hl; exact ⟨_, fun X _ => op_pow, _, _, rfl, rfl, hl, h.ok R (by simp [RV])⟩
    · exact h.elim
  case h_12 =>
    simp only [RV] at rx ry; subst rx; subst ry
    split at h
    · rename_i hl; exact ⟨_, fun X _ => op_shl, _, _, rfl, rfl, hl, h.ok R (by simp [RV])⟩
    · exact h.elim
  case h_13 =>
    simp only [RV] at rx ry; subst rx; subst ry
    split at h
    · rename_i hl; exact ⟨_, fun X _ => op_shr, _, _, rfl, rfl, hl, h.ok R (by simp [RV])⟩
    · exact h.elim
  case h_14 => simp only [RV] at rx ry; subst rx; subst ry; exact ⟨_, fun X _ => op_and, _, _, rfl, rfl, h.ok R (by simp [RV])⟩
  case h_15 => simp only [RV] at rx ry; subst rx; subst ry; exact ⟨_, fun X _ => op_or, _, _, rfl, rfl, h.ok R (by simp [RV])⟩
  case h_16 => simp only [RV] at rx ry; subst rx; subst ry; exact ⟨_, fun X _ => op_xor, _, _, rfl, rfl, h.ok R (by simp [RV])⟩
  case h_17 =>
    simp only [RV] at rx ry; subst rx; subst ry
    split at h
    · rename_i hl; exact ⟨_, fun X _ => op_repS, _, _, rfl, rfl, hl.1, hl.2.1, hl.2.2, h.ok R (by simp [RV])⟩
    · exact h.elim
  case h_18 => exact h.elim
theorem opA_ok {o : Operator} (R : Rel K ρ m H) (rx : RV K ρ H x v) (ry : RV K ρ H y w) (h : Post K (RV K) ρ H Q (opA o x y m)) : bOp F (inplaceOp o) v w H Q := by
  unfold opA at h
  split at h
  case h_1 => simp only [RV] at rx ry; subst rx; subst ry; exact ⟨_, fun X _ => iop_add, _, _, rfl, rfl, h.ok R (by simp [RV])⟩
  case h_2 =>
    simp only [RV] at rx ry; subst rx; subst ry
    split at h
    · rename_i hl; exact ⟨_, fun X _ => iop_add_str, _, _, rfl, rfl, hl, h.ok R (by simp [RV])⟩
    · exact h.elim
  case h_3 => simp only [RV] at rx ry; subst rx; subst ry; exact ⟨_, fun X _ => iop_sub, _, _, rfl, rfl, h.ok R (by simp [RV])⟩
  case h_4 => simp only [RV] at rx ry; subst rx; subst ry; exact ⟨_, fun X _ => iop_or, _, _, rfl, rfl, h.ok R (by simp [RV])⟩
  case h_5 => simp only [RV] at rx ry; subst rx; subst ry; exact ⟨_, fun X _ => iop_xor, _, _, rfl, rfl, h.ok R (by simp [RV])⟩
  case h_6 => exact h.elim
theorem post_ofB {o : Option Bool} {Q : V → Hp → Prop} (R : Rel K ρ m H) (h : Post K (RV K) ρ H Q (ofB o m)) : ∃ b, o = some b ∧ Q (.bl b) H := by
  cases o with
  | none => exact h.elim
  | some b => exact ⟨b, rfl, Post.ok (RR := RV K) (a := D.bool b) h R (by simp [RV])⟩
theorem post_ofNB {o : Option Bool} {Q : V → Hp → Prop} (R : Rel K ρ m H) (h : Post K (RV K) ρ H Q (ofNB o m)) : ∃ b, o = some b ∧ Q (.bl (!b)) H := by
  cases o with
  | none => exact h.elim
  | some b => exact ⟨b, rfl, Post.ok (RR := RV K) (a := D.bool (!b)) h R (by simp [RV])⟩
theorem in_ok {xs : List D} {b : Bool} {neg : Bool} (R : Rel K ρ m H) (rx : RV K ρ H x v) (ry : RV K ρ H y w) (hs : seqOf m y = some xs) (hb : inD m x xs = some b) (q : Q (.bl (if neg then !b else b)) H) : rInP K neg v w H Q := by
  obtain ⟨a, vs, rfl, rs, hk⟩ := ry.seq R hs
  unfold inD at hb
  split at hb
  · rename_i e ds e1 e2
    split at hb
    · rename_i hd
      cases hb
      obtain ⟨q1, q2⟩ := pyOf_dp R rx e1
      obtain ⟨q3, q4⟩ := pyDs_dp (pyR_fn R 20) xs vs ds rs e2
      refine ⟨a, vs, ds, e, rfl, ?_, q3, q4, q1, q2, hd.1, q⟩
      rcases hk with ⟨_, _, hk⟩ | ⟨_, hk⟩
      · exact .inl hk
      · exact .inr hk
    · cases hb
  · cases hb
theorem opC_ok (hF : Few K F) {o : CmpOp} (R : Rel K ρ m H) (rx : RV K ρ H x v) (ry : RV K ρ H y w) (h : Post K (RV K) ρ H Q (opC o x y m)) : bOp F (compareOp o) v w H Q := by
  unfold opC at h
  split at h
  case h_1 =>
    obtain ⟨b, e, q⟩ := post_ofB R h
    unfold eqD at e
    split at e
    · rename_i p1 p2 e1 e2
      split at e
      · rename_i hd
        cases e
        obtain ⟨q1, q2⟩ := pyOf_dp R rx e1
        obtain ⟨q3, q4⟩ := pyOf_dp R ry e2
        exact ⟨rEqP K, fun X hX => hF.eK X hX ▸ op_eqP (hF.un X hX), p1, p2, q1, q3, q2, q4, hd, q⟩
      · cases e
    · cases e
  case h_2 =>
    obtain ⟨b, e, q⟩ := post_ofNB R h
    unfold eqD at e
    split at e
    · rename_i p1 p2 e1 e2
      split at e
      · rename_i hd
        cases e
        obtain ⟨q1, q2⟩ := pyOf_dp R rx e1
        obtain ⟨q3, q4⟩ := pyOf_dp R ry e2
        exact ⟨rNeP K, fun X hX => hF.eK X hX ▸ op_neP (hF.un X hX), p1, p2, q1, q3, q2, q4, hd, q⟩
      · cases e
    · cases e
  case h_3 => simp only [RV] at rx ry; subst rx; subst ry; exact ⟨_, fun X _ => op_lt, _, _, rfl, rfl, h.ok R (by simp [RV])⟩
  case h_4 => simp only [RV] at rx ry; subst rx; subst ry; exact ⟨_, fun X _ => op_le, _, _, rfl, rfl, h.ok R (by simp [RV])⟩
  case h_5 => simp only [RV] at rx ry; subst rx; subst ry; exact ⟨_, fun X _ => op_gt, _, _, rfl, rfl, h.ok R (by simp [RV])⟩
  case h_6 => simp only [RV] at rx ry; subst rx; subst ry; exact ⟨_, fun X _ => op_ge, _, _, rfl, rfl, h.ok R (by simp [RV])⟩
  case h_7 => simp only [RV] at rx ry; subst rx; subst ry; exact ⟨_, fun X _ => op_isN, rfl, h.ok R (by simp [RV])⟩
  case h_8 hne =>
    have hv : v ≠ .non := by
      intro z; subst z
      cases x <;> simp [RV] at rx
      exact hne rfl
    simp only [RV] at ry; subst ry
    exact ⟨_, fun X _ => op_isN, rfl, by rw [decide_eq_false hv]; exact h.ok R (by simp [RV])⟩
  case h_9 => simp only [RV] at rx ry; subst rx; subst ry; exact ⟨_, fun X _ => op_notN, rfl, h.ok R (by simp [RV])⟩
  case h_10 hne =>
    have hv : v ≠ .non := by
      intro z; subst z
      cases x <;> simp [RV] at rx
      exact hne rfl
    simp only [RV] at ry; subst ry
    exact ⟨_, fun X _ => op_notN, rfl, by rw [decide_eq_false hv]; exact h.ok R (by simp [RV])⟩
  case h_11 => simp only [RV] at rx ry; subst rx; subst ry; exact ⟨_, fun X _ => op_in_str, _, _, rfl, rfl, h.ok R (by simp [RV])⟩
  case h_12 => simp only [RV] at rx ry; subst rx; subst ry; exact ⟨_, fun X _ => op_notin_str, _, _, rfl, rfl, h.ok R (by simp [RV])⟩
  case h_13 =>
    split at h
    · rename_i ys e
      obtain ⟨b, e2, q⟩ := post_ofB R h
      exact ⟨rInP K false, fun X hX => hF.eK X hX ▸ op_inP (hF.un X hX), in_ok R rx ry e e2 q⟩
    · exact h.elim
  case h_14 =>
    split at h
    · rename_i ys e
      obtain ⟨b, e2, q⟩ := post_ofNB R h
      exact ⟨rInP K true, fun X hX => hF.eK X hX ▸ op_ninP (hF.un X hX), in_ok R rx ry e e2 q⟩
    · exact h.elim
  case h_15 => exact h.elim
theorem atI_rv {xs : List D} {vs : List V} {k : Int} {d : D} (r : RVs K ρ H xs vs) (h : atI xs k = some d) : ∃ u, atI vs k = some u ∧ RV K ρ H d u := by
  unfold atI at h ⊢
  rw [r.len]
  cases e : ixN xs.length k with
  | none => rw [e] at h; simp at h
  | some j =>
    rw [e] at h
    simp only [Option.bind_some] at h ⊢
    exact r.get h
theorem idx_ok (hF : Few K F) (R : Rel K ρ m H) (rx : RV K ρ H x v) (ry : RV K ρ H y w) (h : Post K (RV K) ρ H Q (idxD x y m)) : bIx F v w H Q := by
  unfold idxD at h
  split at h
  · split at h
    · rename_i hl
      split at h
      · rename_i c e
        simp only [RV] at rx ry; subst rx; subst ry
        exact ⟨_, fun X _ => ix_str, _, _, c, rfl, rfl, hl, e, h.ok R (by simp [RV])⟩
      · exact h.elim
    · exact h.elim
  · split at h
    · rename_i xs e
      split at h
      · rename_i d e2
        obtain ⟨a, vs, rfl, rs, hk⟩ := rx.seq R e
        simp only [RV] at ry; subst ry
        obtain ⟨u, e3, r3⟩ := atI_rv rs e2
        rcases hk with ⟨_, _, hk⟩ | ⟨_, hk⟩
        · exact ⟨rIxL K, fun X hX => hF.eK X hX ▸ ix_list, a, vs, _, u, rfl, rfl, hk, e3, h.ok R r3⟩
        · exact ⟨rIxT K, fun X hX => hF.eK X hX ▸ ix_tup, a, vs, _, u, rfl, rfl, hk, e3, h.ok R r3⟩
      · exact h.elim
    · exact h.elim
  · exact h.elim
theorem RVs.cut {xs : List D} {vs : List V} (r : RVs K ρ H xs vs) (lo hi : Option Int) : RVs K ρ H (cutD xs lo hi) (cutV vs lo hi) := by
  unfold cutD cutV
  rw [r.len]
  exact (r.drop _).take _
theorem slc_ok (hF : Few K F) {lo hi : Option Int} (R : Rel K ρ m H) (rx : RV K ρ H x v) (h : Post K (RV K) ρ H Q (slcD x lo hi m)) : bSl F v lo hi H Q := by
  unfold slcD at h
  split at h
  · rename_i xs
    have rx' := rx
    simp only [RV] at rx
    obtain ⟨a, vs, rfl, h2, h3⟩ := rx
    refine ⟨rSlA K, fun X hX => hF.eK X hX ▸ sl_tupA, a, vs, rfl, h2, fun e => ?_, fun _ => post_newT R (h3.cut lo hi) h⟩
    have : cutD xs lo hi = xs := by
      unfold cutD
      rw [h3.len] at e
      rw [e.1, e.2]; simp
    rw [this] at h
    exact h.ok R rx'
  · simp only [RV] at rx; subst rx
    split at h
    · rename_i hl; exact ⟨rSlS, fun X hX => sl_str, _, rfl, hl, h.ok R (by simp only [RV])⟩
    · exact h.elim
  · simp only [RV] at rx
    obtain ⟨a, vs, rfl, h2, h3⟩ := rx
    exact ⟨rSlL K, fun X hX => hF.eK X hX ▸ sl_list, a, vs, rfl, h2.sq, post_newL R (h3.cut lo hi) h⟩
  · split at h
    · rename_i xs e
      obtain ⟨a, vs, rfl, rs, hk⟩ := rx.seq R e
      rcases hk with ⟨_, _, hk⟩ | ⟨hk, _⟩
      · exact ⟨rSlL K, fun X hX => hF.eK X hX ▸ sl_list, a, vs, rfl, hk, post_newL R (rs.cut lo hi) h⟩
      · cases hk
    · exact h.elim
  · exact h.elim
theorem put_ok {o i d : D} {ov iv dv : V} {m' : Mem} {Q : Hp → Prop} (R : Rel K ρ m H) (ro : RV K ρ H o ov) (ri : RV K ρ H i iv) (rd : RV K ρ H d dv) (h : putD o i d m = some m')
    (q : ∀ H', Rel K ρ m' H' → Ext H H' → Q H') : bPut F ov iv dv H Q := by
  unfold putD at h
  split at h
  · rename_i n k
    split at h
    · rename_i xs e
      split at h
      · rename_i j ej
        cases h
        simp only [RV] at ro ri; subst ri
        obtain ⟨a, ha, rfl⟩ := ro
        obtain ⟨vs, h1, h2⟩ := R.lst e ha
        obtain ⟨R', X'⟩ := R.writeL ha h1 (h2.set (j := j) rd)
        exact ⟨_, fun X _ => set_list, a, vs, _, j, rfl, rfl, h1, by rw [h2.len]; exact ej, q _ R' X'⟩
      · cases h
    · cases h
  · cases h
end
end PC

namespace PC
open PySem L2 Classical
open PyProof.Rows (IntsAre)

section
variable {X : Cx}
theorem old_push {s : Shared} {o : Obj} {h' : Heap} (hk : ∀ b u, b ∉ [s.heap.objs.size] → (s.heap.push o).get? b = some u → h'.get? b = some u) :
    ∀ b u, s.heap.get? b = some u → h'.get? b = some u := fun b u e => by
  refine hk b u (fun hm => ?_) (Heap.get?_push_of_some _ e)
  rcases List.mem_cons.mp hm with e1 | hm
  · exact absurd (e1 ▸ Heap.lt_size e) (Nat.lt_irrefl _)
  · cases hm
def rSumT (K : PySem.W.Frag) : List V → Hp → VK → Prop := fun vs H Q => ∃ (a : Addr) (ns : List Int), vs = [V.ref a] ∧ SqT K H a (ns.map V.int) ∧ Q (.int ns.sum) H
theorem cr_sumT (hc : X.calm = true) : CallR X (.builtin "sum") (rSumT X.K) := by
  intro pins s σ H vs us Q I r h
  obtain ⟨a, ns, rfl, hs, q⟩ := h
  obtain ⟨its, rv, hl, _⟩ := I.tuple hs
  rw [Vals.ref1 r]
  have hi := rv.ints
  have hlt : a < s.heap.objs.size := by obtain ⟨_, e, _⟩ := hl; exact Heap.lt_size e
  refine call_sum_walkG (wpAny_pyIter_tuple hl ⟨_, _, _, its.toArray.size, _, _, fun i => ns.getD i 0, rfl, Walks.tuple (A := X.A.in1) (I.ok.hd hc) _ a (Nat.ne_of_lt hlt) its.toArray,
    ⟨⟨_, Heap.get?_push_size _ rfl, rfl, rfl⟩, Heap.IsTuple.push (show s.heap.IsTuple a its.toArray from hl) _⟩, fun b hb => ?_, fun i v hv => ?_, fun h' tk t' hk => ?_⟩)
  · show b < (s.heap.push _).objs.size
    rw [Heap.size_push]
    rcases List.mem_cons.mp hb with rfl | hb
    · exact Nat.lt_succ_self _
    · rcases List.mem_cons.mp hb with rfl | hb
      · exact Nat.lt_succ_of_lt hlt
      · cases hb
  · obtain ⟨n, t, e, hn⟩ := hi.at i v (by simpa using hv)
    exact ⟨t, by show v = Value.int (ns.getD i 0) t; rw [e, List.getD_eq_getElem?_getD, hn]; rfl⟩
  · have hln : its.length = ns.length := by rw [← rv.length]; simp
    rw [PyProof.Rows.preSum_getD, List.take_of_length_le (by simp [hln])]
    exact ⟨.int _, H, I.kept (old_push hk), ⟨_, rfl⟩, q⟩
def rAllT (K : PySem.W.Frag) : List V → Hp → VK → Prop := fun vs H Q => ∃ (a : Addr) (bs : List Bool), vs = [V.ref a] ∧ SqT K H a (bs.map V.bl) ∧ Q (.bl (bs.all id)) H
def rAnyT (K : PySem.W.Frag) : List V → Hp → VK → Prop := fun vs H Q => ∃ (a : Addr) (bs : List Bool), vs = [V.ref a] ∧ SqT K H a (bs.map V.bl) ∧ Q (.bl (bs.any id)) H
theorem cr_allT (hc : X.calm = true) : CallR X (.builtin "all") (rAllT X.K) := by
  intro pins s σ H vs us Q I r h
  obtain ⟨a, bs, rfl, hs, q⟩ := h
  obtain ⟨its, rv, hl, _⟩ := I.tuple hs
  rw [Vals.ref1 r]
  have hb := rv.bls
  have hlt : a < s.heap.objs.size := by obtain ⟨_, e, _⟩ := hl; exact Heap.lt_size e
  refine call_all_walk (wpAny_pyIter_tuple hl ⟨_, _, _, _, _, _, _, rfl, Walks.tuple (A := X.A.in1) (I.ok.hd hc) _ a (Nat.ne_of_lt hlt) its.toArray,
    ⟨⟨_, Heap.get?_push_size _ rfl, rfl, rfl⟩, Heap.IsTuple.push (show s.heap.IsTuple a its.toArray from hl) _⟩, truth_bools hb, fun h' tk hk => ?_⟩)
  refine ⟨.bl _, H, I.kept (old_push hk), ?_, q⟩
  show Value.bool _ = Value.bool _
  rw [← all_range, hb, List.size_toArray, List.length_map]
theorem cr_anyT (hc : X.calm = true) : CallR X (.builtin "any") (rAnyT X.K) := by
  intro pins s σ H vs us Q I r h
  obtain ⟨a, bs, rfl, hs, q⟩ := h
  obtain ⟨its, rv, hl, _⟩ := I.tuple hs
  rw [Vals.ref1 r]
  have hb := rv.bls
  have hlt : a < s.heap.objs.size := by obtain ⟨_, e, _⟩ := hl; exact Heap.lt_size e
  refine call_any_walk (wpAny_pyIter_tuple hl ⟨_, _, _, _, _, _, _, rfl, Walks.tuple (A := X.A.in1) (I.ok.hd hc) _ a (Nat.ne_of_lt hlt) its.toArray,
    ⟨⟨_, Heap.get?_push_size _ rfl, rfl, rfl⟩, Heap.IsTuple.push (show s.heap.IsTuple a its.toArray from hl) _⟩, truth_bools hb, fun h' tk hk => ?_⟩)
  refine ⟨.bl _, H, I.kept (old_push hk), ?_, q⟩
  show Value.bool _ = Value.bool _
  rw [← any_range, hb, List.size_toArray, List.length_map]
end

theorem maxL_mem : ∀ {ns : List Int}, ns ≠ [] → maxL ns ∈ ns ∧ ∀ y ∈ ns, y ≤ maxL ns
  | [], h => absurd rfl h
  | [x], _ => by simp [maxL]
  | x :: y :: r, _ => by
    obtain ⟨h1, h2⟩ := maxL_mem (ns := y :: r) (by simp)
    unfold maxL
    split
    · rename_i hle
      refine ⟨List.mem_cons_self, fun z hz => ?_⟩
      rcases List.mem_cons.mp hz with rfl | hz
      · exact Int.le_refl _
      · have := h2 z hz; omega
    · rename_i hle
      refine ⟨List.mem_cons_of_mem _ h1, fun z hz => ?_⟩
      rcases List.mem_cons.mp hz with rfl | hz
      · omega
      · exact h2 z hz
theorem minL_mem : ∀ {ns : List Int}, ns ≠ [] → minL ns ∈ ns ∧ ∀ y ∈ ns, minL ns ≤ y
  | [], h => absurd rfl h
  | [x], _ => by simp [minL]
  | x :: y :: r, _ => by
    obtain ⟨h1, h2⟩ := minL_mem (ns := y :: r) (by simp)
    unfold minL
    split
    · rename_i hle
      refine ⟨List.mem_cons_self, fun z hz => ?_⟩
      rcases List.mem_cons.mp hz with rfl | hz
      · exact Int.le_refl _
      · have := h2 z hz; omega
    · rename_i hle
      refine ⟨List.mem_cons_of_mem _ h1, fun z hz => ?_⟩
      rcases List.mem_cons.mp hz with rfl | hz
      · omega
      · exact h2 z hz

/-- the value that a builtin's name has, and the name -/
def BI.val : BI → Value
  | .len => .builtin "len" | .int => .type "int" | .abs => .builtin "abs" | .min2 => .builtin "min" | .max2 => .builtin "max" | .sum => .builtin "sum" | .all => .builtin "all" | .any => .builtin "any"
  | .tuple => .type "tuple" | .list => .type "list" | .max1 => .builtin "max" | .min1 => .builtin "min"
section
variable {K : PySem.W.Frag} {F : Cx → Prop} {ρ : List Addr} {H : Hp} {m : Mem} {x y : D} {v w : V} {Q : VK}
theorem seq_ints {ns : List Int} (R : Rel K ρ m H) (r : RV K ρ H x v) (h : lintsD m x = some ns) : ∃ a, v = .ref a ∧ (SqL K H a (ns.map V.int) ∨ SqT K H a (ns.map V.int)) := by
  unfold lintsD at h
  obtain ⟨xs, e1, e2⟩ := Option.bind_eq_some_iff.mp h
  obtain ⟨a, vs, rfl, rs, hk⟩ := r.seq R e1
  have := rs.ints e2
  subst this
  rcases hk with ⟨_, _, hk⟩ | ⟨_, hk⟩
  · exact ⟨a, rfl, .inl hk⟩
  · exact ⟨a, rfl, .inr hk⟩
theorem seq_intsL {n : Nat} {ns : List Int} (R : Rel K ρ m H) (r : RV K ρ H (.ref n) v) (h : lintsD m (.ref n) = some ns) : ∃ a, v = .ref a ∧ SqL K H a (ns.map V.int) := by
  unfold lintsD at h
  obtain ⟨xs, e1, e2⟩ := Option.bind_eq_some_iff.mp h
  obtain ⟨a, vs, rfl, rs, hk⟩ := r.seq R e1
  have := rs.ints e2
  subst this
  rcases hk with ⟨_, _, hk⟩ | ⟨hd, hk⟩
  · exact ⟨a, rfl, hk⟩
  · cases hd
theorem seq_bools {ns : List Bool} (R : Rel K ρ m H) (r : RV K ρ H x v) (h : lboolsD m x = some ns) : ∃ a, v = .ref a ∧ (SqL K H a (ns.map V.bl) ∨ SqT K H a (ns.map V.bl)) := by
  unfold lboolsD at h
  obtain ⟨xs, e1, e2⟩ := Option.bind_eq_some_iff.mp h
  obtain ⟨a, vs, rfl, rs, hk⟩ := r.seq R e1
  have := rs.bools e2
  subst this
  rcases hk with ⟨_, _, hk⟩ | ⟨_, hk⟩
  · exact ⟨a, rfl, .inl hk⟩
  · exact ⟨a, rfl, .inr hk⟩
theorem bi_ok (hF : Few K F) {f : BI} {ds : List D} {vs : List V} (R : Rel K ρ m H) (r : RVs K ρ H ds vs) (h : Post K (RV K) ρ H Q (biD f ds m)) : bCa F f.val vs H Q := by
  unfold biD at h
  split at h
  case h_1 =>
    obtain ⟨v, rfl, rv⟩ := r.one_inv
    rename_i d
    split at h
    · rename_i n e
      refine ⟨fun xs H Q => ∃ x n, xs = [x] ∧ LenV K x H n ∧ Q (.int n) H, fun X hX => hF.eK X hX ▸ call_len, v, n, rfl, ?_, h.ok R (by simp [RV])⟩
      unfold lenD at e
      split at e
      · split at e
        · rename_i hl
          cases e
          simp only [RV] at rv; subst rv
          exact ⟨hl, rfl⟩
        · cases e
      · obtain ⟨xs, e1, rfl⟩ := Option.map_eq_some_iff.mp e
        obtain ⟨a, vs, rfl, rs, hk⟩ := rv.seq R e1
        rcases hk with ⟨_, _, hk⟩ | ⟨_, hk⟩
        · exact .inl ⟨vs, hk, rs.len.symm⟩
        · exact .inr ⟨vs, hk, rs.len.symm⟩
    · exact h.elim
  case h_2 => obtain ⟨v, rfl, rv⟩ := r.one_inv; simp only [RV] at rv; subst rv; exact ⟨_, fun X _ => call_int1, .inl ⟨_, rfl, h.ok R (by simp [RV])⟩⟩
  case h_3 => obtain ⟨v, rfl, rv⟩ := r.one_inv; simp only [RV] at rv; subst rv; exact ⟨_, fun X _ => call_int1, .inr ⟨_, rfl, h.ok R (by simp [RV])⟩⟩
  case h_4 => obtain ⟨v, rfl, rv⟩ := r.one_inv; simp only [RV] at rv; subst rv; exact ⟨_, fun X _ => call_abs, _, rfl, h.ok R (by simp [RV])⟩
  case h_5 => obtain ⟨v, w, rfl, rv, rw'⟩ := r.two_inv; simp only [RV] at rv rw'; subst rv; subst rw'; exact ⟨_, fun X hX => call_min2 (hF.calm X hX), _, _, rfl, h.ok R (by simp [RV])⟩
  case h_6 => obtain ⟨v, w, rfl, rv, rw'⟩ := r.two_inv; simp only [RV] at rv rw'; subst rv; subst rw'; exact ⟨_, fun X hX => call_max2 (hF.calm X hX), _, _, rfl, h.ok R (by simp [RV])⟩
  case h_7 =>
    obtain ⟨v, rfl, rv⟩ := r.one_inv
    split at h
    · rename_i ns e
      obtain ⟨a, rfl, hs⟩ := seq_ints R rv e
      rcases hs with hs | hs
      · exact ⟨rSum K, fun X hX => hF.eK X hX ▸ cr_sum (hF.calm X hX), a, ns, rfl, hs, h.ok R (by simp [RV])⟩
      · exact ⟨rSumT K, fun X hX => hF.eK X hX ▸ cr_sumT (hF.calm X hX), a, ns, rfl, hs, h.ok R (by simp [RV])⟩
    · exact h.elim
  case h_8 =>
    obtain ⟨v, rfl, rv⟩ := r.one_inv
    split at h
    · rename_i ns e
      split at h
      · exact h.elim
      · rename_i hne
        obtain ⟨a, rfl, hs⟩ := seq_intsL R rv e
        have q := h.ok (b := .int (maxL ns)) R (by simp [RV])
        obtain ⟨h1, h2⟩ := maxL_mem hne
        · exact ⟨rMax K, fun X hX => hF.eK X hX ▸ cr_max (hF.calm X hX), a, ns, rfl, hs, List.length_pos_iff.mpr hne, fun M k1 k2 => by
            have : M = maxL ns := Int.le_antisymm (h2 M k1) (k2 _ h1)
            rw [this]; exact q⟩
    · exact h.elim
  case h_9 =>
    obtain ⟨v, rfl, rv⟩ := r.one_inv
    split at h
    · rename_i ns e
      split at h
      · exact h.elim
      · rename_i hne
        obtain ⟨a, rfl, hs⟩ := seq_intsL R rv e
        have q := h.ok (b := .int (minL ns)) R (by simp [RV])
        obtain ⟨h1, h2⟩ := minL_mem hne
        · exact ⟨rMin K, fun X hX => hF.eK X hX ▸ cr_min (hF.calm X hX), a, ns, rfl, hs, List.length_pos_iff.mpr hne, fun M k1 k2 => by
            have : M = minL ns := Int.le_antisymm (k2 _ h1) (h2 M k1)
            rw [this]; exact q⟩
    · exact h.elim
  case h_10 =>
    obtain ⟨v, rfl, rv⟩ := r.one_inv
    split at h
    · rename_i ns e
      obtain ⟨a, rfl, hs⟩ := seq_bools R rv e
      rcases hs with hs | hs
      · exact ⟨rAll K, fun X hX => hF.eK X hX ▸ cr_all (hF.calm X hX), a, ns, rfl, hs, h.ok R (by simp [RV])⟩
      · exact ⟨rAllT K, fun X hX => hF.eK X hX ▸ cr_allT (hF.calm X hX), a, ns, rfl, hs, h.ok R (by simp [RV])⟩
    · exact h.elim
  case h_11 =>
    obtain ⟨v, rfl, rv⟩ := r.one_inv
    split at h
    · rename_i ns e
      obtain ⟨a, rfl, hs⟩ := seq_bools R rv e
      rcases hs with hs | hs
      · exact ⟨rAny K, fun X hX => hF.eK X hX ▸ cr_any (hF.calm X hX), a, ns, rfl, hs, h.ok R (by simp [RV])⟩
      · exact ⟨rAnyT K, fun X hX => hF.eK X hX ▸ cr_anyT (hF.calm X hX), a, ns, rfl, hs, h.ok R (by simp [RV])⟩
    · exact h.elim
  case h_12 =>
    obtain ⟨v, rfl, rv⟩ := r.one_inv
    split at h
    · rename_i d xs e
      obtain ⟨a, vs, rfl, rs, hk⟩ := rv.seq R e
      refine ⟨fun xs H Q => ∃ p ys, xs = [.ref p] ∧ ((SqL K H p ys ∧ ∀ l, H l = none → Q (.ref l) (upd H l (.tup ys))) ∨ (SqT K H p ys ∧ Q (.ref p) H)), fun X hX => hF.eK X hX ▸ call_tuple_of, a, vs, rfl, ?_⟩
      rcases hk with ⟨_, _, hk⟩ | ⟨ed, hk⟩
      · exact .inl ⟨hk, post_newT R rs h⟩
      · exact .inr ⟨hk, h.ok R (by subst ed; exact rv)⟩
    · exact h.elim
  case h_13 =>
    obtain ⟨v, rfl, rv⟩ := r.one_inv
    split at h
    · rename_i d xs e
      obtain ⟨a, vs, rfl, rs, hk⟩ := rv.seq R e
      refine ⟨fun xs H Q => ∃ p ys, xs = [.ref p] ∧ (SqL K H p ys ∨ SqT K H p ys) ∧ ∀ l, H l = none → Q (.ref l) (upd H l (.lst ys)), fun X hX => hF.eK X hX ▸ call_list_of, a, vs, rfl, ?_, post_newL R rs h⟩
      rcases hk with ⟨_, _, hk⟩ | ⟨_, hk⟩
      · exact .inl hk
      · exact .inr hk
    · exact h.elim
  case h_14 => exact h.elim
end
end PC

/-! PCk: the model's syntax against the small one -/
namespace PC
open PySem L2
abbrev Sc := List (Str × NameKind)
def isGl (sc : Sc) (x : Str) : Bool := match sc.lookup x with | some .globalImplicit => true | _ => false
def isLoc (sc : Sc) (x : Str) : Bool := match sc.lookup x with | some .local => true | some .cell => true | _ => false
def isLocal (sc : Sc) (x : Str) : Bool := match sc.lookup x with | some .local => true | _ => false
def isVis (sc : Sc) (x : Str) : Bool := match sc.lookup x with | some .local => true | some .cell => true | some .free => true | _ => false
def nDebug (x : Str) : Bool := !(x == ("__debug__" : Str)) && !(x == ("__classdict__" : Str))
def nName (x : Str) : Bool := decide (x ≠ "__name__")
def noSt : Expr → Bool | .Starred _ _ => false | _ => true
def noSup : Expr → Bool | .Call (.Name _ _) [] [] _ => false | _ => true
def noSlc : Expr → Bool | .Slice _ _ _ _ => false | _ => true
def noSet : Expr → Bool | .Set _ _ _ => false | _ => true
def noComp : Expr → Bool | .ListComp _ _ _ _ => false | .SetComp _ _ _ _ => false | .DictComp _ _ _ _ _ => false | _ => true
def plainT : Expr → Bool | .UnaryOp .Not _ _ => false | .BoolOp _ _ _ => false | .IfExp _ _ _ _ => false | .Compare _ _ _ _ => false | _ => true
def litOk : Const → D → Bool
  | .none, .none => true
  | .bool b, .bool c => b == c
  | .int b, .int c => b == c
  | .str b, .str c => b == c
  | _, _ => false
def BI.name : BI → Str
  | .len => "len" | .int => "int" | .abs => "abs" | .min2 => "min" | .max2 => "max" | .sum => "sum" | .all => "all" | .any => "any"
  | .tuple => "tuple" | .list => "list" | .max1 => "max" | .min1 => "min"
def MT.name : MT → Str
  | .append => "append" | .pop => "pop" | .popAt => "pop" | .extend => "extend" | .bitLength => "bit_length"
  | .split => "split" | .join => "join" | .insert => "insert" | .reverse => "reverse" | .index => "index"
/-- builtin names: none of them may be a name of the module -/
def bltN : List Str := ["len", "int", "abs", "min", "max", "sum", "all", "any", "tuple", "list", "isinstance", "range", "zip", "enumerate", "reversed", "bool", "str"]
def typN (T : String) : Bool := T == "int" || T == "bool" || T == "str" || T == "tuple" || T == "list"
def ckAll (f : Expr → CE → Bool) : List Expr → CEs → Bool
  | [], .nil => true
  | e :: es, .cons c cs => noSt e && f e c && ckAll f es cs
  | _, _ => false
def ckTs (f : Expr → CT → Bool) : List Expr → CTs → Bool
  | [], .nil => true
  | e :: es, .cons c cs => noSt e && f e c && ckTs f es cs
  | _, _ => false
def ckOp (f : Expr → CE → Bool) : Option Expr → CO → Bool
  | none, .none => true
  | some e, .some c => f e c
  | _, _ => false
def ckBsV (f : Expr → CE → Bool) (op : BoolOp) : List Expr → CE → Bool
  | [e], c => f e c
  | e :: es, .and x y => (match op with | .And => true | _ => false) && f e x && ckBsV f op es y
  | e :: es, .or x y => (match op with | .Or => true | _ => false) && f e x && ckBsV f op es y
  | _, _ => false
def ckBsT (f : Expr → CB → Bool) (op : BoolOp) : List Expr → CB → Bool
  | [e], c => f e c
  | e :: es, .and x y => (match op with | .And => true | _ => false) && f e x && ckBsT f op es y
  | e :: es, .or x y => (match op with | .Or => true | _ => false) && f e x && ckBsT f op es y
  | _, _ => false
def ownOf (N : List Str) (vs : List Nat) : List (Str × Nat) := vs.map fun i => (N.getD i "", i)
def decEqOp : Operator → Operator → Bool := fun a b => decide (a = b)
def decEqC : CmpOp → CmpOp → Bool := fun a b => decide (a = b)
mutual
def ckE (N : List Str) : Nat → Sc → Expr → CE → Bool
  | 0, _, _, _ => false
  | n + 1, sc, e, .gc x => ckE N n sc e x
  | n + 1, sc, .Name x _, .var i => decide (N[i]? = some x) && isVis sc x && nDebug x
  | n + 1, sc, .Name x _, .glob y => decide (x = y) && isGl sc x && nDebug x
  | n + 1, sc, .Constant c _ _, .lit d => litOk c d
  | n + 1, sc, .BinOp a o b _, .bin p x y => decEqOp o p && ckE N n sc a x && ckE N n sc b y
  | n + 1, sc, .UnaryOp .USub a _, .neg x => ckE N n sc a x
  | n + 1, sc, .UnaryOp .Invert a _, .inv x => ckE N n sc a x
  | n + 1, sc, .UnaryOp .Not a _, .not x => ckE N n sc a x
  | n + 1, sc, .Compare a [o] [b] _, .cmp p x y => decEqC o p && noSet b && ckE N n sc a x && ckE N n sc b y
  | n + 1, sc, .Compare a [o, o'] [b, c] _, .chain p p' x y z => decEqC o p && decEqC o' p' && noSet b && noSet c && ckE N n sc a x && ckE N n sc b y && ckE N n sc c z
  | n + 1, sc, .BoolOp op vs _, c => ckBsV (ckE N n sc) op vs c
  | n + 1, sc, .IfExp t a b _, .ife c x y => ckB N n sc t c && ckE N n sc a x && ckE N n sc b y
  | n + 1, sc, .Tuple es _ _, .tup cs => ckAll (ckE N n sc) es cs && decide (es.length ≤ 1000)
  | n + 1, sc, .List es _, .lst cs => ckAll (ckE N n sc) es cs && decide (es.length ≤ 1000)
  | n + 1, sc, .Subscript a (.Slice lo hi none _) _, .slc x l h => ckE N n sc a x && ckOp (ckE N n sc) lo l && ckOp (ckE N n sc) hi h
  | n + 1, sc, .Subscript a i _, .idx x y => noSlc i && ckE N n sc a x && ckE N n sc i y
  | n + 1, sc, .Call (.Name f _) es [] _, .call g cs => decide (f = g) && isGl sc f && nDebug f && ckAll (ckE N n sc) es cs
  | n + 1, sc, .Call (.Name f _) es [] _, .bi b cs => decide (f = b.name) && isGl sc f && !es.isEmpty && ckAll (ckE N n sc) es cs
  | n + 1, sc, .Call (.Name f _) [e, .Name T _] [] _, .isin x T' => decide (f = "isinstance") && isGl sc f && decide (T = Str.ofString T') && isGl sc T && typN T' && noSt e && ckE N n sc e x
  | n + 1, sc, .Call (.Attribute o f ap) es [] cp, .meth g x cs => decide (f = g.name) && noSup o && (ap.endLine == cp.line) && decide (es.length < 30) && ckE N n sc o x && ckAll (ckE N n sc) es cs
  | n + 1, sc, .ListComp e [⟨tg, it, ifs, 0⟩] scope _, .comp vs t i c x => blkC N ⟨.function, sc, false, false, []⟩ scope (ownOf N vs) && noSet it && tgtIn vs t && ckI N n sc tg it i && ckT N n scope.names tg t && ckBO N n scope.names ifs c && ckE N n scope.names e x
  | n + 1, sc, .Call (.Name f _) [.Call (.Name g _) [a] [] _] [] _, .lrng1 x => decide (f = "list") && isGl sc f && decide (g = "range") && isGl sc g && noSt a && ckE N n sc a x
  | n + 1, sc, .Call (.Name f _) [.Call (.Name g _) [a, b] [] _] [] _, .lrng2 x y => decide (f = "list") && isGl sc f && decide (g = "range") && isGl sc g && noSt a && noSt b && ckE N n sc a x && ckE N n sc b y
  | _, _, _, _ => false
def ckB (N : List Str) : Nat → Sc → Expr → CB → Bool
  | 0, _, _, _ => false
  | n + 1, sc, .UnaryOp .Not a _, .not x => ckB N n sc a x
  | n + 1, sc, .BoolOp op vs _, c => ckBsT (ckB N n sc) op vs c
  | n + 1, sc, .Compare a [o] [b] _, .val (.cmp p x y) => decEqC o p && noSet b && ckE N n sc a x && ckE N n sc b y
  | n + 1, sc, .Compare a [o, o'] [b, c] _, .val (.chain p p' x y z) => decEqC o p && decEqC o' p' && noSet b && noSet c && ckE N n sc a x && ckE N n sc b y && ckE N n sc c z
  | n + 1, sc, e, .val x => plainT e && ckE N n sc e x
  | _, _, _, _ => false
def ckBO (N : List Str) : Nat → Sc → List Expr → CBO → Bool
  | 0, _, _, _ => false
  | n + 1, sc, [], .none => true
  | n + 1, sc, [e], .some c => ckB N n sc e c
  | _, _, _, _ => false
def ckI (N : List Str) : Nat → Sc → Expr → Expr → CI → Bool
  | 0, _, _, _, _ => false
  | n + 1, sc, tg, e, .plain x => ckE N n sc e x
  | n + 1, sc, tg, .Call (.Name f _) [a] [] _, .rng1 x => decide (f = "range") && isGl sc f && noSt a && ckE N n sc a x
  | n + 1, sc, tg, .Call (.Name f _) [a, b] [] _, .rng2 x y => decide (f = "range") && isGl sc f && noSt a && noSt b && ckE N n sc a x && ckE N n sc b y
  | n + 1, sc, .Tuple _ _ _, .Call (.Name f _) [a, b] [] _, .zip x y => decide (f = "zip") && isGl sc f && noSt a && noSt b && ckE N n sc a x && ckE N n sc b y
  | n + 1, sc, .Tuple _ _ _, .Call (.Name f _) [a] [] _, .enum x => decide (f = "enumerate") && isGl sc f && noSt a && ckE N n sc a x
  | n + 1, sc, tg, .Call (.Name f _) [a] [] _, .rev x => decide (f = "reversed") && isGl sc f && noSt a && ckE N n sc a x
  | _, _, _, _, _ => false
def ckT (N : List Str) : Nat → Sc → Expr → CT → Bool
  | 0, _, _, _ => false
  | n + 1, sc, .Name x _, .name i => decide (N[i]? = some x) && isLoc sc x
  | n + 1, sc, .Tuple es _ _, .tup ts => ckTs (ckT N n sc) es ts
  | n + 1, sc, .Subscript o i _, .sub x y => noSlc i && ckE N n sc o x && ckE N n sc i y
  | _, _, _, _ => false
end
/-- an assignment of a comprehension to a plain local name: the store comes ahead of the clearing -/
def swB (sc : Sc) (y : Str) (py : Pos) : Expr → Bool
  | .ListComp _ _ scope pos => isLocal sc y && (py.line == pos.line) && !(scope.names.any fun (n, k) => n == y && (k == .local || k == .cell))
  | _ => false
/-- an assignment of a comprehension that is an ordinary one -/
def noSw (sc : Sc) : Expr → Expr → Bool
  | .Name y _, e => noComp e || !isLocal sc y
  | _, _ => true
def tupOf : Expr → Option (List Expr)
  | .Tuple es _ _ => some es
  | .List es _ => some es
  | _ => none
def namesOf (sc : Sc) (line : Nat) : List Expr → List Str
  | [] => []
  | .Name x pos :: r => if isLocal sc x && pos.line == line then x :: namesOf sc line r else namesOf sc line r
  | _ :: r => namesOf sc line r
/-- the two stores stand in the written order -/
def noPar (sc : Sc) (t e : Expr) : Bool :=
  match t, e with
  | .Tuple ts _ _, .Tuple vs _ _ => !(ts.length == 2 || ts.length == 3) || (namesOf sc ((ts.head?.map (·.pos.line)).getD 0) ts).length != ts.length
  | .List _ _, _ => false
  | _, _ => true
def parB (sc : Sc) (vs : List Expr) (line : Nat) (ts : List Expr) : Bool :=
  vs.all noSt && (namesOf sc line ts).length == ts.length && (namesOf sc line ts).eraseDups.length == (namesOf sc line ts).length && !(vs.all (foldedForSure 8)) && !(vs.all (constantsAlone 8))
mutual
def ckS (N : List Str) : Nat → Sc → Stmt → CS → Bool
  | 0, _, _, _ => false
  | n + 1, sc, .Assign [.Name y py] e pos, .asg (.name i) c =>
      decide (N[i]? = some y) && isLoc sc y && ((swB sc y py e && (match c with | .comp _ _ _ _ _ => true | _ => false)) || noSw sc (.Name y py) e) && ckE N n sc e c
  | n + 1, sc, .Assign [.Tuple [.Name x px, .Name y py] k1 p1] (.Tuple [a, b] k2 p2) pos, .asg (.tup (.cons (.name i) (.cons (.name j) .nil))) (.tup (.cons c (.cons d .nil))) =>
      decide (N[i]? = some x) && decide (N[j]? = some y) && isLoc sc x && isLoc sc y && noSt a && noSt b &&
        ((parB sc [a, b] px.line [.Name x px, .Name y py] && decide (i ≠ j)) || noPar sc (.Tuple [.Name x px, .Name y py] k1 p1) (.Tuple [a, b] k2 p2)) && ckE N n sc a c && ckE N n sc b d
  | n + 1, sc, .Assign [t] e pos, .asg ct c => (match t with | .Name _ _ => false | _ => true) && noSt t && noComp e && noPar sc t e && ckE N n sc e c && ckT N n sc t ct
  | n + 1, sc, .AugAssign (.Name x _) o e _, .aug i p c => decEqOp o p && decide (N[i]? = some x) && isLoc sc x && ckE N n sc e c
  | n + 1, sc, .AugAssign (.Subscript o i _) p e _, .augS x y q z => decEqOp p q && noSlc i && ckE N n sc o x && ckE N n sc i y && ckE N n sc e z
  | n + 1, sc, .Expr e _, .expr c => noComp e && ckE N n sc e c
  | n + 1, sc, .Return (some e) _, .ret c => ckE N n sc e c
  | n + 1, sc, .Return none _, .retN => true
  | n + 1, sc, .Pass _, .pass => true
  | n + 1, sc, .Break _, .brk => true
  | n + 1, sc, .Continue _, .cont => true
  | n + 1, sc, .If t a b _, .ite c x y => ckB N n sc t c && ckSs N n sc a x && ckSs N n sc b y
  | n + 1, sc, .While t b [] _, .whl c x => ckB N n sc t c && ckSs N n sc b x
  | n + 1, sc, .For tg it b [] _, .fr t i x => noSet it && ckI N n sc tg it i && ckT N n sc tg t && ckSs N n sc b x
  | n + 1, sc, .Assign [.Tuple [.Name x px, .Name y py, .Name z pz] k1 p1] (.Tuple [a, b, c] k2 p2) pos, .par3 i j l u v w =>
      decide (N[i]? = some x) && decide (N[j]? = some y) && decide (N[l]? = some z) && noSt a && noSt b && noSt c && decide (i ≠ j) && decide (i ≠ l) && decide (j ≠ l) &&
        parB sc [a, b, c] px.line [.Name x px, .Name y py, .Name z pz] && ckE N n sc a u && ckE N n sc b v && ckE N n sc c w
  | _, _, _, _ => false
def ckSs (N : List Str) : Nat → Sc → List Stmt → CSs → Bool
  | 0, _, _, _ => false
  | n + 1, sc, [], .nil => true
  | n + 1, sc, s :: ss, .cons c cs => ckS N n sc s c && ckSs N n sc ss cs
  | _, _, _, _ => false
end
end PC

/-! PSnd: what the small syntax means is what the model does. -/
namespace PC
open PySem L2 Classical

/-! ### the model's side conditions, by shape -/
theorem starEach_cons {e : Expr} {es : List Expr} {env : Env} (h : noSt e = true) : starEach (e :: es) env = (false, eval e env) :: starEach es env := by
  cases e <;> first | rfl | (simp [noSt] at h)
theorem ckAll_noSt {f : Expr → CE → Bool} : ∀ {es : List Expr} {cs : CEs}, ckAll f es cs = true → es.all noSt = true
  | [], _, _ => rfl
  | e :: es, .nil, h => by simp [ckAll] at h
  | e :: es, .cons c cs, h => by
    simp only [ckAll, Bool.and_eq_true] at h
    simp only [List.all_cons, Bool.and_eq_true]
    exact ⟨h.1.1, ckAll_noSt h.2⟩
theorem back_any {pos : Pos} {env : Env} : ∀ {es : List Expr}, es.all noSt = true → (backTo pos (starEach es env)).any (·.1) = false
  | [], _ => rfl
  | e :: es, h => by
    simp only [List.all_cons, Bool.and_eq_true] at h
    rw [starEach_cons h.1]
    show (false || (backTo pos (starEach es env)).any (·.1)) = false
    rw [back_any h.2]; rfl
theorem back_all {pos : Pos} {env : Env} : ∀ {es : List Expr}, es.all noSt = true → (backTo pos (starEach es env)).all (fun x => !x.1) = true
  | [], _ => rfl
  | e :: es, h => by
    simp only [List.all_cons, Bool.and_eq_true] at h
    rw [starEach_cons h.1]
    show (true && (backTo pos (starEach es env)).all (fun x => !x.1)) = true
    rw [back_all h.2]; rfl
theorem back_few {pos : Pos} {env : Env} {es : List Expr} (h : es.all noSt = true) (h30 : es.length < 30) :
    ((backTo pos (starEach es env)).all (fun x => !x.1) && (backToKw pos (keywordEach [] env)).all (fun x => x.1.isSome) && decide (es.length + ([] : List Keyword).length + (if ([] : List Keyword).isEmpty then 0 else 1) < 30)) = true := by
  rw [back_all h]
  show (true && true && decide (es.length + 0 + 0 < 30)) = true
  simpa using h30
theorem base_sup {o : Expr} {attr : Str} {env : Env} (h : noSup o = true) : attributeBase o attr env (eval o env) = eval o env := by
  unfold attributeBase
  split
  · simp [noSup] at h
  · rfl
theorem plain_ix {b : Expr} (h : noSlc b = true) : PlainIx b := fun o i => by
  cases b <;> first | rfl | (simp [noSlc] at h)
theorem mark_no {op : CmpOp} {b : Expr} (h : noSet b = true) : behindInMarks op b = false := by
  cases b <;> first | rfl | (simp [noSet] at h)
theorem fold_no {b : Expr} {env : Env} (h : noSet b = true) : ∀ x, foldedSetIterable b env x = pure x := fun x => by
  cases b <;> first | rfl | (simp [noSet] at h)
theorem plain_test {e : Expr} {env : Env} (h : plainT e = true) : ∀ whole, isTrue e env whole = (do let v ← whole; standAt e.pos; holding [v] (truthy v)) := fun whole => by
  cases e with
  | UnaryOp op x pos => cases op <;> first | rfl | (simp [plainT] at h)
  | BoolOp => simp [plainT] at h
  | IfExp => simp [plainT] at h
  | Compare => simp [plainT] at h
  | _ => rfl
theorem sw_no {e : Expr} {tg : Option Expr} {l : Nat} {env : Env} (h : noComp e = true) : swapsWith e tg l env = pure false := by
  cases e <;> first | rfl | (simp [noComp] at h)
theorem augS_no {i : Expr} (h : noSlc i = true) : ∀ ov iv new, augStore i ov iv new = (do holding [new, ov, iv] (setItem ov iv new); release [new, ov, iv] []; pure .next) := fun ov iv new => by
  cases i <;> first | rfl | (simp [noSlc] at h)
theorem assignEach_cons {e : Expr} {es : List Expr} {env : Env} (h : noSt e = true) : assignEach (e :: es) env = (false, assign e env) :: assignEach es env := by
  cases e <;> first | rfl | (simp [noSt] at h)
theorem assign_len {env : Env} : ∀ {es : List Expr}, es.all noSt = true → (assignEach es env).length = es.length ∧ (assignEach es env).findIdx? (·.1) = none
  | [], _ => ⟨rfl, rfl⟩
  | e :: es, h => by
    simp only [List.all_cons, Bool.and_eq_true] at h
    rw [assignEach_cons h.1]
    obtain ⟨h1, h2⟩ := assign_len (env := env) h.2
    refine ⟨by simp [h1], ?_⟩
    rw [List.findIdx?_cons]
    simp [h2]
theorem ckTs_noSt {f : Expr → CT → Bool} : ∀ {es : List Expr} {cs : CTs}, ckTs f es cs = true → es.all noSt = true
  | [], _, _ => rfl
  | e :: es, .nil, h => by simp [ckTs] at h
  | e :: es, .cons c cs, h => by
    simp only [ckTs, Bool.and_eq_true] at h
    simp only [List.all_cons, Bool.and_eq_true]
    exact ⟨h.1.1, ckTs_noSt h.2⟩

/-! ### the family of contexts -/
abbrev spI (K : PySem.W.Frag) (n : Nat) (run : List D → Mem → Res D) : Sp := fun vs H Q _ => vs.length = n ∧ ∃ ds m ρ, Rel K ρ m H ∧ RVs K ρ H ds vs ∧ Post K (RV K) ρ H Q (run ds m)
structure Fam (K : PySem.W.Frag) (mg : Str → Option Value) (Γ : Fn) (G : Str → Option D) (N : List Str) (k : Nat) (sc : Sc) (F : Cx → Prop) : Prop extends Few K F where
  eg : ∀ X, F X → X.mg = mg
  eN : ∀ X, F X → X.N = N
  nd : N.Nodup
  kind : ∀ X, F X → X.env.scope.kind = .function
  lk : ∀ X, F X → ∀ x, X.env.scope.names.lookup x = sc.lookup x ∨ (sc.lookup x = some .free ∧ X.env.scope.names.lookup x = some .cell)
  fn : ∀ X, F X → ∀ x, (sc.lookup x = some .local ∨ sc.lookup x = some .cell) → X.fn x = true ∨ X.env.scope.names.lookup x = some .local
  po : ∀ X, F X → PassesOwn (model X.prog X.w) X.A X.env X.xe
  room : ∀ X, F X → Room k X.A
  calls : ∀ f ds m, Γ f ds m ≠ .bad → ∃ a fd ps dd dvs dsV, ds.length + dvs.length = ps.length ∧ mg f = some (.ref a) ∧ PySem.W.keepIn K (.ref a) = true ∧ Binds K fd ps dsV ∧ Vals dvs dsV ∧ (∀ ρ H, RVs K ρ H dd dvs) ∧ Γ f (ds ++ dd) m = Γ f ds m ∧ ∀ X, F X → FnOk X.prog X.w X.K X.mg X.base CX0 k a fd ps (spI K ps.length (Γ f))
  glob : ∀ x d, G x = some d → ∃ u v, mg x = some u ∧ RelV v u ∧ ∀ ρ H, RV K ρ H d v
  blt : ∀ x ∈ bltN, mg x = none

section
variable {K : PySem.W.Frag} {mg : Str → Option Value} {Γ : Fn} {G : Str → Option D} {N : List Str} {k : Nat} {sc : Sc} {F : Cx → Prop}
theorem Fam.vis (hF : Fam K mg Γ G N k sc F) {x : Str} (h : isVis sc x = true) {X : Cx} (hX : F X) : Vis X.env.scope x := by
  unfold isVis at h
  rcases hF.lk X hX x with e | ⟨_, e⟩
  · unfold Vis; rw [e]
    split at h <;> simp_all
  · exact .inr (.inl e)
theorem Fam.loc (hF : Fam K mg Γ G N k sc F) {x : Str} (h : isLoc sc x = true) {X : Cx} (hX : F X) : L2.Loc X.env.scope x ∧ (X.fn x = true ∨ X.env.scope.names.lookup x = some .local) := by
  unfold isLoc at h
  have h' : sc.lookup x = some .local ∨ sc.lookup x = some .cell := by split at h <;> simp_all
  refine ⟨?_, hF.fn X hX x h'⟩
  rcases hF.lk X hX x with e | ⟨e1, e2⟩
  · unfold L2.Loc; rw [e]; exact h'
  · exact .inr e2
theorem isLocal_eq {x : Str} (h : isLocal sc x = true) : sc.lookup x = some .local := by
  unfold isLocal at h; split at h <;> simp_all
theorem Fam.local_ (hF : Fam K mg Γ G N k sc F) {x : Str} (h : isLocal sc x = true) {X : Cx} (hX : F X) : X.env.scope.names.lookup x = some .local := by
  rcases hF.lk X hX x with e | ⟨e1, e2⟩
  · rw [e]; exact isLocal_eq h
  · rw [isLocal_eq h] at e1; cases e1
theorem Fam.gl (hF : Fam K mg Γ G N k sc F) {x : Str} (h : isGl sc x = true) {X : Cx} (hX : F X) : Gl X x := by
  have h' : sc.lookup x = some .globalImplicit := by unfold isGl at h; split at h <;> simp_all
  unfold Gl Env.kindOf
  rcases hF.lk X hX x with e | ⟨e1, e2⟩
  · rw [e]; exact h'
  · rw [h'] at e1; cases e1
theorem nDebug_1 {x : Str} (h : nDebug x = true) : (x == ("__debug__" : Str)) = false ∧ (x == ("__classdict__" : Str)) = false := by
  unfold nDebug at h
  simp only [Bool.and_eq_true, Bool.not_eq_true'] at h
  exact h

/-- the boolean test's relation -/
abbrev RB : List Addr → Hp → Bool → Bool → Prop := fun _ _ a b => a = b
abbrev RI (ρ : List Addr) (H : Hp) (a : Option Int) (b : Option Int) : Prop := a = b
/-- what is walked -/
structure RIt (K : PySem.W.Frag) (ρ : List Addr) (H : Hp) (p : Itr) (J : It) : Prop where
  ex : ∃ (Gd : Hp → Prop) (Y : Nat → Hp → V → Hp → Prop), Walk J p.1.length Gd Y ∧
    (∀ ρ' m' H', Rel K ρ' m' H' → ρ <+: ρ' → Ext H H' → guardOk p.2 m' → Gd H') ∧
    ∀ i H1 x H2 ρ1 m1, i < p.1.length → Rel K ρ1 m1 H1 → ρ <+: ρ1 → Ext H H1 → guardOk p.2 m1 → Y i H1 x H2 → Rel K ρ1 m1 H2 ∧ Ext H1 H2 ∧ (∀ a ∈ ρ1, H2 a = H1 a) ∧ ∃ d, p.1[i]? = some d ∧ RV K ρ1 H2 d x
abbrev RLp (K : PySem.W.Frag) (P : L2.St → Prop) (ρ : List Addr) (H : Hp) (σ : Loc) (σV : L2.St) : Prop := RL K ρ H σ σV ∧ P σV

/-- the soundness at a fuel -/
structure Snd (K : PySem.W.Frag) (mg : Str → Option Value) (Γ : Fn) (G : Str → Option D) (N : List Str) (k n : Nat) : Prop where
  sE : ∀ {sc F}, Fam K mg Γ G N k sc F → ∀ {e ce}, ckE N n sc e ce = true → ∀ {σ m ρ σV H Q}, Rel K ρ m H → RL K ρ H σ σV → Post K (RV K) ρ H Q (dE Γ G ce σ m) → bE F e σV H Q
  sB : ∀ {sc F}, Fam K mg Γ G N k sc F → ∀ {e ce}, ckB N n sc e ce = true → ∀ {σ m ρ σV H Q}, Rel K ρ m H → RL K ρ H σ σV → Post K RB ρ H Q (dB Γ G ce σ m) → bT F e σV H Q
  sBO : ∀ {sc F}, Fam K mg Γ G N k sc F → ∀ {es ce}, ckBO N n sc es ce = true → ∀ {σ m ρ σV H Q}, Rel K ρ m H → RL K ρ H σ σV → Post K RB ρ H Q (dBO Γ G ce σ m) → bTs F es σV H Q
  sI : ∀ {sc F}, Fam K mg Γ G N k sc F → ∀ {tg e ce}, ckI N n sc tg e ce = true → ∀ {σ m ρ σV H R}, Rel K ρ m H → RL K ρ H σ σV → Post K (RIt K) ρ H R (dI Γ G ce σ m) → bI F tg e σV H R
  sT : ∀ {sc F}, Fam K mg Γ G N k sc F → ∀ {t ct}, ckT N n sc t ct = true → ∀ {d v σ m ρ σV H Q} (P : L2.St → Prop), (∀ i v s, tgtHas ct i = true → P s → P (s.set i (some v))) → P σV → Rel K ρ m H → RL K ρ H σ σV → RV K ρ H d v →
    Post K (RLp K P) ρ H Q (dT Γ G ct d σ m) → bG F t v σV H Q

/-! ### lists of parts, given the parts -/
abbrev SndE (K : PySem.W.Frag) (Γ : Fn) (G : Str → Option D) (F : Cx → Prop) (f : Expr → CE → Bool) : Prop :=
  ∀ {e ce}, f e ce = true → ∀ {σ m ρ σV H Q}, Rel K ρ m H → RL K ρ H σ σV → Post K (RV K) ρ H Q (dE Γ G ce σ m) → bE F e σV H Q
theorem args_ok {f : Expr → CE → Bool} (hE : SndE K Γ G F f) : ∀ {es : List Expr} {cs : CEs}, ckAll f es cs = true → ∀ {σ m ρ σV H} {Q : List V → Hp → Prop}, Rel K ρ m H → RL K ρ H σ σV → Post K (RVs K) ρ H Q (dEs Γ G cs σ m) → bA F es σV H Q
  | [], .nil, _, σ, m, ρ, σV, H, Q, R, rl, h => ⟨_, fun X _ => pa_nil, Post.ok (a := ([] : List D)) (by simpa only [dEs] using h) R (by simp [RVs])⟩
  | [], .cons _ _, h, _, _, _, _, _, _, _, _, _ => by simp [ckAll] at h
  | e :: es, .nil, h, _, _, _, _, _, _, _, _, _ => by simp [ckAll] at h
  | e :: es, .cons c cs, hc, σ, m, ρ, σV, H, Q, R, rl, h => by
    simp only [ckAll, Bool.and_eq_true] at hc
    simp only [dEs] at h
    refine ⟨tCons (bE F e) (bA F es), fun X hX => pa_cons (bE_ok hX e) (bA_ok hX es) (starEach_cons hc.1.1), ?_⟩
    refine hE hc.1.2 R rl (h.bind fun d m1 ρ1 H1 v R1 p1 x1 r1 h1 => ?_)
    refine args_ok hE hc.2 R1 (rl.mono p1 x1) (h1.bind fun ds m2 ρ2 H2 vs R2 p2 x2 r2 h2 => ?_)
    exact Post.ok h2 R2 (by simp only [RVs]; exact ⟨v, vs, rfl, r1.mono p2 x2, r2⟩)
theorem opt_ok {f : Expr → CE → Bool} (hE : SndE K Γ G F f) : ∀ {e : Option Expr} {c : CO}, ckOp f e c = true → ∀ {σ m ρ σV H} {Q : Option Int → Hp → Prop}, Rel K ρ m H → RL K ρ H σ σV → Post K RI ρ H Q (dO Γ G c σ m) → bO F e σV H Q
  | none, .none, _, σ, m, ρ, σV, H, Q, R, rl, h => ⟨_, fun X _ => po_none, Post.ok (a := (none : Option Int)) (by simpa only [dO] using h) R rfl⟩
  | none, .some _, h, _, _, _, _, _, _, _, _, _ => by simp [ckOp] at h
  | some _, .none, h, _, _, _, _, _, _, _, _, _ => by simp [ckOp] at h
  | some e, .some c, hc, σ, m, ρ, σV, H, Q, R, rl, h => by
    simp only [ckOp] at hc
    simp only [dO] at h
    refine ⟨tPart (bE F e), fun X hX => po_some (bE_ok hX e), ?_⟩
    refine hE hc R rl (h.bind fun d m1 ρ1 H1 v R1 p1 x1 r1 h1 => ?_)
    split at h1
    · simp only [RV] at r1; subst r1; exact ⟨_, rfl, h1.ok R1 rfl⟩
    · exact h1.elim

/-! ### truth -/
theorem tru_rel {ρ : List Addr} {m : Mem} {H : Hp} {d : D} {v : V} {b : Bool} (R : Rel K ρ m H) (r : RV K ρ H d v) (h : truD m d = some b) : TruV K v H b := by
  cases d with
  | none => simp only [RV] at r; subst r; simp only [truD, Option.some.injEq] at h; exact h.symm
  | bool c => simp only [RV] at r; subst r; simp only [truD, Option.some.injEq] at h; exact h.symm
  | int c => simp only [RV] at r; subst r; simp only [truD, Option.some.injEq] at h; exact h.symm
  | str c =>
    simp only [RV] at r; subst r; simp only [truD] at h
    split at h
    · rename_i hl; cases h; exact ⟨hl, rfl⟩
    · cases h
  | tup xs =>
    simp only [RV] at r
    obtain ⟨a, vs, rfl, h2, h3⟩ := r
    simp only [truD, Option.some.injEq] at h
    refine .inr (.inl ⟨vs, h2, ?_⟩)
    rw [← h]
    cases xs <;> cases vs <;> simp_all [RVs]
  | kl xs =>
    simp only [RV] at r
    obtain ⟨a, vs, rfl, h2, h3⟩ := r
    simp only [truD, Option.some.injEq] at h
    refine .inl ⟨vs, h2.sq, ?_⟩
    rw [← h]
    cases xs <;> cases vs <;> simp_all [RVs]
  | ref n =>
    simp only [RV] at r
    obtain ⟨a, ha, rfl⟩ := r
    obtain ⟨o, ho, ro⟩ := R.there ha
    simp only [truD, ho] at h
    cases o with
    | lst xs =>
      obtain ⟨vs, h1, h2⟩ := ro
      simp only [Option.some.injEq] at h
      refine .inl ⟨vs, SqL.of h1, ?_⟩
      rw [← h]
      cases xs <;> cases vs <;> simp_all [RVs]
    | dk kvs =>
      obtain ⟨ws, h1, h2⟩ := ro
      simp only [Option.some.injEq] at h
      refine .inr (.inr ⟨ws, h1, ?_⟩)
      rw [← h]
      cases kvs with
      | nil => rw [show ws = [] from h2]; rfl
      | cons p ps => obtain ⟨v, r, e, _⟩ := h2; rw [e]; rfl
    | dt kvs => simp at h
theorem and_or_ok {f : Expr → CE → Bool} (hE : SndE K Γ G F f) (hK : ∀ X, F X → X.K = K) {op : BoolOp} {pos : Pos} : ∀ {es : List Expr} {c : CE}, ckBsV f op es c = true → ∀ {σ m ρ σV H Q}, Rel K ρ m H → RL K ρ H σ σV → Post K (RV K) ρ H Q (dE Γ G c σ m) → bE F (.BoolOp op es pos) σV H Q
  | [], c, h, _, _, _, _, _, _, _, _, _ => by cases c <;> simp [ckBsV] at h
  | [e], c, hc, σ, m, ρ, σV, H, Q, R, rl, h => by
    refine ⟨bE F e, fun X hX => pe_one (bE_ok hX e), hE ?_ R rl h⟩
    unfold ckBsV at hc; exact hc
  | e :: e2 :: es, c, hc, σ, m, ρ, σV, H, Q, R, rl, h => by
    cases c with
    | and x y =>
      simp only [ckBsV, Bool.and_eq_true] at hc
      have hop : op = .And := by revert hc; cases op <;> simp
      subst hop
      simp only [dE] at h
      refine ⟨tAndT K (bE F e) (bE F (.BoolOp .And (e2 :: es) pos)), fun X hX => hK X hX ▸ pe_andT (bE_ok hX e) (bE_ok hX _), ?_⟩
      refine hE hc.1.2 R rl (h.bind fun d m1 ρ1 H1 v R1 p1 x1 r1 h1 => ?_)
      cases e : truD m1 d with
      | none => rw [e] at h1; exact h1.elim
      | some b =>
        rw [e] at h1
        refine ⟨b, tru_rel R1 r1 e, ?_⟩
        cases b with
        | true => exact and_or_ok hE hK hc.2 R1 (rl.mono p1 x1) h1
        | false => exact h1.ok R1 r1
    | or x y =>
      simp only [ckBsV, Bool.and_eq_true] at hc
      have hop : op = .Or := by revert hc; cases op <;> simp
      subst hop
      simp only [dE] at h
      refine ⟨tOrT K (bE F e) (bE F (.BoolOp .Or (e2 :: es) pos)), fun X hX => hK X hX ▸ pe_orT (bE_ok hX e) (bE_ok hX _), ?_⟩
      refine hE hc.1.2 R rl (h.bind fun d m1 ρ1 H1 v R1 p1 x1 r1 h1 => ?_)
      cases e : truD m1 d with
      | none => rw [e] at h1; exact h1.elim
      | some b =>
        rw [e] at h1
        refine ⟨b, tru_rel R1 r1 e, ?_⟩
        cases b with
        | true => exact h1.ok R1 r1
        | false => exact and_or_ok hE hK hc.2 R1 (rl.mono p1 x1) h1
    | _ => simp [ckBsV] at hc
def bW (F : Cx → Prop) (e : Expr) : TT := fun σ H Q => ∃ t, (∀ X, F X → PW X e t) ∧ t σ H Q
theorem bW_ok {X : Cx} (h : F X) (e : Expr) : PW X e (bW F e) := ⟨fun wh pins s σ H Q I ⟨_, ht, q⟩ => (ht X h).run wh pins s σ H Q I q⟩
abbrev SndB (K : PySem.W.Frag) (Γ : Fn) (G : Str → Option D) (F : Cx → Prop) (f : Expr → CB → Bool) : Prop :=
  ∀ {e ce}, f e ce = true → ∀ {σ m ρ σV H Q}, Rel K ρ m H → RL K ρ H σ σV → Post K RB ρ H Q (dB Γ G ce σ m) → bT F e σV H Q
theorem and_or_t {f : Expr → CB → Bool} (hE : SndB K Γ G F f) {op : BoolOp} {pos : Pos} : ∀ {es : List Expr} {c : CB}, ckBsT f op es c = true → ∀ {σ m ρ σV H Q}, Rel K ρ m H → RL K ρ H σ σV → Post K RB ρ H Q (dB Γ G c σ m) → bW F (.BoolOp op es pos) σV H Q
  | [], c, h, _, _, _, _, _, _, _, _, _ => by cases c <;> simp [ckBsT] at h
  | [e], c, hc, σ, m, ρ, σV, H, Q, R, rl, h => by
    refine ⟨bT F e, fun X hX => ?_, hE (by unfold ckBsT at hc; exact hc) R rl h⟩
    cases op
    · exact pw_and1 (bT_ok hX e)
    · exact pw_or1 (bT_ok hX e)
  | e :: e2 :: es, c, hc, σ, m, ρ, σV, H, Q, R, rl, h => by
    cases c with
    | and x y =>
      simp only [ckBsT, Bool.and_eq_true] at hc
      have hop : op = .And := by revert hc; cases op <;> simp
      subst hop
      simp only [dB] at h
      refine ⟨tAnd (bT F e) (bW F (.BoolOp .And (e2 :: es) pos)), fun X hX => pw_and (bT_ok hX e) (bW_ok hX _), ?_⟩
      refine hE hc.1.2 R rl (h.bind fun b m1 ρ1 H1 v R1 p1 x1 r1 h1 => ?_)
      subst r1
      cases b with
      | true => exact and_or_t hE hc.2 R1 (rl.mono p1 x1) h1
      | false => exact h1.ok R1 rfl
    | or x y =>
      simp only [ckBsT, Bool.and_eq_true] at hc
      have hop : op = .Or := by revert hc; cases op <;> simp
      subst hop
      simp only [dB] at h
      refine ⟨tOr (bT F e) (bW F (.BoolOp .Or (e2 :: es) pos)), fun X hX => pw_or (bT_ok hX e) (bW_ok hX _), ?_⟩
      refine hE hc.1.2 R rl (h.bind fun b m1 ρ1 H1 v R1 p1 x1 r1 h1 => ?_)
      subst r1
      cases b with
      | true => exact h1.ok R1 rfl
      | false => exact and_or_t hE hc.2 R1 (rl.mono p1 x1) h1
    | _ => simp [ckBsT] at hc
end
end PC

namespace PC
open PySem L2 Classical
theorem boot_bi (b : BI) : bootBuiltins b.name = some b.val := by
  cases b <;> decide +kernel
theorem name_bi (b : BI) : b.name ∈ bltN := by cases b <;> decide +kernel
theorem nn_bi (b : BI) : b.name ≠ "__name__" ∧ (b.name == ("__debug__" : Str)) = false := by cases b <;> decide +kernel
theorem typ_boot {T : String} (h : typN T = true) : bootBuiltins (Str.ofString T) = some (.type T) ∧ Str.ofString T ∈ bltN ∧ Str.ofString T ≠ "__name__" ∧ (Str.ofString T == ("__debug__" : Str)) = false := by
  simp only [typN, Bool.or_eq_true, beq_iff_eq] at h
  rcases h with (((rfl | rfl) | rfl) | rfl) | rfl <;> decide +kernel
theorem typ_kit {T T' : String} (h : typN T = true) (h' : T' = "NoneType" ∨ T' = "bool" ∨ T' = "int" ∨ T' = "str" ∨ T' = "tuple" ∨ T' = "list") : ∃ b, kitB T' T = some b ∧
    (T' = "NoneType" → b = false) ∧ (T' = "bool" → b = (T == "int" || T == "bool")) ∧ (T' = "int" → b = (T == "int")) ∧ (T' = "str" → b = (T == "str")) ∧ (T' = "tuple" → b = (T == "tuple")) ∧ (T' = "list" → b = (T == "list")) := by
  simp only [typN, Bool.or_eq_true, beq_iff_eq] at h
  rcases h with (((rfl | rfl) | rfl) | rfl) | rfl <;> rcases h' with rfl | rfl | rfl | rfl | rfl | rfl <;>
    first
    | exact ⟨true, by decide +kernel, by decide, by decide, by decide, by decide, by decide, by decide⟩
    | exact ⟨false, by decide +kernel, by decide, by decide, by decide, by decide, by decide, by decide⟩
section
variable {K : PySem.W.Frag} {mg : Str → Option Value} {Γ : Fn} {G : Str → Option D} {N : List Str} {k n : Nat} {sc : Sc} {F : Cx → Prop} {ρ : List Addr} {H : Hp} {m : Mem}
theorem isin_ok {T : String} (ht : typN T = true) {d : D} {v : V} {b : Bool} (R : Rel K ρ m H) (r : RV K ρ H d v) (h : isinD m T d = some b) :
    ∃ t, TyX K H v t ∧ PySem.W.kitOne K t (.type T) = some b := by
  cases d with
  | none =>
    simp only [RV] at r; subst r; simp only [isinD, Option.some.injEq] at h; subst h
    obtain ⟨b, hb, h1, _⟩ := typ_kit (T' := "NoneType") ht (.inl rfl)
    rw [h1 rfl] at hb
    exact ⟨_, .base .non, kit_ty hb⟩
  | bool c =>
    simp only [RV] at r; subst r; simp only [isinD, Option.some.injEq] at h; subst h
    obtain ⟨b, hb, _, h1, _⟩ := typ_kit (T' := "bool") ht (by simp)
    rw [h1 rfl] at hb
    exact ⟨_, .base (.bl c), kit_ty hb⟩
  | int c =>
    simp only [RV] at r; subst r; simp only [isinD, Option.some.injEq] at h; subst h
    obtain ⟨b, hb, _, _, h1, _⟩ := typ_kit (T' := "int") ht (by simp)
    rw [h1 rfl] at hb
    exact ⟨_, .base (.int c), kit_ty hb⟩
  | str c =>
    simp only [RV] at r; subst r; simp only [isinD, Option.some.injEq] at h; subst h
    obtain ⟨b, hb, _, _, _, h1, _⟩ := typ_kit (T' := "str") ht (by simp)
    rw [h1 rfl] at hb
    exact ⟨_, .base (.str c), kit_ty hb⟩
  | tup xs =>
    simp only [RV] at r
    obtain ⟨a, vs, rfl, h2, h3⟩ := r
    simp only [isinD, Option.some.injEq] at h; subst h
    obtain ⟨b, hb, _, _, _, _, h1, _⟩ := typ_kit (T' := "tuple") ht (by simp)
    rw [h1 rfl] at hb
    refine ⟨.type "tuple", ?_, kit_ty hb⟩
    rcases h2 with (h2 | ⟨o, h2⟩) | ⟨o, its, nn, h2, h4, _⟩
    · exact .base (.tup h2)
    · exact .fTuple h2
    · exact .kTuple h2 h4
  | kl xs =>
    simp only [RV] at r
    obtain ⟨a, vs, rfl, h2, h3⟩ := r
    simp only [isinD, Option.some.injEq] at h; subst h
    obtain ⟨b', hb, _, _, _, _, _, h1⟩ := typ_kit (T' := "list") ht (by simp)
    rw [h1 rfl] at hb
    refine ⟨.type "list", ?_, kit_ty hb⟩
    rcases h2 with ⟨o, h2⟩ | ⟨o, its, nn, h2, h4, _⟩
    · exact .base (.frz h2)
    · exact .kList h2 h4
  | ref j =>
    simp only [RV] at r
    obtain ⟨a, ha, rfl⟩ := r
    obtain ⟨o, ho, ro⟩ := R.there ha
    simp only [isinD, ho] at h
    obtain ⟨b', hb, _, _, _, _, _, h1⟩ := typ_kit (T' := "list") ht (by simp)
    rw [h1 rfl] at hb
    cases o with
    | lst xs =>
      obtain ⟨vs, k1, k2⟩ := ro
      simp only [Option.some.injEq] at h; subst h
      exact ⟨.type "list", .base (.lst k1), kit_ty hb⟩
    | dk kvs => simp at h
    | dt kvs => simp at h
theorem lit_ok {c : Const} {d : D} (h : litOk c d = true) {j : Nat} {pos : Pos} : ∃ v, (∀ X, PE X (.Constant c j pos) (tC v)) ∧ ∀ ρ H, RV K ρ H d v := by
  unfold litOk at h
  split at h
  · exact ⟨_, fun X => pe_non, fun ρ H => by simp only [RV]⟩
  · rename_i b c; have : b = c := by simpa using h
    subst this; exact ⟨_, fun X => pe_bl, fun ρ H => by simp only [RV]⟩
  · rename_i b c; have : b = c := by simpa using h
    subst this; exact ⟨_, fun X => pe_int, fun ρ H => by simp only [RV]⟩
  · rename_i b c; have : b = c := by simpa using h
    subst this; exact ⟨_, fun X => pe_str, fun ρ H => by simp only [RV]⟩
  · cases h
/-! methods -/
theorem bm0_ok (hF : Fam K mg Γ G N k sc F) {T id : String} {name : Str} (pa : PlainAttrs T) (slot : Slot T name id) (hty : typeOf (.builtin id) = pure (.type "method_descriptor")) {o : Expr} {ap cp : Pos} (hs : noSup o = true) (hl : (ap.endLine == cp.line) = true)
    {σV : L2.St} {Q : VK} (q : bE F o σV H fun x H1 => tyV K T x H1 ∧ bMt F id x [] H1 Q) : bE F (.Call (.Attribute o name ap) [] [] cp) σV H Q :=
  ⟨tBM0 K T (bMt F id) (bE F o), fun X hX => hF.eK X hX ▸ pe_bm0 pa slot hty (bMt_ok hX id) (bE_ok hX o) (base_sup hs) hl, q⟩
theorem bm_ok (hF : Fam K mg Γ G N k sc F) {T id : String} {name : Str} (pa : PlainAttrs T) (slot : Slot T name id) (hty : typeOf (.builtin id) = pure (.type "method_descriptor")) {o e : Expr} {es : List Expr} {ap cp : Pos} (hs : noSup o = true) (hl : (ap.endLine == cp.line) = true)
    (hns : (e :: es).all noSt = true) (h30 : (e :: es).length < 30) {σV : L2.St} {Q : VK} (q : bE F o σV H fun x H1 => tyV K T x H1 ∧ bA F (e :: es) σV H1 fun xs H2 => bMt F id x xs H2 Q) : bE F (.Call (.Attribute o name ap) (e :: es) [] cp) σV H Q := by
  have h2 := hns
  simp only [List.all_cons, Bool.and_eq_true] at h2
  exact ⟨tBM K T (bMt F id) (bE F o) (bA F (e :: es)), fun X hX => hF.eK X hX ▸ pe_bm pa slot hty (bMt_ok hX id) (bE_ok hX o) (bA_ok hX (e :: es)) (base_sup hs) (back_few hns h30) hl (starEach_cons h2.1) (back_any h2.2), q⟩
def MT.ty : MT → String
  | .bitLength => "int" | .split => "str" | .join => "str" | _ => "list"
def MT.id : MT → String
  | .append => "list.append" | .pop => "list.pop" | .popAt => "list.pop" | .extend => "list.extend" | .bitLength => "int.bit_length"
  | .split => "str.split" | .join => "str.join" | .insert => "list.insert" | .reverse => "list.reverse" | .index => "list.index"
theorem mt_facts {g : MT} (hg : g ≠ .bitLength) : PlainAttrs g.ty ∧ Slot g.ty g.name g.id ∧ typeOf (.builtin g.id) = pure (.type "method_descriptor") := by
  cases g
  · exact ⟨PySem.F.plainAttrs_list, PySem.F.slot_list_append, PySem.F.type_list_append⟩
  · exact ⟨PySem.F.plainAttrs_list, PySem.F.slot_list_pop, PySem.F.type_list_pop⟩
  · exact ⟨PySem.F.plainAttrs_list, PySem.F.slot_list_pop, PySem.F.type_list_pop⟩
  · exact ⟨PySem.F.plainAttrs_list, PySem.F.slot_list_extend, PySem.F.type_list_extend⟩
  · exact absurd rfl hg
  · exact ⟨PySem.F.plainAttrs_str, PySem.F.slot_str_split, PySem.F.type_str_split⟩
  · exact ⟨PySem.F.plainAttrs_str, PySem.F.slot_str_join, PySem.F.type_str_join⟩
  · exact ⟨PySem.F.plainAttrs_list, PySem.F.slot_list_insert, PySem.F.type_list_insert⟩
  · exact ⟨PySem.F.plainAttrs_list, PySem.F.slot_list_reverse, PySem.F.type_list_reverse⟩
  · exact ⟨PySem.F.plainAttrs_list, PySem.F.slot_list_index, PySem.F.type_list_index⟩
theorem mt_ty {g : MT} (hg : g ≠ .bitLength) {d : D} {v : V} (R : Rel K ρ m H) (r : RV K ρ H d v) (hp : mtPre g d m = true) : tyV K g.ty v H := by
  by_cases hst : g = .split ∨ g = .join
  · have ht : g.ty = "str" := by rcases hst with rfl | rfl <;> rfl
    rw [ht]
    cases d with
    | str s => simp only [RV] at r; subst r; rfl
    | _ => rcases hst with rfl | rfl <;> simp [mtPre] at hp
  have ht : g.ty = "list" := by cases g <;> first | rfl | exact absurd rfl hg | exact absurd (.inl rfl) hst | exact absurd (.inr rfl) hst
  rw [ht]
  cases d with
  | ref j =>
    simp only [RV] at r
    obtain ⟨a, h1, rfl⟩ := r
    have : ∃ xs, m[j]? = some (.lst xs) := by
      unfold mtPre at hp
      cases g <;> first | (exact absurd rfl hg) | (exact absurd (.inl rfl) hst) | (exact absurd (.inr rfl) hst) | (simp only at hp; split at hp <;> first | exact ⟨_, by assumption⟩ | cases hp)
    obtain ⟨xs, e⟩ := this
    obtain ⟨vs, k1, _⟩ := R.lst e h1
    exact .inl ⟨rfl, vs, SqL.of k1⟩
  | _ => cases g <;> first | (exact absurd (.inl rfl) hst) | (exact absurd (.inr rfl) hst) | simp_all [mtPre]
theorem seqIndex_ix {n : Nat} {i : Int} {j : Nat} (h : ixN n i = some j) : seqIndex? i n = some j := (ixN_seq h).1
theorem strs_rv : ∀ ys : List Str, RVs K ρ H (ys.map D.str) (ys.map V.str)
  | [] => by simp only [List.map_nil, RVs]
  | y :: ys => by simp only [List.map_cons, RVs]; exact ⟨_, _, rfl, by simp only [RV], strs_rv ys⟩
theorem RVs.strs : ∀ {ds : List D} {vs : List V} {ns : List Str}, RVs K ρ H ds vs → strsD ds = some ns → vs = ns.map V.str
  | [], _, _, h, q => by simp only [RVs] at h; simp only [strsD, Option.some.injEq] at q; subst q; exact h
  | d :: ds, vs, ns, h, q => by
    simp only [RVs] at h
    obtain ⟨v, ws, rfl, h2, h3⟩ := h
    cases d with
    | str i =>
      simp only [strsD] at q
      cases e : strsD ds with
      | none => rw [e] at q; simp at q
      | some r =>
        rw [e] at q; simp at q; subst q
        simp only [RV] at h2
        rw [h2, RVs.strs h3 e]; rfl
    | _ => simp [strsD] at q
theorem mt_rule (hF : Few K F) {g : MT} (hg : g ≠ .bitLength) {d : D} {ds : List D} {v : V} {vs : List V} {Q : VK} (R : Rel K ρ m H) (r : RV K ρ H d v) (rs : RVs K ρ H ds vs) (h : Post K (RV K) ρ H Q (mtD g d ds m)) : bMt F g.id v vs H Q := by
  unfold mtD at h
  split at h
  case h_1 =>
    obtain ⟨w, rfl, rw'⟩ := rs.one_inv
    split at h
    · rename_i xs e
      split at h
      · rename_i hl
        simp only [RV] at r
        obtain ⟨a, ha, rfl⟩ := r
        obtain ⟨us, h1, h2⟩ := R.lst e ha
        obtain ⟨R', X'⟩ := R.writeL ha h1 (h2.app (RVs.one rw'))
        exact ⟨_, fun X _ => mt_append, a, us, w, rfl, rfl, h1, by rw [h2.len]; exact hl, h _ _ _ R' (List.prefix_refl _) X' (by simp [RV])⟩
      · exact h.elim
    · exact h.elim
  case h_2 =>
    obtain ⟨w, rfl, rw'⟩ := rs.one_inv
    split at h
    · rename_i xs ys e e2
      split at h
      · rename_i hl
        simp only [RV] at r rw'
        obtain ⟨a, ha, rfl⟩ := r
        obtain ⟨b, hb, rfl⟩ := rw'
        obtain ⟨us, h1, h2⟩ := R.lst e ha
        obtain ⟨ws, k1, k2⟩ := R.lst e2 hb
        obtain ⟨R', X'⟩ := R.writeL ha h1 (h2.app k2)
        exact ⟨_, fun X _ => mt_extend, a, b, us, ws, rfl, rfl, h1, k1, by rw [h2.len, k2.len]; exact hl, h _ _ _ R' (List.prefix_refl _) X' (by simp [RV])⟩
      · exact h.elim
    · exact h.elim
  case h_3 =>
    have := rs.nil_inv
    subst this
    split at h
    · rename_i xs e
      split at h
      · rename_i y ey
        simp only [RV] at r
        obtain ⟨a, ha, rfl⟩ := r
        obtain ⟨us, h1, h2⟩ := R.lst e ha
        obtain ⟨R', X'⟩ := R.writeL ha h1 h2.dropLast
        obtain ⟨u, eu, ru⟩ := h2.get ey
        exact ⟨_, fun X _ => mt_pop, a, us, u, rfl, rfl, h1, by rw [h2.len]; exact eu, h _ _ _ R' (List.prefix_refl _) X' (ru.mono (List.prefix_refl _) X')⟩
      · exact h.elim
    · exact h.elim
  case h_4 =>
    obtain ⟨w, rfl, rw'⟩ := rs.one_inv
    split at h
    · rename_i xs e
      split at h
      · rename_i hl
        split at h
        · rename_i j ej
          split at h
          · rename_i y ey
            simp only [RV] at r rw'
            subst rw'
            obtain ⟨a, ha, rfl⟩ := r
            obtain ⟨us, h1, h2⟩ := R.lst e ha
            obtain ⟨R', X'⟩ := R.writeL ha h1 (h2.erase j)
            obtain ⟨u, eu, ru⟩ := h2.get ey
            exact ⟨_, fun X _ => mt_popAt, a, us, _, j, u, rfl, rfl, h1, hl.1, hl.2, by rw [h2.len]; exact seqIndex_ix ej, eu, h _ _ _ R' (List.prefix_refl _) X' (ru.mono (List.prefix_refl _) X')⟩
          · exact h.elim
        · exact h.elim
      · exact h.elim
    · exact h.elim
  case h_5 => exact absurd rfl hg
  case h_6 =>
    obtain ⟨w, rfl, rw'⟩ := rs.one_inv
    simp only [RV] at r rw'
    subst r
    subst rw'
    split at h
    · rename_i hl
      exact ⟨_, fun X _ => mt_split, _, _, rfl, rfl, by simpa using hl.1, hl.2, fun p hp => post_newL (vs := List.map V.str _) R (strs_rv _) h p hp⟩
    · exact h.elim
  case h_7 =>
    obtain ⟨w, rfl, rw'⟩ := rs.one_inv
    simp only [RV] at r
    subst r
    split at h
    · rename_i ys e
      obtain ⟨xs, e1, e2⟩ := Option.bind_eq_some_iff.mp e
      obtain ⟨p, us, rfl, rx, hk⟩ := rw'.seq R e1
      have := rx.strs e2
      subst this
      split at h
      · rename_i hl
        refine ⟨fun x xs H Q => ∃ a p, ∃ ys : List Str, x = .str a ∧ xs = [.ref p] ∧ (SqL K H p (ys.map V.str) ∨ SqT K H p (ys.map V.str)) ∧ (ys.map (·.length)).sum + ys.length * a.length ≤ 16777216 ∧ Q (.str (Txt.join a ys)) H, fun X hX => hF.eK X hX ▸ (mt_join (X := X)), _, p, ys, rfl, rfl, ?_, hl, h.ok R (by simp only [RV])⟩
        rcases hk with ⟨_, _, hk⟩ | ⟨_, hk⟩
        · exact .inl hk
        · exact .inr hk
      · exact h.elim
    · exact h.elim
  case h_8 =>
    obtain ⟨w, w2, rfl, rw', rw2⟩ := rs.two_inv
    split at h
    · rename_i xs e
      split at h
      · rename_i hl
        simp only [RV] at r rw'
        subst rw'
        obtain ⟨a, ha, rfl⟩ := r
        obtain ⟨us, h1, h2⟩ := R.lst e ha
        obtain ⟨R', X'⟩ := R.writeL ha h1 (((h2.take _).app (RVs.one rw2)).app (h2.drop _))
        exact ⟨_, fun X _ => mt_insert, a, us, _, w2, rfl, rfl, h1, by rw [h2.len]; exact hl.1, hl.2.1, hl.2.2, h _ _ _ R' (List.prefix_refl _) X' (by simp [RV])⟩
      · exact h.elim
    · exact h.elim
  case h_9 =>
    have := rs.nil_inv
    subst this
    split at h
    · rename_i xs e
      simp only [RV] at r
      obtain ⟨a, ha, rfl⟩ := r
      obtain ⟨us, h1, h2⟩ := R.lst e ha
      obtain ⟨R', X'⟩ := R.writeL ha h1 h2.rev
      exact ⟨_, fun X _ => mt_reverse, a, us, rfl, rfl, h1, h _ _ _ R' (List.prefix_refl _) X' (by simp [RV])⟩
    · exact h.elim
  case h_10 =>
    obtain ⟨w, rfl, rw'⟩ := rs.one_inv
    split at h
    · rename_i ds z e1 e2
      split at h
      · rename_i hl
        split at h
        · rename_i j ej
          obtain ⟨q1, _⟩ := pyOf_dp R r e1
          obtain ⟨q2, _⟩ := pyOf_dp R rw' e2
          simp only [RV] at r
          obtain ⟨a, ha, rfl⟩ := r
          obtain ⟨hj, k1, k2⟩ := List.findIdx?_eq_some_iff_getElem.mp ej
          refine ⟨rIndexD K, fun X hX => hF.eK X hX ▸ mt_indexD (X := X) (by have := hF.un X hX; omega), a, w, z, ds, j, ds[j], rfl, rfl, q1, q2, hl.1, hl.2, List.getElem?_eq_getElem hj, k1, fun i z' hi hz => ?_, h.ok R (by simp only [RV])⟩
          have hz' : z' = ds[i]'(by omega) := by
            have := (List.getElem?_eq_some_iff.mp hz).2
            exact this.symm
          have := k2 i hi
          rw [hz']
          simpa using this
        · exact h.elim
      · exact h.elim
    · exact h.elim
  case h_11 => exact h.elim
theorem meth_ok (hF : Fam K mg Γ G N k sc F) {f : Expr → CE → Bool} (hE : SndE K Γ G F f) {o : Expr} {es : List Expr} {ap cp : Pos} {g : MT} {x : CE} {cs : CEs} (hs : noSup o = true) (hl : (ap.endLine == cp.line) = true)
    (h30 : es.length < 30) (ho : f o x = true) (ha : ckAll f es cs = true) {σ : Loc} {σV : L2.St} {Q : VK} (R : Rel K ρ m H) (rl : RL K ρ H σ σV) (h : Post K (RV K) ρ H Q (dE Γ G (.meth g x cs) σ m)) :
    bE F (.Call (.Attribute o g.name ap) es [] cp) σV H Q := by
  simp only [dE] at h
  have hns := ckAll_noSt ha
  by_cases hg : g = .bitLength
  · subst hg
    cases es with
    | cons e es =>
      cases cs with
      | nil => simp [ckAll] at ha
      | cons c cs =>
        exfalso
        cases e1 : dE Γ G x σ m with
        | bad => rw [e1] at h; exact h
        | ex => rw [e1] at h; exact h
        | ok d m1 =>
          rw [e1] at h
          simp only [Res.ok_bind] at h
          split at h
          · cases e2 : dEs Γ G (.cons c cs) σ m1 with
            | bad => rw [e2] at h; exact h
            | ex => rw [e2] at h; exact h
            | ok ds m2 =>
              rw [e2] at h
              simp only [Res.ok_bind] at h
              have : ∃ d' ds', ds = d' :: ds' := by
                simp only [dEs] at e2
                cases e3 : dE Γ G c σ m1 with
                | bad => rw [e3] at e2; simp at e2
                | ex => rw [e3] at e2; simp at e2
                | ok d' m3 =>
                  rw [e3] at e2
                  simp only [Res.ok_bind] at e2
                  cases e4 : dEs Γ G cs σ m3 with
                  | bad => rw [e4] at e2; simp at e2
                  | ex => rw [e4] at e2; simp at e2
                  | ok ds' m4 => rw [e4] at e2; simp at e2; exact ⟨d', ds', e2.1.symm⟩
              obtain ⟨d', ds', rfl⟩ := this
              unfold mtD at h
              split at h <;> first | exact h | (rename_i heq; cases heq) | skip
              all_goals (first | exact h | (simp_all))
          · exact h
    | nil =>
      refine ⟨tBits (bE F o), fun X hX => pe_bits (bE_ok hX o) (base_sup hs) hl, ?_⟩
      refine hE ho R rl (h.bind fun d m1 ρ1 H1 v R1 p1 x1 r1 h1 => ?_)
      cases cs with
      | cons _ _ => simp [ckAll] at ha
      | nil =>
        cases d with
        | int i =>
          simp only [RV] at r1; subst r1
          refine ⟨i, rfl, ?_⟩
          simp only [dEs, mtPre, if_true, Res.ok_bind, mtD] at h1
          exact h1.ok R1 (by simp [RV])
        | _ => simp only [mtPre] at h1; exact h1.elim
  · obtain ⟨f1, f2, f3⟩ := mt_facts hg
    cases es with
    | nil =>
      cases cs with
      | cons _ _ => simp [ckAll] at ha
      | nil =>
        refine bm0_ok hF f1 f2 f3 hs hl (hE ho R rl (h.bind fun d m1 ρ1 H1 v R1 p1 x1 r1 h1 => ?_))
        split at h1
        · rename_i hp
          simp only [dEs, Res.ok_bind] at h1
          exact ⟨mt_ty hg R1 r1 hp, mt_rule hF.toFew hg R1 r1 (by simp [RVs]) h1⟩
        · exact h1.elim
    | cons e es =>
      refine bm_ok hF f1 f2 f3 hs hl hns h30 (hE ho R rl (h.bind fun d m1 ρ1 H1 v R1 p1 x1 r1 h1 => ?_))
      split at h1
      · rename_i hp
        refine ⟨mt_ty hg R1 r1 hp, args_ok hE ha R1 (rl.mono p1 x1) (h1.bind fun ds m2 ρ2 H2 vs R2 p2 x2 r2 h2 => ?_)⟩
        exact mt_rule hF.toFew hg R2 (r1.mono p2 x2) r2 h2
      · exact h1.elim
end
end PC

namespace PC
open PySem L2 Classical
/-! ### the block of a comprehension -/
def blkF (F : Cx → Prop) (scope : Scope) : Cx → Prop := fun Y => ∃ X s H C cl fp, F X ∧ Y = X.blk s H scope (compEnvC scope cl C X.env) fp
theorem relabel_lookup {env : Env} : ∀ {names : List (Str × NameKind)} (x : Str),
    (names.map fun (n, k) => if (k == NameKind.free && env.scope.kind == .function && env.kindOf n == some .cell) then (n, NameKind.cell) else (n, k)).lookup x = names.lookup x ∨
      (names.lookup x = some .free ∧ (names.map fun (n, k) => if (k == NameKind.free && env.scope.kind == .function && env.kindOf n == some .cell) then (n, NameKind.cell) else (n, k)).lookup x = some .cell)
  | [], x => .inl rfl
  | (n, k) :: r, x => by
    simp only [List.map_cons]
    by_cases hx : x = n
    · subst hx
      split
      · rename_i hk
        simp only [Bool.and_eq_true, beq_iff_eq] at hk
        right
        simp [hk.1.1]
      · left; simp
    · have hb : (x == n) = false := by simpa using hx
      have := relabel_lookup (env := env) (names := r) x
      split <;> simpa [List.lookup_cons, hb] using this
theorem wipe_len (σ : L2.St) : ∀ vs, (wipe σ vs).length = σ.length
  | [] => rfl
  | v :: vs => by simp [wipe, wipe_len σ vs]
theorem wipe_get (σ : L2.St) : ∀ (vs : List Nat) (j : Nat), (wipe σ vs)[j]? = if j ∈ vs then (if j < σ.length then some none else none) else σ[j]?
  | [], j => by simp [wipe]
  | v :: vs, j => by
    simp only [wipe, List.getElem?_set, wipe_len, wipe_get σ vs j, List.mem_cons]
    by_cases h : v = j
    · subst h; simp
    · simp [h, Ne.symm h, show ¬ j = v from fun e => h e.symm]
theorem wipe_set {σ : L2.St} {vs : List Nat} {i : Nat} {x : Option V} (h : i ∈ vs) : wipe (σ.set i x) vs = wipe σ vs := by
  apply List.ext_getElem?
  intro j
  rw [wipe_get, wipe_get]
  by_cases hj : j ∈ vs
  · simp [hj]
  · have : i ≠ j := fun e => hj (e ▸ h)
    simp [hj, List.getElem?_set_ne this]
theorem wipe_wipe {σ : L2.St} {vs : List Nat} : wipe (wipe σ vs) vs = wipe σ vs := by
  apply List.ext_getElem?
  intro j
  rw [wipe_get, wipe_get, wipe_len]
  by_cases hj : j ∈ vs <;> simp [hj]
theorem wipeL_len (σ : Loc) : ∀ vs, (wipeL σ vs).length = σ.length
  | [] => rfl
  | v :: vs => by simp [wipeL, wipeL_len σ vs]
theorem wipeL_get (σ : Loc) : ∀ (vs : List Nat) (j : Nat), (wipeL σ vs)[j]? = if j ∈ vs then (if j < σ.length then some none else none) else σ[j]?
  | [], j => by simp [wipeL]
  | v :: vs, j => by
    simp only [wipeL, List.getElem?_set, wipeL_len, wipeL_get σ vs j, List.mem_cons]
    by_cases h : v = j
    · subst h; simp
    · simp [h, Ne.symm h, show ¬ j = v from fun e => h e.symm]
theorem tgtIn_has {vs : List Nat} : ∀ {t : CT}, tgtIn vs t = true → ∀ i, tgtHas t i = true → i ∈ vs
  | .name j, h, i, hi => by
    simp only [tgtIn, List.contains_iff_mem] at h
    simp only [tgtHas, beq_iff_eq] at hi
    exact hi ▸ h
  | .sub _ _, h, _, _ => by simp [tgtIn] at h
  | .tup ts, h, i, hi => by
    simp only [tgtIn] at h
    simp only [tgtHas] at hi
    exact go h i hi
where
  go : ∀ {ts : CTs}, tgtsIn vs ts = true → ∀ i, tgtsHas ts i = true → i ∈ vs
  | .nil, _, _, hi => by simp [tgtsHas] at hi
  | .cons t ts, h, i, hi => by
    simp only [tgtsIn, Bool.and_eq_true] at h
    simp only [tgtsHas, Bool.or_eq_true] at hi
    rcases hi with hi | hi
    · exact tgtIn_has h.1 i hi
    · exact go h.2 i hi
section
variable {K : PySem.W.Frag} {mg : Str → Option Value} {Γ : Fn} {G : Str → Option D} {N : List Str} {k n : Nat} {sc : Sc} {F : Cx → Prop} {ρ : List Addr} {H : Hp} {m : Mem}
theorem RL.wipe {σ : Loc} {σV : L2.St} (h : RL K ρ H σ σV) (vs : List Nat) : RL K ρ H (wipeL σ vs) (L2.wipe σV vs) := by
  refine ⟨by rw [wipe_len, wipeL_len]; exact h.1, fun i d e => ?_⟩
  rw [wipeL_get] at e
  rw [wipe_get]
  by_cases hi : i ∈ vs
  · simp only [hi, if_true] at e
    split at e <;> cases e
  · simp only [hi, if_false] at e ⊢
    exact h.2 i d e
theorem Fam.blk (hF : Fam K mg Γ G N k sc F) {scope : Scope} (hk : scope.kind = .function) : Fam K mg Γ G N k scope.names (blkF F scope) where
  eK := by rintro Y ⟨X, s, H, C, cl, fp, hX, rfl⟩; exact hF.eK X hX
  calm := by rintro Y ⟨X, s, H, C, cl, fp, hX, rfl⟩; exact hF.calm X hX
  un := by rintro Y ⟨X, s, H, C, cl, fp, hX, rfl⟩; exact hF.un X hX
  eg := by rintro Y ⟨X, s, H, C, cl, fp, hX, rfl⟩; exact hF.eg X hX
  eN := by rintro Y ⟨X, s, H, C, cl, fp, hX, rfl⟩; exact hF.eN X hX
  nd := hF.nd
  kind := by rintro Y ⟨X, s, H, C, cl, fp, hX, rfl⟩; exact hk
  lk := by rintro Y ⟨X, s, H, C, cl, fp, hX, rfl⟩ x; exact relabel_lookup (env := X.env) (names := scope.names) x
  fn := by
    rintro Y ⟨X, s, H, C, cl, fp, hX, rfl⟩ x h
    rcases h with h | h
    · right
      rcases relabel_lookup (env := X.env) (names := scope.names) x with e | ⟨e, _⟩
      · show (relabel scope X.env).names.lookup x = _
        exact e.trans h
      · rw [h] at e; cases e
    · left
      show (scope.names.lookup x == some .cell) = true
      rw [h]; rfl
  po := by rintro Y ⟨X, s, H, C, cl, fp, hX, rfl⟩; exact PassesOwn.never
  room := by rintro Y ⟨X, s, H, C, cl, fp, hX, rfl⟩; exact hF.room X hX
  calls := fun f ds m h => by
    obtain ⟨a, fd, ps, dd, dvs, dsV, h1, h2, h3, h4, h6, h7, h8, h5⟩ := hF.calls f ds m h
    exact ⟨a, fd, ps, dd, dvs, dsV, h1, h2, h3, h4, h6, h7, h8, by rintro Y ⟨X, s, H, C, cl, fp, hX, rfl⟩; exact h5 X hX⟩
  glob := hF.glob
  blt := hF.blt
theorem blk_ok (hF : Fam K mg Γ G N k sc F) {scope : Scope} {own : List (Str × Nat)} (h : blkC N ⟨.function, sc, false, false, []⟩ scope own = true) {X : Cx} (hX : F X) : BlkOk X.N X.env.scope scope own := by
  obtain ⟨h1, h2, h3, h4, h5⟩ := blkOk_by h
  rw [hF.eN X hX]
  refine ⟨h1, h2, h3, fun y hy e => ?_, h5⟩
  rcases hF.lk X hX y.1 with q | ⟨q1, q2⟩
  · rw [q]; exact h4 y hy e
  · exact .inl q2
theorem own_snd (N : List Str) (vs : List Nat) : (ownOf N vs).map (·.2) = vs := by
  unfold ownOf; rw [List.map_map]; exact List.map_id vs
theorem comp_guard {gs : List (Nat × List D)} {j : Nat} {body : D → Mem → Res (Option D)} {Q : VK} {mi : Mem} : ∀ {xs : List D}, Post K (RV K) ρ H Q (compD gs j body xs mi) → guardOk gs mi
  | [], h => by unfold compD at h; split at h <;> first | assumption | exact h.elim
  | _ :: _, h => by unfold compD at h; split at h <;> first | assumption | exact h.elim
/-- an item of a comprehension, or none -/
def RCo (K : PySem.W.Frag) (ρ : List Addr) (H : Hp) : Option D → Option V → Prop
  | some d, some u => RV K ρ H d u
  | none, none => True
  | _, _ => False
/-- the turns of a comprehension -/
theorem comp_ok {J : It} {p : Itr} {σV : L2.St} {vs : List Nat} {Q : VK} {g : TG} {tt : TT} {te : TE} {body : D → Mem → Res (Option D)} (R : Rel K ρ m H) (W : RIt K ρ H p J)
    (h : Post K (RV K) ρ H Q (compD p.2 m.length body p.1 (m ++ [.lst []])))
    (hb : ∀ x v m1 ρ1 H1 H2 (Qs : V → Hp → Prop) (Qn : Hp → Prop), Rel K ρ1 m1 H1 → ρ <+: ρ1 → Ext H H1 → Rel K ρ1 m1 H2 → Ext H1 H2 → RV K ρ1 H2 x v → Post K (RCo K) ρ1 H2 (fun ov H' => match ov with | some u => Qs u H' | none => Qn H') (body x m1) →
      g v (wipe σV vs) H2 fun σ2 H3 => wipe σ2 vs = wipe σV vs ∧ tt σ2 H3 fun b H4 => if b = true then te σ2 H4 Qs else Qn H4) :
    ∀ D, H D = none → ∃ W : Nat → Nat → Hp → Prop, (∃ m, W 0 m (upd H D (.lst []))) ∧ ∀ i m H, W i m H →
      (J.stop i H ∧ Q (.ref D) H) ∨ (J.go i H ∧ ∃ Nx : Hp → Prop, (∀ H', Nx H' → ∃ m', m' < m ∧ W (i + 1) m' H') ∧ ∀ x H', J.yld i H x H' → g x (wipe σV vs) H' fun σ2 H2 => wipe σ2 vs = wipe σV vs ∧ tt σ2 H2 fun b H3 =>
        if b = true then te σ2 H3 fun y H4 => ∃ acc, H4 D = some (.lst acc) ∧ acc.length < sizeLine ∧ Nx (upd H4 D (.lst (acc ++ [y]))) else Nx H3) := by
  intro D hD
  obtain ⟨Gd, Y, w, hG, hY⟩ := W.ex
  have hext : Ext H (upd H D (.lst [])) := .new hD
  refine lc_it w (fun i H1 => ∃ mi ρi, Rel K ρi mi H1 ∧ (ρ ++ [D]) <+: ρi ∧ Ext H H1 ∧ Post K (RV K) ρ H Q (compD p.2 m.length body (p.1.drop i) mi)) ?_ ?_ ?_ ?_
  · exact ⟨m ++ [.lst []], ρ ++ [D], R.allocL hD (by simp [RVs]), List.prefix_refl _, hext, by simpa using h⟩
  · rintro i H1 hi ⟨mi, ρi, R1, p1, x1, h1⟩
    have hg : guardOk p.2 mi := comp_guard h1
    exact hG ρi mi H1 R1 ((List.prefix_append _ _).trans p1) x1 hg
  · rintro i x H1 H2 hi ⟨mi, ρi, R1, p1, x1, h1⟩ y
    have pρ : ρ <+: ρi := (List.prefix_append _ _).trans p1
    obtain ⟨R2, x2, k2, d, ed, rd⟩ := hY i H1 x H2 ρi mi hi R1 pρ x1 (comp_guard h1) y
    have hdrop : p.1.drop i = d :: p.1.drop (i + 1) := by
      have := (List.getElem?_eq_some_iff.mp ed).2
      rw [List.drop_eq_getElem_cons hi, this]
    rw [hdrop] at h1
    unfold compD at h1
    split at h1
    · rename_i hg
      refine hb d x mi ρi H1 H2 _ _ R1 pρ x1 R2 x2 rd ?_
      cases eb : body d mi with
      | bad => rw [eb] at h1; exact h1
      | ex => rw [eb] at h1; exact h1
      | ok o m2 =>
        rw [eb] at h1
        simp only [Res.ok_bind] at h1
        intro ρ2 H3 ov R3 p3 x3 r3
        cases o with
        | none =>
          cases ov with
          | some _ => exact r3.elim
          | none => exact ⟨m2, ρ2, R3, p1.trans p3, x1.trans (x2.trans x3), h1⟩
        | some d' =>
          cases ov with
          | none => exact r3.elim
          | some u =>
            simp only at h1
            split at h1
            · rename_i acc ea
              split at h1
              · rename_i hl
                have hρ : ρ2[m.length]? = some D := by
                  refine pre_get (p1.trans p3) ?_
                  rw [← R.len]; simp
                obtain ⟨us, k1, k3⟩ := R3.lst ea hρ
                obtain ⟨R4, x4⟩ := R3.writeL hρ k1 (k3.app (RVs.one (show RV K ρ2 H3 d' u from r3)))
                exact ⟨us, k1, by rw [k3.len]; exact hl, _, ρ2, R4, p1.trans p3, x1.trans (x2.trans (x3.trans x4)), h1⟩
              · exact h1.elim
            · exact h1.elim
    · exact h1.elim
  · rintro H1 ⟨mi, ρi, R1, p1, x1, h1⟩
    rw [List.drop_length] at h1
    unfold compD at h1
    split at h1
    · refine h1 ρi H1 _ R1 ((List.prefix_append _ _).trans p1) x1 ?_
      simp only [RV]
      exact ⟨D, pre_get p1 (by rw [← R.len]; simp), rfl⟩
    · exact h1.elim

/-! ### what is walked -/
theorem it_list {a : Addr} {xs : List D} {gs : List (Nat × List D)} (hg : ∀ (ρ' : List Addr) (m' : Mem) (H' : Hp), Rel K ρ' m' H' → ρ <+: ρ' → Ext H H' → guardOk gs m' → ∃ vs, SqL K H' a vs ∧ RVs K ρ' H' xs vs) : RIt K ρ H (xs, gs) (Itl K a) where
  ex := by
    refine ⟨fun H' => ∃ vs, SqL K H' a vs ∧ vs.length = xs.length, fun i H1 x H2 => H2 = H1 ∧ ∀ vs, SqL K H1 a vs → vs[i]? = some x, ⟨fun i H' hi ⟨vs, h1, h2⟩ => ⟨vs, vs[i]'(by rw [h2]; exact hi), h1, by simp [h2, hi]⟩, fun H' ⟨vs, h1, h2⟩ => ⟨vs, h1, by rw [h2]; exact Nat.le_refl _⟩, fun i H' x H2 hi _ y => y⟩, fun ρ' m' H' R p x g => ?_, ?_⟩
    · obtain ⟨vs, h1, h2⟩ := hg ρ' m' H' R p x g
      exact ⟨vs, h1, h2.len⟩
    · rintro i H1 x H2 ρ1 m1 hi R p e g ⟨rfl, y⟩
      obtain ⟨vs, h1, h2⟩ := hg ρ1 m1 H2 R p e g
      obtain ⟨v, hv, rv⟩ := h2.get (List.getElem?_eq_getElem hi)
      rw [y vs h1] at hv; cases hv
      exact ⟨R, .refl _, fun _ _ => rfl, xs[i], List.getElem?_eq_getElem hi, rv⟩
theorem it_tup {a : Addr} {xs : List D} {vs : List V} (h : SqT K H a vs) (r : RVs K ρ H xs vs) : RIt K ρ H (xs, []) (Itt K a) where
  ex := by
    refine ⟨fun H' => ∃ vs, SqT K H' a vs ∧ vs.length = xs.length, fun i H1 x H2 => H2 = H1 ∧ ∀ vs, SqT K H1 a vs → vs[i]? = some x, ⟨fun i H' hi ⟨vs, h1, h2⟩ => ⟨vs, vs[i]'(by rw [h2]; exact hi), h1, by simp [h2, hi]⟩, fun H' ⟨vs, h1, h2⟩ => ⟨vs, h1, by rw [h2]; exact Nat.le_refl _⟩, fun i H' x H2 hi _ y => y⟩, fun ρ' m' H' R p x g => ?_, ?_⟩
    · exact ⟨vs, x.sqt h, r.len⟩
    · rintro i H1 x H2 ρ1 m1 hi R p e g ⟨rfl, y⟩
      obtain ⟨v, hv, rv⟩ := (r.mono p e).get (List.getElem?_eq_getElem hi)
      rw [y vs (e.sqt h)] at hv; cases hv
      exact ⟨R, .refl _, fun _ _ => rfl, xs[i], List.getElem?_eq_getElem hi, rv⟩
theorem it_str {z : Str} : RIt K ρ H (z.cps.toList.map fun c => .str ⟨#[c]⟩, []) (Its z) where
  ex := by
    refine ⟨_, _, (by show Walk (Its z) (z.cps.toList.map fun c => (D.str ⟨#[c]⟩)).length _ _; rw [List.length_map, Array.length_toList]; exact walk_str), fun _ _ _ _ _ _ _ => trivial, ?_⟩
    rintro i H1 x H2 ρ1 m1 hi R p e g ⟨rfl, c, hc, rfl⟩
    refine ⟨R, .refl _, fun _ _ => rfl, .str ⟨#[c]⟩, ?_, by simp only [RV]⟩
    rw [List.getElem?_map, Array.getElem?_toList, hc]; rfl
theorem it_range {lo hi : Int} : RIt K ρ H (rngD lo hi, []) (L2.Itr lo (hi - lo).toNat) where
  ex := by
    refine ⟨_, _, (by show Walk _ (rngD lo hi).length _ _; rw [show (rngD lo hi).length = (hi - lo).toNat by simp [rngD]]; exact walk_range), fun _ _ _ _ _ _ _ => trivial, ?_⟩
    rintro i H1 x H2 ρ1 m1 hi' R p e g ⟨rfl, rfl⟩
    have hl : i < (hi - lo).toNat := by simpa [rngD] using hi'
    refine ⟨R, .refl _, fun _ _ => rfl, .int (lo + (i : Nat)), ?_, by simp only [RV]⟩
    simp [rngD, hl]
/-- a list or a tuple that is walked: its readings at all later states -/
theorem iterS_ok {d : D} {v : V} {p : PC.Itr} (R : Rel K ρ m H) (r : RV K ρ H d v) (h : iterS m d = some p) : ∃ a, v = .ref a ∧
    ((((∃ n, d = .ref n) ∨ d = .kl p.1) ∧ guardOk p.2 m) ∧ (∀ (ρ' : List Addr) (m' : Mem) (H' : Hp), Rel K ρ' m' H' → ρ <+: ρ' → Ext H H' → guardOk p.2 m' → ∃ vs, SqL K H' a vs ∧ RVs K ρ' H' p.1 vs) ∨
     (∃ vs, d = .tup p.1 ∧ p.2 = [] ∧ SqT K H a vs ∧ RVs K ρ H p.1 vs)) := by
  cases d with
  | tup xs =>
    simp only [iterS, Option.some.injEq] at h; subst h
    simp only [RV] at r
    obtain ⟨a, vs, rfl, h2, h3⟩ := r
    exact ⟨a, rfl, .inr ⟨vs, rfl, rfl, h2, h3⟩⟩
  | ref n =>
    simp only [RV] at r
    obtain ⟨a, ha, rfl⟩ := r
    obtain ⟨o, ho, ro⟩ := R.there ha
    simp only [iterS, ho] at h
    cases o with
    | lst xs =>
      simp only [Option.some.injEq] at h; subst h
      refine ⟨a, rfl, .inl ⟨⟨.inl ⟨n, rfl⟩, fun z hz => by rw [List.mem_singleton.mp hz]; exact ho⟩, fun ρ' m' H' R' p' x' g => ?_⟩⟩
      obtain ⟨vs, h1, h2⟩ := R'.lst (g (n, xs) (by simp)) (pre_get p' ha)
      exact ⟨vs, SqL.of h1, h2⟩
    | _ => simp at h
  | kl xs =>
    simp only [iterS, Option.some.injEq] at h; subst h
    simp only [RV] at r
    obtain ⟨a, vs, rfl, h2, h3⟩ := r
    exact ⟨a, rfl, .inl ⟨⟨.inr rfl, fun z hz => by cases hz⟩, fun ρ' m' H' R' p' x' g => ⟨vs, (x'.fzl h2).sq, h3.mono p' x'⟩⟩⟩
  | _ => simp [iterS] at h
end
end PC

/-! PZip: zip and enumerate of lists and tuples, in any mix -/
namespace PC
open PySem L2 Classical
open PyProof.Rows (Call_)
/-- a list (true) or a tuple (false) -/
def SqB (K : PySem.W.Frag) (b : Bool) (H : Hp) (a : Addr) (xs : List V) : Prop := match b with | true => SqL K H a xs | false => SqT K H a xs
def IterB (b : Bool) (h : Heap) (it a : Addr) (i : Nat) : Prop := match b with | true => h.IsListIter it a i | false => h.IsTupleIter it a i
def IsB (b : Bool) (h : Heap) (a : Addr) (its : Array Value) : Prop := match b with | true => h.IsList a its | false => h.IsTuple a its
theorem IterB.at {b : Bool} {h h' : Heap} {it a : Addr} {i : Nat} (x : IterB b h it a i) (e : ∀ o, h.get? it = some o → h'.get? it = some o) : IterB b h' it a i := by
  cases b
  · exact Heap.IsTupleIter.at x e
  · exact Heap.IsListIter.at x e
theorem IterB.obj {b : Bool} {h : Heap} {it a : Addr} {i : Nat} (x : IterB b h it a i) : ∃ o, h.get? it = some o ∧ ∀ v, o.data ≠ .cell v := by
  cases b
  · obtain ⟨o, e, _, d⟩ := x; exact ⟨o, e, fun v q => by rw [d] at q; cases q⟩
  · obtain ⟨o, e, _, d⟩ := x; exact ⟨o, e, fun v q => by rw [d] at q; cases q⟩
theorem SqB.is {b : Bool} {X : Cx} {pins : List (Addr × Obj)} {σ : L2.St} {H : Hp} {s : Shared} {a : Addr} {xs : List V} (I : Inv X pins σ H s) (h : SqB X.K b H a xs) : ∃ its : List Value, Vals xs its ∧ IsB b s.heap a its.toArray ∧ a < s.heap.objs.size := by
  cases b
  · obtain ⟨its, rv, p, _⟩ := I.tuple h
    exact ⟨its, rv, p, by obtain ⟨_, e, _⟩ := p; exact Heap.lt_size e⟩
  · obtain ⟨its, rv, p, _⟩ := I.list h
    exact ⟨its, rv, p.isList, p.lt⟩
theorem SqB.inj {b : Bool} {X : Cx} {pins : List (Addr × Obj)} {σ : L2.St} {H : Hp} {s : Shared} {a : Addr} {xs ys : List V} (I : Inv X pins σ H s) (h : SqB X.K b H a xs) (h' : SqB X.K b H a ys) : xs = ys := by
  cases b
  · exact I.tuple_inj h h'
  · exact I.list_inj h h'
theorem iterB_ne {b : Bool} {h : Heap} {a it a' : Addr} {i : Nat} {its : Array Value} (p : IsB b h a its) (q : IterB b h it a' i) : a ≠ it := fun e => by
  subst e
  cases b
  · obtain ⟨_, e1, c1, _⟩ := p; obtain ⟨_, e2, c2, _⟩ := q; rw [e1] at e2; cases e2; rw [c1] at c2; exact absurd c2 (by simp)
  · obtain ⟨_, e1, c1, _⟩ := p; obtain ⟨_, e2, c2, _⟩ := q; rw [e1] at e2; cases e2; rw [c1] at c2; exact absurd c2 (by simp)
def StB (b : Bool) (it a : Addr) (its : Array Value) : Nat → Heap → Prop := fun i h => IterB b h it a i ∧ IsB b h a its
theorem drawsB {prog : Program} {w : World} {A : Around} (b : Bool) (hh : A.handled = none) (it l : Addr) (hne : l ≠ it) (items : Array Value) :
    Draws prog w A it [it, l] items.size (fun i v => items[i]? = some v) (StB b it l items) := by
  cases b
  · exact Draws.tuple hh it l hne items
  · exact Draws.list hh it l hne items
def itoB (b : Bool) (a : Addr) : Obj := match b with | true => { cls := .type "list_iterator", data := .fields #[.ref a, .int 0 0] } | false => { cls := .type "tuple_iterator", data := .fields #[.ref a, .int 0 0] }
theorem beginsB (b : Bool) (a : Addr) (its : Array Value) : Begins (.ref a) (itoB b a) (fun h => IsB b h a its) := by
  cases b
  · exact begins_tuple a its
  · exact begins_list a its
theorem iterB_new {b : Bool} {h : Heap} {it a : Addr} (e : h.get? it = some (itoB b a)) : IterB b h it a 0 := by
  cases b
  · exact ⟨_, e, rfl, rfl⟩
  · exact ⟨_, e, rfl, rfl⟩
/-- zip's turns -/
def ItzB (K : PySem.W.Frag) (b1 b2 : Bool) (a b : Addr) : It :=
  ⟨fun i H => ∃ (xs ys : List V) (x y : V), SqB K b1 H a xs ∧ SqB K b2 H b ys ∧ xs[i]? = some x ∧ ys[i]? = some y,
    fun i H v H' => ∃ T x y, v = .ref T ∧ H T = none ∧ H' = upd H T (.tup [x, y]) ∧ (∀ xs, SqB K b1 H a xs → xs[i]? = some x) ∧ ∀ ys, SqB K b2 H b ys → ys[i]? = some y,
    fun i H => ∃ xs ys : List V, SqB K b1 H a xs ∧ SqB K b2 H b ys ∧ i ≤ xs.length ∧ i ≤ ys.length ∧ (xs.length = i ∨ ys.length = i)⟩
theorem turn_zipB {P : Program} {w : World} {K : PySem.W.Frag} {elts : List Expr} {kk : Nat} {tpos : Pos} (b1 b2 : Bool) {a b z TI TO i1 i2 : Addr} (S : ZipSep2 z TI TO i1 i2 [i1, a] [i2, b]) :
    Turn P w K (.Tuple elts kk tpos) (ItzB K b1 b2 a b) [z, TI, TO, i1, i2] z (fun i h => IsZip h z TI TO .none ∧ IsTupOf2 h TI (.ref i1) (.ref i2) ∧ (∃ x y, IsTupOf2 h TO x y) ∧ IterB b1 h i1 a i ∧ IterB b2 h i2 b i) where
  mem := by simp
  obj := fun i h st c hc => by
    obtain ⟨hz, hTI, ⟨x, y, hTO⟩, h1, h2⟩ := st
    have e' : c = z ∨ c = TI ∨ c = TO ∨ c = i1 ∨ c = i2 := by simpa using hc
    rcases e' with q | q | q | q | q
    · rw [q]; exact ⟨_, hz, fun v q => nomatch q⟩
    · rw [q]; exact ⟨_, hTI, fun v q => nomatch q⟩
    · rw [q]; exact ⟨_, hTO, fun v q => nomatch q⟩
    · rw [q]; exact h1.obj
    · rw [q]; exact h2.obj
  keep := fun i h h' st k => by
    obtain ⟨hz, hTI, ⟨x, y, hTO⟩, h1, h2⟩ := st
    exact ⟨k z (by simp) _ hz, k TI (by simp) _ hTI, ⟨x, y, k TO (by simp) _ hTO⟩, h1.at fun o q => k i1 (by simp) o q, h2.at fun o q => k i2 (by simp) o q⟩
  item := by
    intro X hP hw hK hc i pins s σ H E I hf st hg
    subst hP hw hK
    obtain ⟨hz, hTI, ⟨x0, y0, hTO⟩, h1, h2⟩ := st
    obtain ⟨xs, ys, x, y, hqx, hqy, hx, hy⟩ := hg
    obtain ⟨its, rv, p, la⟩ := hqx.is I
    obtain ⟨its2, rv2, p2, lb⟩ := hqy.is I
    obtain ⟨u, hu, ru⟩ := rv.get hx
    obtain ⟨u2, hu2, ru2⟩ := rv2.get hy
    have hzl : z < s.heap.objs.size := Heap.lt_size hz
    have hlt1 : i < its.toArray.size := by simpa using (List.getElem?_eq_some_iff.mp hu).1
    have hlt2 : i < its2.toArray.size := by simpa using (List.getElem?_eq_some_iff.mp hu2).1
    have hai : a ≠ i1 := iterB_ne p h1
    have hbi : b ≠ i2 := iterB_ne p2 h2
    refine wpAny_pyNext_zipD2_item S (drawsB (A := X.A.in1) b1 (I.ok.hd hc) i1 a hai its.toArray) (drawsB (A := X.A.in1) b2 (I.ok.hd hc) i2 b hbi its2.toArray) hz hTI hTO ⟨h1, p⟩ ⟨h2, p2⟩ hlt1 hlt2 fun w1 w2 h' tk e1 e2 z' TO' st1 st2 hT hsz hk => ?_
    have e1' : w1 = u := by simp at e1; rw [hu] at e1; exact (Option.some.inj e1).symm
    have e2' : w2 = u2 := by simp at e2; rw [hu2] at e2; exact (Option.some.inj e2).symm
    subst e1' e2'
    refine ⟨_, rfl, wpAny_letOwnedTupleGo_zip (s := { s with heap := h', toks := tk }) z' fun h'' z'' sb => ?_⟩
    have hT2 : h''.get? s.heap.objs.size = some { cls := .type "tuple", data := .seq #[w1, w2] } := (sb.2 _ (Nat.ne_of_gt hzl)).trans hT
    have new : ObjOk X.prog X.w (upd H s.heap.objs.size (.tup [x, y])) h'' s.heap.objs.size (.tup [x, y]) :=
      ⟨by show 2 ≤ sizeLine; decide, [w1, w2], .cons ru (.cons ru2 .nil), ⟨_, hT2, rfl, _, rfl⟩⟩
    have I1 : Inv X pins σ (upd H s.heap.objs.size (.tup [x, y])) { s with heap := h'', toks := tk } :=
      I.turnedNew (t' := tk) (ch := [z, TI, TO, i1, i2]) (fun c o hb q => (sb.2 c (fun q' => hb (by simp [q']))).trans (hk c o (fun q' => hb (by simp [q'])) (fun q' => hb (by simp [q'])) (fun q' => hb (by simp [q'])) (fun q' => hb (by simp [q'])) q)) hf (Nat.le_refl _) new
    refine ⟨.ref s.heap.objs.size, _, I1, rfl, ⟨_, x, y, rfl, I.hok.fresh (Nat.le_refl _), rfl, fun l hl => by rw [SqB.inj I hl hqx]; exact hx, fun l hl => by rw [SqB.inj I hl hqy]; exact hy⟩, ⟨z'', ?_, ⟨w1, w2, ?_⟩, ?_, ?_⟩, fun c hcm => ?_⟩
    · exact (sb.2 _ S.TIz).trans (hk _ _ S.TIz S.TITO S.TIi1 S.TIi2 hTI)
    · exact (sb.2 _ S.TOz).trans TO'
    · exact IterB.at st1.1 fun o q => (sb.2 _ (Ne.symm S.zi1)).trans q
    · exact IterB.at st2.1 fun o q => (sb.2 _ (Ne.symm S.zi2)).trans q
    · have hlt : c < s.heap.objs.size := by
        have e' : c = z ∨ c = TI ∨ c = TO ∨ c = i1 ∨ c = i2 := by simpa using hcm
        rcases e' with q | q | q | q | q
        · rw [q]; exact hzl
        · rw [q]; exact Heap.lt_size hTI
        · rw [q]; exact Heap.lt_size hTO
        · rw [q]; obtain ⟨_, e1, _⟩ := h1.obj; exact Heap.lt_size e1
        · rw [q]; obtain ⟨_, e2, _⟩ := h2.obj; exact Heap.lt_size e2
      rw [upd_ne (Nat.ne_of_lt hlt)]
      exact (hf c hcm).1
  done := by
    intro X hP hw hK hc i pins s σ H E I hf st hg
    subst hP hw hK
    obtain ⟨hz, hTI, ⟨x0, y0, hTO⟩, h1, h2⟩ := st
    obtain ⟨xs, ys, hqx, hqy, l1, l2, hend⟩ := hg
    obtain ⟨its, rv, p, la⟩ := hqx.is I
    obtain ⟨its2, rv2, p2, lb⟩ := hqy.is I
    have k1 := rv.length
    have k2 := rv2.length
    have hai : a ≠ i1 := iterB_ne p h1
    have hbi : b ≠ i2 := iterB_ne p2 h2
    exact wpAny_pyNext_zipD2_end S (drawsB (A := X.A.in1) b1 (I.ok.hd hc) i1 a hai its.toArray) (drawsB (A := X.A.in1) b2 (I.ok.hd hc) i2 b hbi its2.toArray) hz hTI hTO ⟨h1, p⟩ ⟨h2, p2⟩ (by simp; omega) (by simp; omega) (by simp; omega) fun h' tk hk =>
      ⟨rfl, I.turnedL (t' := tk) (ch := [z, TI, TO, i1, i2]) (fun c o hb q => hk c o (fun q' => hb (by simp [q'])) (fun q' => hb (by simp [q'])) (fun q' => hb (by simp [q'])) (fun q' => hb (by simp [q'])) q) hf⟩
  self := fun A i s Q E st h => wpAny_pyIter_zip st.1 h
def iZipB (K : PySem.W.Frag) (ta : TA) : TI := fun σ H R => ta σ H fun vs H1 => ∃ b1 b2 a b xs ys, vs = [.ref a, .ref b] ∧ SqB K b1 H1 a xs ∧ SqB K b2 H1 b ys ∧ R (ItzB K b1 b2 a b) H1
theorem pi_zipB {X : Cx} {e e2 : Expr} {ta : TA} {p pos tpos : Pos} {elts : List Expr} {kk : Nat} (hg : Gl X "zip") (hm : X.mg "zip" = none) (ha : PA X [e, e2] ta)
    (hs : starEach [e, e2] X.env = (false, eval e X.env) :: starEach [e2] X.env) (hpl : (backTo pos (starEach [e2] X.env)).any (·.1) = false) :
    PI X (.Tuple elts kk tpos) (.Call (.Name "zip" p) [e, e2] [] pos) (iZipB X.K ta) := by
  refine ⟨fun pins s σ H R I h => ?_⟩
  refine Call_ (ld_blt I hg hm PyProof.Rows.boot_zip (PyProof.Rows.callWith_type1 (thn (ha.run pos pins s σ H _ I h) fun us s1 ⟨vs, H1, I1, r1, q1⟩ => ?_) hs hpl))
  obtain ⟨b1, b2, a, b, xs, ys, ex, hqx, hqy, q1⟩ := q1
  subst ex
  cases r1 with
  | cons r rr =>
    cases rr with
    | cons r' rr =>
      cases rr
      cases r
      cases r'
      obtain ⟨its, rv, p1, la⟩ := hqx.is I1
      obtain ⟨its2, rv2, p2, lb⟩ := hqy.is I1
      refine zip_begins2 (beginsB b1 a its.toArray) (beginsB b2 b its2.toArray) p1 p2 fun h' hz hTI hTO h1 h2 hsz hk => wpAny_pyIter_zip hz ?_
      have I2 : Inv X pins σ H1 { s1 with heap := h' } := I1.kept (t' := s1.toks) hk
      refine ⟨s1.heap.objs.size + 4, [s1.heap.objs.size + 4, s1.heap.objs.size + 2, s1.heap.objs.size + 3, s1.heap.objs.size, s1.heap.objs.size + 1], _, _, H1, rfl, I2,
        turn_zipB b1 b2 (zip_sep2 (N := s1.heap.objs.size) (fp1 := [a]) (fp2 := [b]) (fun c hc => by rw [List.mem_singleton.mp hc]; exact la) (fun c hc => by rw [List.mem_singleton.mp hc]; exact lb)), ⟨hz, hTI, ⟨_, _, hTO⟩, iterB_new h1, iterB_new h2⟩, fun c hcm => ?_, q1⟩
      have e' : c = s1.heap.objs.size + 4 ∨ c = s1.heap.objs.size + 2 ∨ c = s1.heap.objs.size + 3 ∨ c = s1.heap.objs.size ∨ c = s1.heap.objs.size + 1 := by simpa using hcm
      have hle : s1.heap.objs.size ≤ c := by
        rcases e' with z | z | z | z | z
        · rw [z]; exact Nat.le_add_right _ _
        · rw [z]; exact Nat.le_add_right _ _
        · rw [z]; exact Nat.le_add_right _ _
        · rw [z]; exact Nat.le_refl _
        · rw [z]; exact Nat.le_add_right _ _
      exact I1.fpOk hle (I1.hok.fresh hle)
/-! ### enumerate -/
set_option maxHeartbeats 1000000 in
theorem meets_enumerate_new1 {v : Value} {o : Obj} {H : Heap → Prop} (B : Begins v o H) :
    Meets (Builtin.«enumerate.__new__» ⟨[.type "enumerate", v], []⟩) (fun _ R s => H s.heap ∧
      R (.ok (.ret (.ref (s.heap.push o).objs.size))) { s with heap := (s.heap.push o).push { cls := .type "enumerate", data := .fields #[.none, .bool false, .ref s.heap.objs.size, rawInt 0, .none, .none] } }) :=
  .of_wp fun prog w A R s h => by
    obtain ⟨hp, g, d, tk, os⟩ := s; obtain ⟨h1, h⟩ := h
    have hsub := sub_enumerate
    have q1 : ∀ {A' : Around} {E : Value → Shared → Prop} {Q : Value → Shared → Prop}, Q (.ref hp.objs.size) ⟨hp.push o, g, d, tk, os⟩ → wpAny (model prog w) A' (pyIter v) Q E ⟨hp, g, d, tk, os⟩ :=
      fun q => B.iter prog w _ _ ⟨hp, g, d, tk, os⟩ _ h1 q
    wp_walk using q1
    refine wpAny_stack_any fun st => wpAny_pure ?_
    split
    · rename_i c _ _ _ _ _
      cases (c == Value.type "enumerate")
      · wp_walk using q1
        exact ⟨_, rfl, h⟩
      · wp_walk using q1
        exact ⟨_, rfl, h⟩
    · wp_walk using q1
      exact ⟨_, rfl, h⟩
theorem enum_begins1 {prog : Program} {w : World} {A : Around} {E : Value → Shared → Prop} {s : Shared} {v : Value} {o : Obj} {H : Heap → Prop} {Q : Value → Shared → Prop} (B : Begins v o H) (h1 : H s.heap)
    (h : ∀ h', IsEnum h' (s.heap.objs.size + 1) s.heap.objs.size 0 .none → h'.get? s.heap.objs.size = some o → h'.objs.size = s.heap.objs.size + 2 →
      (∀ b o, s.heap.get? b = some o → h'.get? b = some o) → Q (.ref (s.heap.objs.size + 1)) { s with heap := h' }) :
    wpAny (model prog w) A (call (.type "enumerate") [v]) Q E s := by
  refine callType_new F.called_enumerate (by decide) (F.typeCall_enumerate_1 _) (F.newCall_enumerate_1 _) (fun obj => F.args_object_init_2 obj _) F.entry_enumerate_new
    (meets_enumerate_new1 B) ⟨h1, ?_⟩
  have hz : (s.heap.push o).objs.size = s.heap.objs.size + 1 := Heap.size_push ..
  show _ ∧ _
  rw [hz]
  have he : IsEnum ((s.heap.push o).push { cls := .type "enumerate", data := .fields #[.none, .bool false, .ref s.heap.objs.size, rawInt 0, .none, .none] }) (s.heap.objs.size + 1) s.heap.objs.size 0 .none := by
    have := Heap.get?_push_size (s.heap.push o) (o := { cls := .type "enumerate", data := .fields #[.none, .bool false, .ref s.heap.objs.size, rawInt 0, .none, .none] }) rfl
    rw [hz] at this; exact this
  refine ⟨⟨_, he, rfl⟩, h _ he (Heap.get?_push_of_some _ (Heap.get?_push_size _ B.free)) (by rw [Heap.size_push, hz]) fun b o x => Heap.get?_push_of_some _ (Heap.get?_push_of_some _ x)⟩
def IteB (K : PySem.W.Frag) (b : Bool) (c : Int) (a : Addr) : It :=
  ⟨fun i H => ∃ (xs : List V) (x : V), SqB K b H a xs ∧ xs[i]? = some x, fun i H v H' => ∃ T x, v = .ref T ∧ H T = none ∧ H' = upd H T (.tup [.int (c + (i : Nat)), x]) ∧ ∀ xs, SqB K b H a xs → xs[i]? = some x, fun i H => ∃ xs : List V, SqB K b H a xs ∧ xs.length = i⟩
theorem turn_enumB {P : Program} {w : World} {K : PySem.W.Frag} {elts : List Expr} {kk : Nat} {tpos : Pos} (b : Bool) (c : Int) (a e it : Addr) :
    Turn P w K (.Tuple elts kk tpos) (IteB K b c a) [e, it] e (fun i h => (∃ old, IsEnum h e it (c + ((i : Nat) : Int)) old) ∧ IterB b h it a i ∧ e ≠ it ∧ e ≠ a) where
  mem := by simp
  obj := fun i h st q hq => by
    obtain ⟨⟨old, he⟩, h1, _⟩ := st
    have e' : q = e ∨ q = it := by simpa using hq
    rcases e' with z | z
    · rw [z]; exact ⟨_, he, fun v q => nomatch q⟩
    · rw [z]; exact h1.obj
  keep := fun i h h' st k => let ⟨⟨old, he⟩, hi, hne⟩ := st; ⟨⟨old, k e (by simp) _ he⟩, hi.at fun o q => k it (by simp) o q, hne⟩
  item := by
    intro X hP hw hK hc i pins s σ H E I hf st hg
    subst hP hw hK
    obtain ⟨⟨old, he⟩, hit, hne, hea⟩ := st
    obtain ⟨xs, x, hq, hx⟩ := hg
    obtain ⟨its, rv, p, la⟩ := hq.is I
    obtain ⟨u, hu, ru⟩ := rv.get hx
    have hel : e < s.heap.objs.size := Heap.lt_size he
    have hil : it < s.heap.objs.size := by obtain ⟨_, q, _⟩ := hit.obj; exact Heap.lt_size q
    have hlt1 : i < its.toArray.size := by simpa using (List.getElem?_eq_some_iff.mp hu).1
    refine wpAny_pyNext_enum_itemC (drawsB (A := X.A.in1) b (I.ok.hd hc) it a (iterB_ne p hit) its.toArray) he ⟨hit, p⟩ hlt1 hne (by simp [hne, hea]) fun y h' tk e1 ho st' hT hsz hk => ?_
    have e1' : y = u := by simp at e1; rw [hu] at e1; exact (Option.some.inj e1).symm
    subst e1'
    refine ⟨_, rfl, wpAny_letOwnedTupleGo_enum (s := { s with heap := h', toks := tk + 1 }) ho fun h'' he' sb => ?_⟩
    have hT2 : h''.get? s.heap.objs.size = some { cls := .type "tuple", data := .seq #[.int (c + (i : Nat)) tk, y] } := (sb.2 _ (Nat.ne_of_gt hel)).trans hT
    have new : ObjOk X.prog X.w (upd H s.heap.objs.size (.tup [.int (c + (i : Nat)), x])) h'' s.heap.objs.size (.tup [.int (c + (i : Nat)), x]) :=
      ⟨by show 2 ≤ sizeLine; decide, [.int (c + (i : Nat)) tk, y], .cons ⟨_, rfl⟩ (.cons ru .nil), ⟨_, hT2, rfl, _, rfl⟩⟩
    have I1 : Inv X pins σ (upd H s.heap.objs.size (.tup [.int (c + (i : Nat)), x])) { s with heap := h'', toks := tk + 1 } :=
      I.turnedNew (ch := [e, it]) (fun b ob hb q => (sb.2 b (fun z => hb (by simp [z]))).trans (hk b ob (fun z => hb (by simp [z])) (fun z => hb (by simp [z])) q)) hf (Nat.le_refl _) new
    refine ⟨.ref s.heap.objs.size, _, I1, rfl, ⟨_, x, rfl, I.hok.fresh (Nat.le_refl _), rfl, fun ys hy => by rw [SqB.inj I hy hq]; exact hx⟩, ⟨⟨y, ?_⟩, IterB.at st'.1 fun o q => (sb.2 it (Ne.symm hne)).trans q, hne, hea⟩, fun q hb => ?_⟩
    · have e1 : c + ((i + 1 : Nat) : Int) = c + (i : Int) + 1 := by omega
      rw [e1]; exact he'
    · have hb' : q < s.heap.objs.size := by
        have e' : q = e ∨ q = it := by simpa using hb
        rcases e' with z | z
        · rw [z]; exact hel
        · rw [z]; exact hil
      rw [upd_ne (Nat.ne_of_lt hb')]
      exact (hf q hb).1
  done := by
    intro X hP hw hK hc i pins s σ H E I hf st hg
    subst hP hw hK
    obtain ⟨⟨old, he⟩, hit, hne, hea⟩ := st
    obtain ⟨xs, hq, hx⟩ := hg
    obtain ⟨its, rv, p, la⟩ := hq.is I
    obtain ⟨f0, f1, f2, f3, f4, f5⟩ := hf it (by simp)
    have hl := rv.length
    have hn : i = its.toArray.size := by simp; omega
    subst hn
    exact wpAny_pyNext_enum_endD (drawsB (A := X.A.in1) b (I.ok.hd hc) it a (iterB_ne p hit) its.toArray) he ⟨hit, p⟩ fun h' eb => ⟨rfl, I.turned (t' := s.toks) (fun b o hb q => eb b o hb q) f0 f1 f3 f4 f5⟩
  self := fun A i s Q E st h => let ⟨⟨_, he⟩, _⟩ := st; wpAny_pyIter_enum he h
def iEnumB (K : PySem.W.Frag) (ta : TA) : TI := fun σ H R => ta σ H fun vs H1 => ∃ b a xs, vs = [.ref a] ∧ SqB K b H1 a xs ∧ R (IteB K b 0 a) H1
theorem pi_enumB {X : Cx} {e : Expr} {ta : TA} {p pos tpos : Pos} {elts : List Expr} {kk : Nat} (hg : Gl X "enumerate") (hm : X.mg "enumerate" = none) (ha : PA X [e] ta) (hs : starEach [e] X.env = [(false, eval e X.env)]) :
    PI X (.Tuple elts kk tpos) (.Call (.Name "enumerate" p) [e] [] pos) (iEnumB X.K ta) := by
  refine ⟨fun pins s σ H R I h => ?_⟩
  refine Call_ (ld_blt I hg hm (by decide +kernel : bootBuiltins "enumerate" = some (.type "enumerate")) (PyProof.Rows.callWith_type1 (thn (ha.run pos pins s σ H _ I h) fun us s1 ⟨vs, H1, I1, r1, q1⟩ => ?_) hs rfl))
  obtain ⟨b, a, xs, ex, hq, q⟩ := q1
  subst ex
  cases r1 with
  | cons r rr =>
    cases rr
    cases r
    obtain ⟨its, rv, p', la⟩ := hq.is I1
    refine enum_begins1 (beginsB b a its.toArray) p' fun h' he hit hsz hk => wpAny_pyIter_enum he ?_
    have I2 : Inv X pins σ H1 { s1 with heap := h' } := I1.kept (t' := s1.toks) hk
    refine ⟨s1.heap.objs.size + 1, [s1.heap.objs.size + 1, s1.heap.objs.size], _, _, H1, rfl, I2, turn_enumB b 0 a (s1.heap.objs.size + 1) s1.heap.objs.size, ⟨⟨.none, by simpa using he⟩, iterB_new hit, Nat.succ_ne_self _, Nat.ne_of_gt (Nat.lt_succ_of_lt la)⟩, fun b hb => ?_, q⟩
    have e' : b = s1.heap.objs.size + 1 ∨ b = s1.heap.objs.size := by simpa using hb
    have hle : s1.heap.objs.size ≤ b := by
      rcases e' with z | z
      · rw [z]; exact Nat.le_add_right _ _
      · rw [z]; exact Nat.le_refl _
    exact I1.fpOk hle (I1.hok.fresh hle)

/-! ### as walks over data -/
section
variable {K : PySem.W.Frag} {ρ : List Addr} {H : Hp} {m : Mem}
theorem SqB.ext {b : Bool} {H' : Hp} {a : Addr} {vs : List V} (h : SqT K H a vs) (x : Ext H H') : SqT K H' a vs := x.sqt h
/-- what is read of a list or tuple at all later states -/
abbrev Later (K : PySem.W.Frag) (ρ : List Addr) (H : Hp) (b : Bool) (a : Addr) (p : PC.Itr) : Prop := ∀ (ρ' : List Addr) (m' : Mem) (H' : Hp), Rel K ρ' m' H' → ρ <+: ρ' → Ext H H' → guardOk p.2 m' → ∃ vs, SqB K b H' a vs ∧ RVs K ρ' H' p.1 vs
theorem later {d : D} {v : V} {p : PC.Itr} (R : Rel K ρ m H) (r : RV K ρ H d v) (h : iterS m d = some p) : ∃ a b, v = .ref a ∧ Later K ρ H b a p ∧ ∃ vs, SqB K b H a vs ∧ vs.length = p.1.length := by
  obtain ⟨a, rfl, h0⟩ := iterS_ok R r h
  rcases h0 with ⟨⟨_, hg⟩, h0⟩ | ⟨vs, rfl, e, h1, h2⟩
  · obtain ⟨vs, h1, h2⟩ := h0 ρ m H R (List.prefix_refl _) (.refl _) hg
    exact ⟨a, true, rfl, h0, vs, h1, h2.len⟩
  · exact ⟨a, false, rfl, fun ρ' m' H' R' p' x' g => ⟨vs, x'.sqt h1, h2.mono p' x'⟩, vs, h1, h2.len⟩
theorem pair_rv {ρ1 : List Addr} {m1 : Mem} {H1 : Hp} {T : Addr} {x y : V} {d e : D} (R : Rel K ρ1 m1 H1) (hT : H1 T = none) (rx : RV K ρ1 H1 d x) (ry : RV K ρ1 H1 e y) :
    Rel K ρ1 m1 (upd H1 T (.tup [x, y])) ∧ Ext H1 (upd H1 T (.tup [x, y])) ∧ (∀ a ∈ ρ1, upd H1 T (.tup [x, y]) a = H1 a) ∧ RV K ρ1 (upd H1 T (.tup [x, y])) (.tup [d, e]) (.ref T) :=
  ⟨R.new hT, .new hT, fun a ha => upd_ne fun e => R.fresh hT (e ▸ ha), rv_tup hT (by simp only [RVs]; exact ⟨x, [y], rfl, rx, y, [], rfl, ry, rfl⟩)⟩
theorem it_zip {a b : Addr} {b1 b2 : Bool} {p q : PC.Itr} (hp : Later K ρ H b1 a p) (hq : Later K ρ H b2 b q) : RIt K ρ H (zipD p.1 q.1, p.2 ++ q.2) (ItzB K b1 b2 a b) where
  ex := by
    have hl : (zipD p.1 q.1).length = min p.1.length q.1.length := by simp [zipD]
    refine ⟨fun H' => ∃ vs ws, SqB K b1 H' a vs ∧ vs.length = p.1.length ∧ SqB K b2 H' b ws ∧ ws.length = q.1.length, fun i H1 v H2 => ∃ T x y, v = .ref T ∧ H1 T = none ∧ H2 = upd H1 T (.tup [x, y]) ∧ (∀ xs, SqB K b1 H1 a xs → xs[i]? = some x) ∧ ∀ ys, SqB K b2 H1 b ys → ys[i]? = some y, ⟨?_, ?_, fun i H' x H2 hi _ y => y⟩, fun ρ' m' H' R p' x' g => ?_, ?_⟩
    · rintro i H' hi ⟨vs, ws, h1, h2, h3, h4⟩
      simp only [hl] at hi
      exact ⟨vs, ws, vs[i]'(by omega), ws[i]'(by omega), h1, h3, List.getElem?_eq_getElem (by omega), List.getElem?_eq_getElem (by omega)⟩
    · rintro H' ⟨vs, ws, h1, h2, h3, h4⟩
      simp only [hl]
      exact ⟨vs, ws, h1, h3, by omega, by omega, by omega⟩
    · obtain ⟨vs, h1, h2⟩ := hp ρ' m' H' R p' x' (fun z hz => g z (List.mem_append_left _ hz))
      obtain ⟨ws, h3, h4⟩ := hq ρ' m' H' R p' x' (fun z hz => g z (List.mem_append_right _ hz))
      exact ⟨vs, ws, h1, h2.len, h3, h4.len⟩
    · rintro i H1 v H2 ρ1 m1 hi R p' x' g ⟨T, x, y, rfl, hT, rfl, f1, f2⟩
      simp only [hl] at hi
      obtain ⟨vs, h1, h2⟩ := hp ρ1 m1 H1 R p' x' (fun z hz => g z (List.mem_append_left _ hz))
      obtain ⟨ws, h3, h4⟩ := hq ρ1 m1 H1 R p' x' (fun z hz => g z (List.mem_append_right _ hz))
      have hi1 : i < p.1.length := by omega
      have hi2 : i < q.1.length := by omega
      obtain ⟨u, hu, ru⟩ := h2.get (List.getElem?_eq_getElem hi1)
      obtain ⟨u2, hu2, ru2⟩ := h4.get (List.getElem?_eq_getElem hi2)
      rw [f1 vs h1] at hu; cases hu
      rw [f2 ws h3] at hu2; cases hu2
      obtain ⟨k1, k2, k3, k4⟩ := pair_rv R hT ru ru2
      exact ⟨k1, k2, k3, .tup [p.1[i], q.1[i]], by simp [zipD, List.getElem?_zip_eq_some, hi1, hi2], k4⟩
theorem it_enum {a : Addr} {b1 : Bool} {p : PC.Itr} (hp : Later K ρ H b1 a p) : RIt K ρ H (enumD p.1, p.2) (IteB K b1 0 a) where
  ex := by
    have hl : (enumD p.1).length = p.1.length := by simp [enumD]
    refine ⟨fun H' => ∃ vs, SqB K b1 H' a vs ∧ vs.length = p.1.length, fun i H1 v H2 => ∃ T x, v = .ref T ∧ H1 T = none ∧ H2 = upd H1 T (.tup [.int (0 + (i : Nat)), x]) ∧ ∀ xs, SqB K b1 H1 a xs → xs[i]? = some x, ⟨?_, ?_, fun i H' x H2 hi _ y => y⟩, fun ρ' m' H' R p' x' g => ?_, ?_⟩
    · rintro i H' hi ⟨vs, h1, h2⟩
      simp only [hl] at hi
      exact ⟨vs, vs[i]'(by omega), h1, List.getElem?_eq_getElem (by omega)⟩
    · rintro H' ⟨vs, h1, h2⟩
      simp only [hl]
      exact ⟨vs, h1, by omega⟩
    · obtain ⟨vs, h1, h2⟩ := hp ρ' m' H' R p' x' g
      exact ⟨vs, h1, h2.len⟩
    · rintro i H1 v H2 ρ1 m1 hi R p' x' g ⟨T, x, rfl, hT, rfl, f1⟩
      simp only [hl] at hi
      obtain ⟨vs, h1, h2⟩ := hp ρ1 m1 H1 R p' x' g
      obtain ⟨u, hu, ru⟩ := h2.get (List.getElem?_eq_getElem hi)
      rw [f1 vs h1] at hu; cases hu
      obtain ⟨k1, k2, k3, k4⟩ := pair_rv (d := .int (0 + (i : Nat))) (x := .int (0 + (i : Nat))) R hT (by simp only [RV]) ru
      exact ⟨k1, k2, k3, .tup [.int (0 + (i : Nat)), p.1[i]], by simp [enumD, hi], k4⟩
end
end PC

namespace PC
open PySem L2 Classical
section
variable {K : PySem.W.Frag} {mg : Str → Option Value} {Γ : Fn} {G : Str → Option D} {N : List Str} {k n : Nat} {sc : Sc} {F : Cx → Prop} {ρ : List Addr} {H : Hp} {m : Mem}
theorem it_rev {a : Addr} {b1 : Bool} {p : PC.Itr} (hp : Later K ρ H b1 a p) : RIt K ρ H (p.1.reverse, p.2) (match b1 with | true => Itv K a p.1.length | false => RT.ItvT K a p.1.length) where
  ex := by
    have hl : p.1.reverse.length = p.1.length := by simp
    have key : ∀ (i : Nat) H1 x ρ1 m1, i < p.1.reverse.length → Rel K ρ1 m1 H1 → ρ <+: ρ1 → Ext H H1 → guardOk p.2 m1 → (∀ xs, SqB K b1 H1 a xs → xs[p.1.length - 1 - i]? = some x) → ∃ d, p.1.reverse[i]? = some d ∧ RV K ρ1 H1 d x := by
      intro i H1 x ρ1 m1 hi R p' x' g f
      rw [hl] at hi
      obtain ⟨vs, h1, h2⟩ := hp ρ1 m1 H1 R p' x' g
      have hj : p.1.length - 1 - i < p.1.length := by omega
      obtain ⟨u, hu, ru⟩ := h2.get (List.getElem?_eq_getElem hj)
      rw [f vs h1] at hu; cases hu
      exact ⟨_, by rw [List.getElem?_reverse hi]; exact List.getElem?_eq_getElem hj, ru⟩
    cases b1 with
    | true =>
      refine ⟨fun H' => ∃ vs, SqL K H' a vs ∧ vs.length = p.1.length, fun i H1 x H2 => H2 = H1 ∧ ∀ xs, SqL K H1 a xs → xs[p.1.length - 1 - i]? = some x, ⟨?_, ?_, fun i H' x H2 hi _ y => y⟩, fun ρ' m' H' R p' x' g => ?_, ?_⟩
      · rintro i H' hi ⟨vs, h1, h2⟩
        simp only [hl] at hi
        exact ⟨hi, vs, vs[p.1.length - 1 - i]'(by omega), h1, List.getElem?_eq_getElem (by omega)⟩
      · rintro H' ⟨vs, h1, h2⟩
        simp only [hl]
        exact Nat.le_refl _
      · obtain ⟨vs, h1, h2⟩ := hp ρ' m' H' R p' x' g
        exact ⟨vs, h1, h2.len⟩
      · rintro i H1 x H2 ρ1 m1 hi R p' x' g ⟨rfl, f⟩
        exact ⟨R, .refl _, fun _ _ => rfl, key i H2 x ρ1 m1 hi R p' x' g f⟩
    | false =>
      refine ⟨fun H' => ∃ vs, SqT K H' a vs ∧ vs.length = p.1.length, fun i H1 x H2 => H2 = H1 ∧ ∀ xs, SqT K H1 a xs → xs[p.1.length - 1 - i]? = some x, ⟨?_, ?_, fun i H' x H2 hi _ y => y⟩, fun ρ' m' H' R p' x' g => ?_, ?_⟩
      · rintro i H' hi ⟨vs, h1, h2⟩
        simp only [hl] at hi
        exact ⟨hi, vs, vs[p.1.length - 1 - i]'(by omega), h1, List.getElem?_eq_getElem (by omega)⟩
      · rintro H' ⟨vs, h1, h2⟩
        simp only [hl]
        exact Nat.le_refl _
      · obtain ⟨vs, h1, h2⟩ := hp ρ' m' H' R p' x' g
        exact ⟨vs, h1, h2.len⟩
      · rintro i H1 x H2 ρ1 m1 hi R p' x' g ⟨rfl, f⟩
        exact ⟨R, .refl _, fun _ _ => rfl, key i H2 x ρ1 m1 hi R p' x' g f⟩
theorem bO_succ (S : Snd K mg Γ G N k n) (hF : Fam K mg Γ G N k sc F) {es : List Expr} {ce : CBO} (hc : ckBO N (n + 1) sc es ce = true) {σ : Loc} {σV : L2.St} {Q : Bool → Hp → Prop}
    (R : Rel K ρ m H) (rl : RL K ρ H σ σV) (h : Post K RB ρ H Q (dBO Γ G ce σ m)) : bTs F es σV H Q := by
  unfold ckBO at hc
  split at hc
  case h_1 => cases hc
  case h_2 => exact ⟨tYes, fun X _ => pts_nil, Post.ok (a := true) (by simpa only [dBO] using h) R rfl⟩
  case h_3 =>
    rename_i e c hn
    cases hn
    exact ⟨bT F e, fun X hX => pts_one (bT_ok hX e), S.sB hF hc R rl (by simpa only [dBO] using h)⟩
  case h_4 => cases hc
theorem cmp_bool {o : CmpOp} {x y : D} {Q : VK} {v w : V} (hF : Few K F) (R : Rel K ρ m H) (rx : RV K ρ H x v) (ry : RV K ρ H y w) {Qb : Bool → Hp → Prop}
    (h : Post K RB ρ H Qb ((opC o x y m).bind truR)) : bOp F (compareOp o) v w H (fun z H' => ∃ b, z = .bl b ∧ Qb b H') := by
  have hb : ∀ d m', opC o x y m = .ok d m' → ∃ b, d = .bool b := by
    intro d m' e
    unfold opC at e
    split at e <;> first
      | (cases e; exact ⟨_, rfl⟩)
      | (unfold ofB at e; split at e <;> first | (cases e; exact ⟨_, rfl⟩) | cases e)
      | (unfold ofNB at e; split at e <;> first | (cases e; exact ⟨_, rfl⟩) | cases e)
      | (split at e <;> first | cases e | (unfold ofB at e; split at e <;> first | (cases e; exact ⟨_, rfl⟩) | cases e) | (unfold ofNB at e; split at e <;> first | (cases e; exact ⟨_, rfl⟩) | cases e))
      | cases e
  refine opC_ok hF R rx ry ?_
  cases e : opC o x y m with
  | bad => rw [e] at h; exact h
  | ex => rw [e] at h; exact h
  | ok d m' =>
    obtain ⟨b, rfl⟩ := hb d m' e
    rw [e] at h
    simp only [Res.ok_bind, truR, truD] at h
    intro ρ' H' v' R' p' x' r'
    simp only [RV] at r'
    exact ⟨b, r', h ρ' H' b R' p' x' rfl⟩
theorem bB_succ (S : Snd K mg Γ G N k n) (hF : Fam K mg Γ G N k sc F) {e : Expr} {ce : CB} (hc : ckB N (n + 1) sc e ce = true) {σ : Loc} {σV : L2.St} {Q : Bool → Hp → Prop}
    (R : Rel K ρ m H) (rl : RL K ρ H σ σV) (h : Post K RB ρ H Q (dB Γ G ce σ m)) : bT F e σV H Q := by
  unfold ckB at hc
  split at hc
  case h_1 => cases hc
  case h_2 =>
    rename_i a pos x hn
    cases hn
    simp only [dB] at h
    refine ⟨tNot (bT F a), fun X hX => pt_not (bT_ok hX a), S.sB hF hc R rl (h.bind fun b m1 ρ1 H1 v R1 p1 x1 r1 h1 => ?_)⟩
    subst r1
    exact Post.ok h1 R1 rfl
  case h_3 =>
    rename_i op vs pos hn
    cases hn
    obtain ⟨t, ht, q⟩ := and_or_t (F := F) (f := ckB N n _) (op := op) (pos := pos) (fun {e ce} h => S.sB hF h) hc R rl h
    exact ⟨t, fun X hX => (ht X hX).pt, q⟩
  case h_4 =>
    rename_i a o b pos p x y hn
    cases hn
    simp only [Bool.and_eq_true, decEqC, decide_eq_true_eq] at hc
    obtain ⟨⟨⟨rfl, hs⟩, ha⟩, hb⟩ := hc
    simp only [dB, dE] at h
    refine ⟨tTest (tOp (bOp F (compareOp o)) (bE F a) (bE F b)), fun X hX => pt_cmpR (bOp_ok hX _) (bE_ok hX a) (bE_ok hX b) (mark_no hs), ?_⟩
    have h' : Post K RB ρ H Q ((dE Γ G x σ m).bind fun u m1 => (dE Γ G y σ m1).bind fun w m2 => (opC o u w m2).bind truR) := by
      cases e1 : dE Γ G x σ m with
      | bad => rw [e1] at h; exact h
      | ex => rw [e1] at h; exact h
      | ok u m1 =>
        rw [e1] at h
        simp only [Res.ok_bind] at h ⊢
        cases e2 : dE Γ G y σ m1 with
        | bad => rw [e2] at h; exact h
        | ex => rw [e2] at h; exact h
        | ok w m2 => rw [e2] at h; simpa only [Res.ok_bind] using h
    refine S.sE hF ha R rl (h'.bind fun d m1 ρ1 H1 v R1 p1 x1 r1 h1 => ?_)
    refine S.sE hF hb R1 (rl.mono p1 x1) (h1.bind fun d2 m2 ρ2 H2 v2 R2 p2 x2 r2 h2 => ?_)
    exact cmp_bool (Q := fun _ _ => True) hF.toFew R2 (r1.mono p2 x2) r2 h2
  case h_5 =>
    rename_i a o o' b c pos p p' x y z hn
    cases hn
    simp only [Bool.and_eq_true, decEqC, decide_eq_true_eq] at hc
    obtain ⟨⟨⟨⟨⟨⟨rfl, rfl⟩, hs⟩, hs2⟩, ha⟩, hb⟩, hcc⟩ := hc
    simp only [dB, dE] at h
    have hm : lastMarks [o, o'] [b, c] = false := by show behindInMarks o' c = false; exact mark_no hs2
    refine ⟨tTest (tChain (bOp F (compareOp o)) (bOp F (compareOp o')) (bE F a) (bE F b) (bE F c)), fun X hX => pt_chain (bOp_ok hX _) (bOp_ok hX _) (bE_ok hX a) (bE_ok hX b) (bE_ok hX c) hm, ?_⟩
    have h' : Post K RB ρ H Q ((dE Γ G x σ m).bind fun u m1 => (dE Γ G y σ m1).bind fun w m2 => (opC o u w m2).bind fun d m3 => match d with
        | .bool true => (dE Γ G z σ m3).bind fun w' m4 => (opC o' w w' m4).bind truR
        | .bool false => .ok false m3
        | _ => .bad) := by
      cases e1 : dE Γ G x σ m with
      | bad => rw [e1] at h; exact h
      | ex => rw [e1] at h; exact h
      | ok u m1 =>
        rw [e1] at h
        simp only [Res.ok_bind] at h ⊢
        cases e2 : dE Γ G y σ m1 with
        | bad => rw [e2] at h; exact h
        | ex => rw [e2] at h; exact h
        | ok w m2 =>
          rw [e2] at h
          simp only [Res.ok_bind] at h ⊢
          cases e3 : opC o u w m2 with
          | bad => rw [e3] at h; exact h
          | ex => rw [e3] at h; exact h
          | ok d m3 =>
            rw [e3] at h
            simp only [Res.ok_bind] at h ⊢
            split
            · simp only at h
              cases e4 : dE Γ G z σ m3 with
              | bad => rw [e4] at h; exact h
              | ex => rw [e4] at h; exact h
              | ok w' m4 => rw [e4] at h; simpa only [Res.ok_bind] using h
            · simpa only [Res.ok_bind, truR, truD] using h
            · rename_i h1 h2
              split at h
              · exact absurd rfl h1
              · exact absurd rfl h2
              · exact h
    refine S.sE hF ha R rl (h'.bind fun d m1 ρ1 H1 v R1 p1 x1 r1 h1 => ?_)
    refine S.sE hF hb R1 (rl.mono p1 x1) (h1.bind fun d2 m2 ρ2 H2 v2 R2 p2 x2 r2 h2 => ?_)
    refine opC_ok hF.toFew R2 (r1.mono p2 x2) r2 (h2.bind fun d3 m3 ρ3 H3 v3 R3 p3 x3 r3 h3 => ?_)
    split at h3
    · simp only [RV] at r3
      refine ⟨true, r3, ?_⟩
      show bE F c σV H3 _
      refine S.sE hF hcc R3 (((rl.mono p1 x1).mono p2 x2).mono p3 x3) (h3.bind fun d4 m4 ρ4 H4 v4 R4 p4 x4 r4 h4 => ?_)
      exact cmp_bool (Q := fun _ _ => True) hF.toFew R4 ((r2.mono p3 x3).mono p4 x4) r4 h4
    · simp only [RV] at r3
      refine ⟨false, r3, ?_⟩
      exact ⟨false, rfl, Post.ok h3 R3 rfl⟩
    · exact h3.elim
  case h_6 =>
    rename_i x hn hh0 hh1 hh2
    cases hn
    simp only [Bool.and_eq_true] at hc
    simp only [dB] at h
    refine ⟨fun σ H Q => bE F _ σ H fun x H' => ∃ k, TruV K x H' k ∧ Q k H', fun X hX => hF.eK X hX ▸ pt_truth (bE_ok hX _) (plain_test hc.1), ?_⟩
    refine S.sE hF hc.2 R rl (h.bind fun d m1 ρ1 H1 v R1 p1 x1 r1 h1 => ?_)
    unfold truR at h1
    cases e : truD m1 d with
    | none => rw [e] at h1; exact h1.elim
    | some b =>
      rw [e] at h1
      exact ⟨b, tru_rel R1 r1 e, Post.ok h1 R1 rfl⟩
  case h_7 => cases hc
end
end PC

namespace PC
open PySem L2 Classical
section
variable {K : PySem.W.Frag} {mg : Str → Option Value} {Γ : Fn} {G : Str → Option D} {N : List Str} {k n : Nat} {sc : Sc} {F : Cx → Prop} {ρ : List Addr} {H : Hp} {m : Mem}
theorem bltN_none (hF : Fam K mg Γ G N k sc F) {x : Str} (h : x ∈ bltN) {X : Cx} (hX : F X) : X.mg x = none := by
  rw [hF.eg X hX]; exact hF.blt x h
theorem one_args {f : Expr → CE → Bool} (hE : SndE K Γ G F f) {a : Expr} {x : CE} (ha : noSt a = true) (hx : f a x = true) {σ : Loc} {σV : L2.St} {Q : List V → Hp → Prop} (R : Rel K ρ m H) (rl : RL K ρ H σ σV)
    (h : Post K (RV K) ρ H (fun v H' => Q [v] H') (dE Γ G x σ m)) : bA F [a] σV H Q :=
  ⟨tCons (bE F a) tNil, fun X hX => pa_cons (bE_ok hX a) pa_nil (starEach_cons ha), hE hx R rl h⟩
theorem two_args {f : Expr → CE → Bool} (hE : SndE K Γ G F f) {a b : Expr} {x y : CE} (ha : noSt a = true) (hb : noSt b = true) (hx : f a x = true) (hy : f b y = true) {σ : Loc} {σV : L2.St} {Q : List V → Hp → Prop} (R : Rel K ρ m H) (rl : RL K ρ H σ σV)
    {α β : Type} {RS : List Addr → Hp → α → β → Prop} {Q0 : β → Hp → Prop} {ff : D → D → Mem → Res α}
    (h : Post K RS ρ H Q0 ((dE Γ G x σ m).bind fun u m1 => (dE Γ G y σ m1).bind fun w m2 => ff u w m2))
    (k : ∀ d e m1 ρ1 H1 v w, Rel K ρ1 m1 H1 → ρ <+: ρ1 → Ext H H1 → RV K ρ1 H1 d v → RV K ρ1 H1 e w → Post K RS ρ1 H1 Q0 (ff d e m1) → Q [v, w] H1) : bA F [a, b] σV H Q :=
  ⟨tCons (bE F a) (tCons (bE F b) tNil), fun X hX => pa_cons (bE_ok hX a) (pa_cons (bE_ok hX b) pa_nil (starEach_cons hb)) (starEach_cons ha),
    hE hx R rl (h.bind fun d m1 ρ1 H1 v R1 p1 x1 r1 h1 => hE hy R1 (rl.mono p1 x1) (h1.bind fun d2 m2 ρ2 H2 v2 R2 p2 x2 r2 h2 => k d d2 m2 ρ2 H2 v v2 R2 (p1.trans p2) (x1.trans x2) (r1.mono p2 x2) r2 h2))⟩
theorem call_ok (hF : Fam K mg Γ G N k sc F) {f : Expr → CE → Bool} (hE : SndE K Γ G F f) {fn : Str} {es : List Expr} {cs : CEs} {p pos : Pos} (hg : isGl sc fn = true) (hd : nDebug fn = true) (ha : ckAll f es cs = true)
    {σ : Loc} {σV : L2.St} {Q : VK} (R : Rel K ρ m H) (rl : RL K ρ H σ σV) (h : Post K (RV K) ρ H Q (dE Γ G (.call fn cs) σ m)) : bE F (.Call (.Name fn p) es [] pos) σV H Q := by
  simp only [dE] at h
  have hex : ∃ xs m1, dEs Γ G cs σ m = .ok xs m1 ∧ Γ fn xs m1 ≠ .bad := by
    cases e : dEs Γ G cs σ m with
    | bad => rw [e] at h; exact h.elim
    | ex => rw [e] at h; exact h.elim
    | ok xs m1 =>
      rw [e] at h
      simp only [Res.ok_bind] at h
      exact ⟨xs, m1, rfl, fun z => by rw [z] at h; exact h⟩
  obtain ⟨xs, m1, e1, hb⟩ := hex
  obtain ⟨a, fd, ps, dd, dvs, dsV, hl, h1, h2, h3, hV, hD, hE2, h4⟩ := hF.calls fn xs m1 hb
  have hns := ckAll_noSt ha
  have key : bA F es σV H fun vs H1 => spI K ps.length (Γ fn) (vs ++ dvs) H1 Q E0 := by
    refine args_ok hE ha R rl (h.bind0 fun ds m2 ρ2 H2 vs e2 R2 p2 x2 r2 h2' => ?_)
    rw [e1] at e2; cases e2
    exact ⟨by rw [List.length_append, r2.len]; exact hl, xs ++ dd, m1, ρ2, R2, r2.app (hD _ _), by rw [hE2]; exact Post.mono p2 x2 h2'⟩
  cases es with
  | nil =>
    refine ⟨tCall (spI K ps.length (Γ fn)) dvs E0 tNil, fun X hX => pe_call0 (h4 X hX) (hF.room X hX) (hF.gl hg hX) (by rw [hF.eg X hX]; exact h1) (by rw [hF.eK X hX]; exact h2) (by rw [hF.eK X hX]; exact h3) hV pass0 (nDebug_1 hd).1, ?_⟩
    cases cs with
    | cons _ _ => simp [ckAll] at ha
    | nil =>
      simp only [dEs] at e1 h
      simp only [Res.ok.injEq] at e1
      obtain ⟨rfl, rfl⟩ := e1
      simp only [Res.ok_bind] at h
      exact ⟨by simpa using hl, [] ++ dd, m, ρ, R, by simpa using hD ρ H, by rw [hE2]; exact h⟩
  | cons e es =>
    simp only [List.all_cons, Bool.and_eq_true] at hns
    exact ⟨tCall (spI K ps.length (Γ fn)) dvs E0 (bA F (e :: es)), fun X hX => pe_call (h4 X hX) (hF.room X hX) (hF.gl hg hX) (by rw [hF.eg X hX]; exact h1) (by rw [hF.eK X hX]; exact h2) (by rw [hF.eK X hX]; exact h3) hV pass0 (bA_ok hX (e :: es)) (nDebug_1 hd).1 (starEach_cons hns.1) (back_any hns.2), key⟩
theorem biCall_ok (hF : Fam K mg Γ G N k sc F) {f : Expr → CE → Bool} (hE : SndE K Γ G F f) {b : BI} {es : List Expr} {cs : CEs} {p pos : Pos} (hg : isGl sc b.name = true) (hne : es ≠ []) (ha : ckAll f es cs = true)
    {σ : Loc} {σV : L2.St} {Q : VK} (R : Rel K ρ m H) (rl : RL K ρ H σ σV) (h : Post K (RV K) ρ H Q (dE Γ G (.bi b cs) σ m)) : bE F (.Call (.Name b.name p) es [] pos) σV H Q := by
  simp only [dE] at h
  have hns := ckAll_noSt ha
  have key : bA F es σV H fun vs H1 => bCa F b.val vs H1 Q :=
    args_ok hE ha R rl (h.bind fun ds m2 ρ2 H2 vs R2 p2 x2 r2 h2' => bi_ok hF.toFew R2 r2 h2')
  cases es with
  | nil => exact absurd rfl hne
  | cons e es =>
    simp only [List.all_cons, Bool.and_eq_true] at hns
    refine ⟨tCB (bCa F b.val) (bA F (e :: es)), fun X hX => ?_, key⟩
    have k1 : CallR X b.val (bCa F b.val) := bCa_ok hX _
    have k2 := boot_bi b
    cases hv : b.val with
    | builtin id =>
      rw [hv] at k1 k2
      exact pe_callB k1 (hF.gl hg hX) (bltN_none hF (name_bi b) hX) k2 (bA_ok hX (e :: es)) (nn_bi b).1 (nn_bi b).2 (starEach_cons hns.1) (back_any hns.2)
    | type T =>
      rw [hv] at k1 k2
      exact pe_callTy k1 (hF.gl hg hX) (bltN_none hF (name_bi b) hX) k2 (bA_ok hX (e :: es)) (nn_bi b).1 (nn_bi b).2 (starEach_cons hns.1) (back_any hns.2)
    | _ => cases b <;> cases hv
theorem I_succ (S : Snd K mg Γ G N k n) (hF : Fam K mg Γ G N k sc F) {tg e : Expr} {ce : CI} (hc : ckI N (n + 1) sc tg e ce = true) {σ : Loc} {σV : L2.St} {Q : It → Hp → Prop}
    (R : Rel K ρ m H) (rl : RL K ρ H σ σV) (h : Post K (RIt K) ρ H Q (dI Γ G ce σ m)) : bI F tg e σV H Q := by
  have hE : ∀ {sc} {F : Cx → Prop}, Fam K mg Γ G N k sc F → SndE K Γ G F (ckE N n sc) := fun {sc F} hF {e ce} h => S.sE hF h
  unfold ckI at hc
  split at hc
  case h_1 => cases hc
  case h_2 =>
    rename_i x hn
    cases hn
    simp only [dI] at h
    have hex : ∃ d m1, dE Γ G x σ m = .ok d m1 := by
      cases e : dE Γ G x σ m with
      | bad => rw [e] at h; exact h.elim
      | ex => rw [e] at h; exact h.elim
      | ok xs m1 => exact ⟨xs, m1, rfl⟩
    obtain ⟨d, m1, e1⟩ := hex
    cases d with
    | tup xs =>
      refine ⟨iTup K (bE F _), fun X hX => hF.eK X hX ▸ pi_tup (bE_ok hX _), S.sE hF hc R rl (h.bind0 fun d m2 ρ1 H1 v e2 R1 p1 x1 r1 h1 => ?_)⟩
      rw [e1] at e2; cases e2
      simp only [iterD] at h1
      simp only [RV] at r1
      obtain ⟨a, vs, rfl, h2, h3⟩ := r1
      exact ⟨a, rfl, ⟨vs, h2⟩, h1 ρ1 H1 _ R1 p1 x1 (it_tup h2 h3)⟩
    | str z =>
      refine ⟨iStr (bE F _), fun X hX => pi_str (bE_ok hX _), S.sE hF hc R rl (h.bind0 fun d m2 ρ1 H1 v e2 R1 p1 x1 r1 h1 => ?_)⟩
      rw [e1] at e2; cases e2
      simp only [iterD] at h1
      simp only [RV] at r1; subst r1
      exact ⟨z, rfl, h1 ρ1 H1 _ R1 p1 x1 it_str⟩
    | ref j =>
      refine ⟨iList K (bE F _), fun X hX => hF.eK X hX ▸ pi_list (bE_ok hX _), S.sE hF hc R rl (h.bind0 fun d m2 ρ1 H1 v e2 R1 p1 x1 r1 h1 => ?_)⟩
      rw [e1] at e2; cases e2
      simp only [iterD] at h1
      have hS : ∀ p, iterS m1 (.ref j) = some p → Post K (RIt K) ρ H Q (.ok p m1) → ∃ a, v = .ref a ∧ (∃ xs, SqL K H1 a xs) ∧ Q (Itl K a) H1 := by
        intro p hp hq
        obtain ⟨a, b, rfl, hL, vs, hv, _⟩ := later R1 r1 hp
        obtain ⟨a', ea, h0⟩ := iterS_ok R1 r1 hp
        cases ea
        rcases h0 with ⟨⟨_, hg⟩, h0⟩ | ⟨_, hd, _⟩
        · obtain ⟨us, k1, _⟩ := h0 ρ1 m1 H1 R1 (List.prefix_refl _) (.refl _) hg
          exact ⟨a, rfl, ⟨us, k1⟩, hq ρ1 H1 _ R1 p1 x1 (it_list h0)⟩
        · cases hd
      split at h1
      · rename_i p e3
        split at e3
        · rename_i xs e4; cases e3; exact hS _ (by simp [iterS, e4]) h1
        · cases e3
      · exact h1.elim
    | kl xs =>
      refine ⟨iList K (bE F _), fun X hX => hF.eK X hX ▸ pi_list (bE_ok hX _), S.sE hF hc R rl (h.bind0 fun d m2 ρ1 H1 v e2 R1 p1 x1 r1 h1 => ?_)⟩
      rw [e1] at e2; cases e2
      simp only [iterD] at h1
      obtain ⟨a, ea, h0⟩ := iterS_ok (p := (xs, [])) R1 r1 rfl
      subst ea
      rcases h0 with ⟨⟨_, hg⟩, h0⟩ | ⟨_, hd, _⟩
      · obtain ⟨us, k1, _⟩ := h0 ρ1 _ H1 R1 (List.prefix_refl _) (.refl _) hg
        exact ⟨a, rfl, ⟨us, k1⟩, h1 ρ1 H1 _ R1 p1 x1 (it_list h0)⟩
      · cases hd
    | _ => rw [e1] at h; simp only [Res.ok_bind, iterD] at h; exact h.elim
  case h_3 =>
    rename_i f p a pos x hn
    cases hn
    simp only [Bool.and_eq_true, decide_eq_true_eq] at hc
    obtain ⟨⟨⟨rfl, hg⟩, hs⟩, hx⟩ := hc
    simp only [dI] at h
    refine ⟨iRng1 (bA F [a]), fun X hX => pi_range1 (hF.gl hg hX) (bltN_none hF (by decide +kernel) hX) (bA_ok hX _) (starEach_cons hs), one_args (hE hF) hs hx R rl (h.bind fun d m1 ρ1 H1 v R1 p1 x1 r1 h1 => ?_)⟩
    split at h1
    · split at h1
      · rename_i j hj
        simp only [RV] at r1; subst r1
        have hj' : (j - 0).toNat = j.toNat := by rw [Int.sub_zero]
        exact ⟨j, rfl, hj.1, hj.2, h1.ok R1 (by have := it_range (K := K) (ρ := ρ1) (H := H1) (lo := 0) (hi := j); rwa [hj'] at this)⟩
      · exact h1.elim
    · exact h1.elim
  case h_4 =>
    rename_i f p a b pos x y hn
    cases hn
    simp only [Bool.and_eq_true, decide_eq_true_eq] at hc
    obtain ⟨⟨⟨⟨⟨rfl, hg⟩, hs⟩, hs2⟩, hx⟩, hy⟩ := hc
    simp only [dI] at h
    refine ⟨iRng2 (bA F [a, b]), fun X hX => pi_range2 (hF.gl hg hX) (bltN_none hF (by decide +kernel) hX) (bA_ok hX _) (by rw [starEach_cons hs, starEach_cons hs2]; rfl) (starEach_cons hs2), two_args (hE hF) hs hs2 hx hy R rl h fun d e m1 ρ1 H1 v w R1 p1 x1 r1 r2 h1 => ?_⟩
    split at h1
    · rename_i i j
      split at h1
      · rename_i hij
        simp only [RV] at r1 r2; subst r1; subst r2
        exact ⟨i, j, rfl, ⟨hij.1.1, hij.1.2, hij.2.1, hij.2.2⟩, h1.ok R1 it_range⟩
      · exact h1.elim
    · exact h1.elim
  case h_5 =>
    rename_i ts kk tp f p a b pos x y hn
    cases hn
    simp only [Bool.and_eq_true, decide_eq_true_eq] at hc
    obtain ⟨⟨⟨⟨⟨rfl, hg⟩, hs⟩, hs2⟩, hx⟩, hy⟩ := hc
    simp only [dI] at h
    refine ⟨iZipB K (bA F [a, b]), fun X hX => hF.eK X hX ▸ pi_zipB (hF.gl hg hX) (bltN_none hF (by decide +kernel) hX) (bA_ok hX _) (starEach_cons hs) (back_any (by simp [hs2])), two_args (hE hF) hs hs2 hx hy R rl h fun d e m1 ρ1 H1 v w R1 p1 x1 r1 r2 h1 => ?_⟩
    split at h1
    · rename_i p q e1 e2
      obtain ⟨a', b1, rfl, l1, vs, q1, hlen⟩ := later R1 r1 e1
      obtain ⟨b', b2, rfl, l2, ws, q2, _⟩ := later R1 r2 e2
      exact ⟨b1, b2, a', b', vs, ws, rfl, q1, q2, h1.ok R1 (it_zip l1 l2)⟩
    · exact h1.elim
  case h_6 =>
    rename_i ts kk tp f p a pos x hn
    cases hn
    simp only [Bool.and_eq_true, decide_eq_true_eq] at hc
    obtain ⟨⟨⟨rfl, hg⟩, hs⟩, hx⟩ := hc
    simp only [dI] at h
    refine ⟨iEnumB K (bA F [a]), fun X hX => hF.eK X hX ▸ pi_enumB (hF.gl hg hX) (bltN_none hF (by decide +kernel) hX) (bA_ok hX _) (starEach_cons hs), one_args (hE hF) hs hx R rl (h.bind fun d m1 ρ1 H1 v R1 p1 x1 r1 h1 => ?_)⟩
    split at h1
    · rename_i p e1
      obtain ⟨a', b1, rfl, l1, vs, q1, hlen⟩ := later R1 r1 e1
      exact ⟨b1, a', vs, rfl, q1, h1.ok R1 (it_enum l1)⟩
    · exact h1.elim
  case h_7 =>
    rename_i f p a pos x hn
    cases hn
    simp only [Bool.and_eq_true, decide_eq_true_eq] at hc
    obtain ⟨⟨⟨rfl, hg⟩, hs⟩, hx⟩ := hc
    simp only [dI] at h
    refine ⟨RT.iRevA K (bE F a), fun X hX => hF.eK X hX ▸ RT.pi_revA (hF.gl hg hX) (bltN_none hF (by decide +kernel) hX) (bE_ok hX _) (starEach_cons hs), S.sE hF hx R rl (h.bind fun d m1 ρ1 H1 v R1 p1 x1 r1 h1 => ?_)⟩
    split at h1
    · rename_i p e1
      obtain ⟨a', b1, rfl, l1, vs, q1, hlen⟩ := later R1 r1 e1
      have hr := h1.ok R1 (it_rev l1)
      refine ⟨a', vs, rfl, ?_⟩
      cases b1
      · exact .inr ⟨q1, by rw [hlen]; exact hr⟩
      · exact .inl ⟨q1, by rw [hlen]; exact hr⟩
    · exact h1.elim
  case h_8 => cases hc
end
end PC

namespace PC
open PySem L2 Classical
section
variable {K : PySem.W.Frag} {mg : Str → Option Value} {Γ : Fn} {G : Str → Option D} {N : List Str} {k n : Nat} {sc : Sc} {F : Cx → Prop} {ρ : List Addr} {H : Hp} {m : Mem}
/-! ### targets -/
theorem RL.set {σ : Loc} {σV : L2.St} {i : Nat} {d : D} {v : V} (h : RL K ρ H σ σV) (r : RV K ρ H d v) : RL K ρ H (σ.set i (some d)) (σV.set i (some v)) := by
  refine ⟨by simp [h.1], fun j e q => ?_⟩
  by_cases hij : i = j
  · subst hij
    rw [List.getElem?_set_self'] at q ⊢
    cases hs : σ[i]? with
    | none => rw [hs] at q; simp at q
    | some z =>
      rw [hs] at q
      simp at q
      subst q
      have hi : i < σV.length := by rw [h.1]; exact (List.getElem?_eq_some_iff.mp hs).1
      exact ⟨v, by simp [List.getElem?_eq_getElem hi], r⟩
  · rw [List.getElem?_set_ne hij] at q ⊢
    exact h.2 j e q
/-- unpacked from a list -/
theorem pg_tupB {X : Cx} {es : List Expr} {kk : Nat} {pos : Pos} {t : TGs} (hc : X.calm = true) (h : PGs X es t) (hns : es.all noSt = true) : PG X (.Tuple es kk pos) (gTup X.K es.length t) ∧ PG X (.Tuple es kk pos) (gLst X.K es.length t) := by
  obtain ⟨h1, h2⟩ := assign_len (env := X.env) hns
  exact ⟨pg_tup hc h h1 h2, pg_lst hc h h1 h2⟩
theorem ckTs_len {f : Expr → CT → Bool} : ∀ {ts : List Expr} {cts : CTs} {ds : List D} {σ : Loc} {m : Mem}, ckTs f ts cts = true → dTs Γ G cts ds σ m ≠ .bad → (∀ e m', dTs Γ G cts ds σ m ≠ .ex e m') → ds.length = ts.length
  | [], .nil, [], _, _, _, _, _ => rfl
  | [], .nil, _ :: _, _, _, _, h, _ => absurd (by simp only [dTs]) h
  | [], .cons _ _, _, _, _, hc, _, _ => by simp [ckTs] at hc
  | _ :: _, .nil, _, _, _, hc, _, _ => by simp [ckTs] at hc
  | _ :: _, .cons _ _, [], _, _, _, h, _ => absurd (by simp only [dTs]) h
  | t :: ts, .cons ct cts, d :: ds, σ, m, hc, h, h' => by
    simp only [ckTs, Bool.and_eq_true] at hc
    simp only [dTs] at h h'
    cases e : dT Γ G ct d σ m with
    | bad => rw [e] at h; exact absurd rfl h
    | ex e0 m0 => rw [e] at h'; exact absurd rfl (h' e0 m0)
    | ok σ1 m1 =>
      rw [e] at h h'
      simp only [Res.ok_bind] at h h'
      simp [ckTs_len hc.2 h h']
theorem Ts_ok {f : Expr → CT → Bool} (hT : ∀ {t ct}, f t ct = true → ∀ {d v σ m ρ σV H Q} (P : L2.St → Prop), (∀ i v s, tgtHas ct i = true → P s → P (s.set i (some v))) → P σV → Rel K ρ m H → RL K ρ H σ σV → RV K ρ H d v →
    Post K (RLp K P) ρ H Q (dT Γ G ct d σ m) → bG F t v σV H Q) : ∀ {ts : List Expr} {cts : CTs}, ckTs f ts cts = true → ∀ {ds vs σ m ρ σV H Q} (P : L2.St → Prop), (∀ i v s, tgtsHas cts i = true → P s → P (s.set i (some v))) → P σV → Rel K ρ m H → RL K ρ H σ σV → RVs K ρ H ds vs →
    Post K (RLp K P) ρ H Q (dTs Γ G cts ds σ m) → bGs F ts vs σV H Q ∧ ds.length = ts.length
  | [], .nil, _, ds, vs, σ, m, ρ, σV, H, Q, P, hP, h0, R, rl, r, h => by
    cases ds with
    | nil =>
      have := r.nil_inv
      subst this
      exact ⟨⟨gNil, fun X _ => pgs_nil, rfl, Post.ok (RR := RLp K P) (a := σ) (b := σV) (by simpa only [dTs] using h) R ⟨rl, h0⟩⟩, rfl⟩
    | cons d ds => simp only [dTs] at h; exact h.elim
  | [], .cons _ _, hc, _, _, _, _, _, _, _, _, _, _, _, _, _, _, _ => by simp [ckTs] at hc
  | t :: ts, .nil, hc, _, _, _, _, _, _, _, _, _, _, _, _, _, _, _ => by simp [ckTs] at hc
  | t :: ts, .cons ct cts, hc, ds, vs, σ, m, ρ, σV, H, Q, P, hP, h0, R, rl, r, h => by
    cases ds with
    | nil => simp only [dTs] at h; exact h.elim
    | cons d ds =>
      simp only [RVs] at r
      obtain ⟨v, ws, rfl, r1, r2⟩ := r
      simp only [ckTs, Bool.and_eq_true] at hc
      simp only [dTs] at h
      have hlen : ds.length = ts.length := by
        cases e : dT Γ G ct d σ m with
        | bad => rw [e] at h; exact h.elim
        | ex => rw [e] at h; exact h.elim
        | ok σ1 m1 =>
          rw [e] at h
          simp only [Res.ok_bind] at h
          exact ckTs_len hc.2 (fun z => by rw [z] at h; exact h) (fun e' m' z => by rw [z] at h; exact h)
      refine ⟨⟨gCons (bG F t) (bGs F ts), fun X hX => pgs_cons (bG_ok hX t) (bGs_ok hX ts) (by rw [assignEach_cons hc.1.1]; rfl), v, ws, rfl, ?_⟩, by simp [hlen]⟩
      refine hT hc.1.2 P (fun i v s hi => hP i v s (by simp [tgtsHas, hi])) h0 R rl r1 (h.bind fun σ1 m1 ρ1 H1 σV1 R1 p1 x1 rl1 h1 => ?_)
      exact (Ts_ok hT hc.2 P (fun i v s hi => hP i v s (by simp [tgtsHas, hi])) rl1.2 R1 rl1.1 (r2.mono p1 x1) h1).1
theorem T_succ (S : Snd K mg Γ G N k n) (hF : Fam K mg Γ G N k sc F) {t : Expr} {ct : CT} (hc : ckT N (n + 1) sc t ct = true) {d : D} {v : V} {σ : Loc} {σV : L2.St} {Q : L2.St → Hp → Prop} (P : L2.St → Prop)
    (hP : ∀ i v s, tgtHas ct i = true → P s → P (s.set i (some v))) (h0 : P σV) (R : Rel K ρ m H) (rl : RL K ρ H σ σV) (r : RV K ρ H d v) (h : Post K (RLp K P) ρ H Q (dT Γ G ct d σ m)) : bG F t v σV H Q := by
  unfold ckT at hc
  split at hc
  case h_1 => cases hc
  case h_2 =>
    rename_i x pos i hn
    cases hn
    simp only [Bool.and_eq_true, decide_eq_true_eq] at hc
    simp only [dT] at h
    refine ⟨gName i, fun X hX => ?_, Post.ok h R ⟨rl.set r, hP i v σV (by simp [tgtHas]) h0⟩⟩
    obtain ⟨h1, h2⟩ := hF.loc hc.2 hX
    exact pg_name (by rw [hF.eN X hX]; exact hF.nd) (by rw [hF.eN X hX]; exact hc.1) h1 h2
  case h_3 =>
    rename_i es kk pos ts hn
    cases hn
    simp only [dT] at h
    split at h
    · rename_i xs e
      obtain ⟨a, vs, rfl, rs, hk⟩ := r.seq R e
      have hns := ckTs_noSt hc
      obtain ⟨h1, h2⟩ := Ts_ok (F := F) (f := ckT N n _) (fun {t ct} h => S.sT hF h) hc P (fun i v s hi => hP i v s (by simpa [tgtHas] using hi)) h0 R rl rs h
      rcases hk with ⟨_, _, hk⟩ | ⟨_, hk⟩
      · exact ⟨gLst K es.length (bGs F es), fun X hX => hF.eK X hX ▸ (pg_tupB (hF.calm X hX) (bGs_ok hX es) hns).2, a, vs, rfl, hk, by rw [rs.len]; exact h2, h1⟩
      · exact ⟨gTup K es.length (bGs F es), fun X hX => hF.eK X hX ▸ (pg_tupB (hF.calm X hX) (bGs_ok hX es) hns).1, a, vs, rfl, hk, by rw [rs.len]; exact h2, h1⟩
    · exact h.elim
  case h_4 =>
    rename_i o i pos x y hn
    cases hn
    simp only [Bool.and_eq_true] at hc
    obtain ⟨⟨hs, ho⟩, hi⟩ := hc
    simp only [dT] at h
    refine ⟨gSub (bE F o) (bE F i) (bPut F), fun X hX => pg_sub (bE_ok hX o) (bE_ok hX i) (bPut_ok hX) (fun v => ?_), ?_⟩
    · cases i <;> first | rfl | (simp [noSlc] at hs)
    · refine S.sE hF ho R rl (h.bind fun d1 m1 ρ1 H1 v1 R1 p1 x1 r1 h1 => ?_)
      refine S.sE hF hi R1 (rl.mono p1 x1) (h1.bind fun d2 m2 ρ2 H2 v2 R2 p2 x2 r2 h2 => ?_)
      split at h2
      · rename_i m3 e
        refine put_ok R2 (r1.mono p2 x2) r2 ((r.mono p1 x1).mono p2 x2) e fun H' R' x' => ?_
        exact h2 ρ2 H' σV R' (List.prefix_refl _) x' ⟨((rl.mono p1 x1).mono p2 x2).mono (List.prefix_refl _) x', h0⟩
      · exact h2.elim
  case h_5 => cases hc
theorem dEs_len {f : Expr → CE → Bool} : ∀ {es : List Expr} {cs : CEs} {σ : Loc} {m m1 : Mem} {ds : List D}, ckAll f es cs = true → dEs Γ G cs σ m = .ok ds m1 → ds.length = es.length
  | [], .nil, _, _, _, _, _, h => by simp only [dEs, Res.ok.injEq] at h; rw [← h.1]; rfl
  | [], .cons _ _, _, _, _, _, hc, _ => by simp [ckAll] at hc
  | _ :: _, .nil, _, _, _, _, hc, _ => by simp [ckAll] at hc
  | e :: es, .cons c cs, σ, m, m1, ds, hc, h => by
    simp only [ckAll, Bool.and_eq_true] at hc
    simp only [dEs] at h
    cases e1 : dE Γ G c σ m with
    | bad => rw [e1] at h; cases h
    | ex => rw [e1] at h; cases h
    | ok d m2 =>
      rw [e1] at h
      simp only [Res.ok_bind] at h
      cases e2 : dEs Γ G cs σ m2 with
      | bad => rw [e2] at h; cases h
      | ex => rw [e2] at h; cases h
      | ok ds' m3 =>
        rw [e2] at h
        simp only [Res.ok_bind, Res.ok.injEq] at h
        rw [← h.1]
        simp [dEs_len hc.2 e2]
theorem comp_read (S : Snd K mg Γ G N k n) (hF : Fam K mg Γ G N k sc F) {e tg it : Expr} {ifs : List Expr} {scope : Scope} {vs : List Nat} {t : CT} {i : CI} {c : CBO} {x : CE}
    (hb : blkC N { kind := ScopeKind.function, names := sc, isGenerator := false, isCoroutine := false } scope (ownOf N vs) = true) (ht : tgtIn vs t = true) (hci : ckI N n sc tg it i = true) (hct : ckT N n scope.names tg t = true)
    (hcb : ckBO N n scope.names ifs c = true) (hce : ckE N n scope.names e x = true) {σ : Loc} {σV : L2.St} {Q : VK}
    (R : Rel K ρ m H) (rl : RL K ρ H σ σV) (h : Post K (RV K) ρ H Q (dE Γ G (.comp vs t i c x) σ m)) :
    tLc (bI F tg it) (bG (blkF F scope) tg) (bTs (blkF F scope) ifs) (bE (blkF F scope) e) ((ownOf N vs).map (·.2)) σV H Q := by
  simp only [dE] at h
  have hk : scope.kind = .function := (blkOk_by hb).kind
  have hF' := hF.blk hk
  rw [own_snd]
  refine S.sI hF hci R rl (h.bind fun p m1 ρ1 H1 J R1 p1 x1 r1 h1 => comp_ok R1 r1 h1 fun x v m2 ρ2 H2 H3 Qs Qn R2 p2 x2 R3 x3 rx hbody => ?_)
  have rl3 := (rl.mono p1 x1).mono p2 (x2.trans x3)
  refine S.sT hF' hct (fun s => L2.wipe s vs = L2.wipe σV vs) (fun i v s hi hs => by rw [wipe_set (tgtIn_has ht i hi)]; exact hs) wipe_wipe R3 (rl3.wipe vs) rx (hbody.bind fun σ2 m4 ρ4 H4 σ2V R4 p4 x4 r4 h4 => ?_)
  refine ⟨r4.2, S.sBO hF' hcb R4 r4.1 (h4.bind fun b m5 ρ5 H5 b' R5 p5 x5 r5 h5 => ?_)⟩
  subst r5
  cases b with
  | true => exact S.sE hF' hce R5 (r4.1.mono p5 x5) (h5.bind fun y m6 ρ6 H6 u R6 p6 x6 r6 h6 => Post.ok (RR := RCo K) (a := some y) (b := some u) h6 R6 r6)
  | false => exact Post.ok (RR := RCo K) (a := (none : Option D)) (b := none) h5 R5 trivial
theorem rng_rv {ρ : List Addr} {H : Hp} (a b : Int) : RVs K ρ H (rngD a b) (rgV a b) := by
  unfold rngD rgV
  generalize List.range (b - a).toNat = l
  induction l with
  | nil => simp only [List.map_nil, RVs]
  | cons x l ih => simp only [List.map_cons, RVs]; exact ⟨_, _, rfl, by simp only [RV], ih⟩
theorem E_succ (S : Snd K mg Γ G N k n) (hF : Fam K mg Γ G N k sc F) {e : Expr} {ce : CE} (hc : ckE N (n + 1) sc e ce = true) {σ : Loc} {σV : L2.St} {Q : VK}
    (R : Rel K ρ m H) (rl : RL K ρ H σ σV) (h : Post K (RV K) ρ H Q (dE Γ G ce σ m)) : bE F e σV H Q := by
  have hE : ∀ {sc} {F : Cx → Prop}, Fam K mg Γ G N k sc F → SndE K Γ G F (ckE N n sc) := fun {sc F} hF {e ce} h => S.sE hF h
  unfold ckE at hc
  split at hc
  case h_1 => cases hc
  case h_2 =>
    rename_i x hn
    cases hn
    simp only [dE] at h
    refine S.sE hF hc R rl (h.bind0 fun d m1 ρ1 H1 v e1 R1 p1 x1 r1 h1 => ?_)
    have hg : ∃ d' m', gcD m d m1 = .ok d' m' := by
      unfold gcD
      repeat' split
      all_goals exact ⟨_, _, rfl⟩
    obtain ⟨d', m', eg⟩ := hg
    rw [eg] at h1
    obtain ⟨ρ', R', p', r'⟩ := gc_ok R R1 p1 r1 eg
    exact h1 ρ' H1 v R' p' x1 r'
  case h_3 =>
    rename_i x pos i hn
    cases hn
    simp only [Bool.and_eq_true, decide_eq_true_eq] at hc
    simp only [dE] at h
    split at h
    · rename_i d e1
      obtain ⟨v, hv, rv⟩ := rl.2 i d e1
      exact ⟨tVar i, fun X hX => pe_var (by rw [hF.eN X hX]; exact hc.1.1) (hF.vis hc.1.2 hX) (nDebug_1 hc.2).1 (nDebug_1 hc.2).2, v, hv, h.ok R rv⟩
    · exact h.elim
  case h_4 =>
    rename_i x pos y hn
    cases hn
    simp only [Bool.and_eq_true, decide_eq_true_eq] at hc
    obtain ⟨⟨rfl, hg⟩, hd⟩ := hc
    simp only [dE] at h
    split at h
    · rename_i d e1
      obtain ⟨u, v, h1, h2, h3⟩ := hF.glob x d e1
      exact ⟨tC v, fun X hX => pe_glob (hF.gl hg hX) (by rw [hF.eg X hX]; exact h1) h2 (nDebug_1 hd).1, h.ok R (h3 _ _)⟩
    · exact h.elim
  case h_5 =>
    rename_i c j pos d hn
    cases hn
    obtain ⟨v, h1, h2⟩ := lit_ok hc
    simp only [dE] at h
    exact ⟨tC v, fun X _ => h1 X, h.ok R (h2 _ _)⟩
  case h_6 =>
    rename_i a o b pos p x y hn
    cases hn
    simp only [Bool.and_eq_true, decEqOp, decide_eq_true_eq] at hc
    obtain ⟨⟨rfl, ha⟩, hb⟩ := hc
    simp only [dE] at h
    refine ⟨tOp (bOp F (binaryOp o)) (bE F a) (bE F b), fun X hX => pe_op (bOp_ok hX _) (bE_ok hX a) (bE_ok hX b), ?_⟩
    refine S.sE hF ha R rl (h.bind fun d m1 ρ1 H1 v R1 p1 x1 r1 h1 => ?_)
    refine S.sE hF hb R1 (rl.mono p1 x1) (h1.bind fun d2 m2 ρ2 H2 v2 R2 p2 x2 r2 h2 => ?_)
    exact opB_ok hF.toFew R2 (r1.mono p2 x2) r2 h2
  case h_7 =>
    rename_i a pos x hn
    cases hn
    simp only [dE] at h
    refine ⟨tUn (rU fun i => .int (-i)) (bE F a), fun X hX => pe_un un_neg (bE_ok hX a), S.sE hF hc R rl (h.bind fun d m1 ρ1 H1 v R1 p1 x1 r1 h1 => ?_)⟩
    split at h1
    · simp only [RV] at r1; subst r1; exact ⟨_, rfl, h1.ok R1 (by simp [RV])⟩
    · exact h1.elim
  case h_8 =>
    rename_i a pos x hn
    cases hn
    simp only [dE] at h
    refine ⟨tUn (rU fun i => .int (Builtin.bitNot i)) (bE F a), fun X hX => pe_un un_inv (bE_ok hX a), S.sE hF hc R rl (h.bind fun d m1 ρ1 H1 v R1 p1 x1 r1 h1 => ?_)⟩
    split at h1
    · simp only [RV] at r1; subst r1; exact ⟨_, rfl, h1.ok R1 (by simp [RV])⟩
    · exact h1.elim
  case h_9 =>
    rename_i a pos x hn
    cases hn
    simp only [dE] at h
    refine ⟨tNotT K (bE F a), fun X hX => hF.eK X hX ▸ pe_notT (bE_ok hX a), S.sE hF hc R rl (h.bind fun d m1 ρ1 H1 v R1 p1 x1 r1 h1 => ?_)⟩
    obtain ⟨b, e1, q⟩ := post_ofNB R1 h1
    exact ⟨b, tru_rel R1 r1 e1, q⟩
  case h_10 =>
    rename_i a o b pos p x y hn
    cases hn
    simp only [Bool.and_eq_true, decEqC, decide_eq_true_eq] at hc
    obtain ⟨⟨⟨rfl, hs⟩, ha⟩, hb⟩ := hc
    simp only [dE] at h
    refine ⟨tOp (bOp F (compareOp o)) (bE F a) (bE F b), fun X hX => pe_cmpR (bOp_ok hX _) (bE_ok hX a) (bE_ok hX b) (mark_no hs), ?_⟩
    refine S.sE hF ha R rl (h.bind fun d m1 ρ1 H1 v R1 p1 x1 r1 h1 => ?_)
    refine S.sE hF hb R1 (rl.mono p1 x1) (h1.bind fun d2 m2 ρ2 H2 v2 R2 p2 x2 r2 h2 => ?_)
    exact opC_ok hF.toFew R2 (r1.mono p2 x2) r2 h2
  case h_11 =>
    rename_i a o o' b c pos p p' x y z hn
    cases hn
    simp only [Bool.and_eq_true, decEqC, decide_eq_true_eq] at hc
    obtain ⟨⟨⟨⟨⟨⟨rfl, rfl⟩, hs⟩, hs2⟩, ha⟩, hb⟩, hcc⟩ := hc
    simp only [dE] at h
    have hm : lastMarks [o, o'] [b, c] = false := by show behindInMarks o' c = false; exact mark_no hs2
    refine ⟨tChain (bOp F (compareOp o)) (bOp F (compareOp o')) (bE F a) (bE F b) (bE F c), fun X hX => pe_chain (bOp_ok hX _) (bOp_ok hX _) (bE_ok hX a) (bE_ok hX b) (bE_ok hX c) hm, ?_⟩
    refine S.sE hF ha R rl (h.bind fun d m1 ρ1 H1 v R1 p1 x1 r1 h1 => ?_)
    refine S.sE hF hb R1 (rl.mono p1 x1) (h1.bind fun d2 m2 ρ2 H2 v2 R2 p2 x2 r2 h2 => ?_)
    refine opC_ok hF.toFew R2 (r1.mono p2 x2) r2 (h2.bind fun d3 m3 ρ3 H3 v3 R3 p3 x3 r3 h3 => ?_)
    split at h3
    · simp only [RV] at r3
      refine ⟨true, r3, ?_⟩
      show bE F c σV H3 _
      refine S.sE hF hcc R3 (((rl.mono p1 x1).mono p2 x2).mono p3 x3) (h3.bind fun d4 m4 ρ4 H4 v4 R4 p4 x4 r4 h4 => ?_)
      exact opC_ok hF.toFew R4 ((r2.mono p3 x3).mono p4 x4) r4 h4
    · simp only [RV] at r3
      refine ⟨false, r3, ?_⟩
      exact h3.ok R3 (by simp [RV])
    · exact h3.elim
  case h_12 =>
    rename_i op vs pos hn hx
    cases hn
    exact and_or_ok (f := ckE N n _) (hE hF) hF.eK hc R rl h
  case h_13 =>
    rename_i t a b pos c x y hn
    cases hn
    simp only [Bool.and_eq_true] at hc
    obtain ⟨⟨ht, ha⟩, hb⟩ := hc
    simp only [dE] at h
    refine ⟨tIf (bT F t) (bE F a) (bE F b), fun X hX => pe_ifExp (bT_ok hX t) (bE_ok hX a) (bE_ok hX b), ?_⟩
    refine S.sB hF ht R rl (h.bind fun d m1 ρ1 H1 v R1 p1 x1 r1 h1 => ?_)
    subst r1
    cases d with
    | true => exact S.sE hF ha R1 (rl.mono p1 x1) h1
    | false => exact S.sE hF hb R1 (rl.mono p1 x1) h1
  case h_14 =>
    rename_i es kk pos cs hn
    cases hn
    simp only [Bool.and_eq_true, decide_eq_true_eq] at hc
    simp only [dE] at h
    refine ⟨tTup (bA F es), fun X hX => pe_tup (bA_ok hX es), args_ok (hE hF) hc.1 R rl (h.bind0 fun ds m1 ρ1 H1 vs e1 R1 p1 x1 r1 h1 => ?_)⟩
    have hl : vs.length ≤ sizeLine := by rw [r1.len, dEs_len hc.1 e1, sizeLine_eq]; omega
    exact ⟨hl, post_newT R1 r1 (Post.mono p1 x1 h1)⟩
  case h_15 =>
    rename_i es pos cs hn
    cases hn
    simp only [Bool.and_eq_true, decide_eq_true_eq] at hc
    simp only [dE] at h
    refine ⟨tLst (bA F es), fun X hX => pe_lst (bA_ok hX es), args_ok (hE hF) hc.1 R rl (h.bind0 fun ds m1 ρ1 H1 vs e1 R1 p1 x1 r1 h1 => ?_)⟩
    have hl : vs.length ≤ sizeLine := by rw [r1.len, dEs_len hc.1 e1, sizeLine_eq]; omega
    exact ⟨hl, post_newL R1 r1 (Post.mono p1 x1 h1)⟩
  case h_16 =>
    rename_i a lo hi p1 pos x l hh hn
    cases hn
    simp only [Bool.and_eq_true] at hc
    obtain ⟨⟨ha, hl⟩, hh'⟩ := hc
    simp only [dE] at h
    refine ⟨tSl (bSl F) (bE F a) (bO F lo) (bO F hi), fun X hX => pe_slice (bSl_ok hX) (bE_ok hX a) (bO_ok hX lo) (bO_ok hX hi), ?_⟩
    refine S.sE hF ha R rl (h.bind fun d m1 ρ1 H1 v R1 p1 x1 r1 h1 => ?_)
    refine opt_ok (hE hF) hl R1 (rl.mono p1 x1) (h1.bind fun d2 m2 ρ2 H2 v2 R2 p2 x2 r2 h2 => ?_)
    refine opt_ok (hE hF) hh' R2 ((rl.mono p1 x1).mono p2 x2) (h2.bind fun d3 m3 ρ3 H3 v3 R3 p3 x3 r3 h3 => ?_)
    cases r2; cases r3
    exact slc_ok hF.toFew R3 ((r1.mono p2 x2).mono p3 x3) h3
  case h_17 =>
    rename_i a i pos x y hn
    cases hn
    simp only [Bool.and_eq_true] at hc
    obtain ⟨⟨hs, ha⟩, hi⟩ := hc
    simp only [dE] at h
    refine ⟨tOp (bIx F) (bE F a) (bE F i), fun X hX => pe_ix (bIx_ok hX) (bE_ok hX a) (bE_ok hX i) (plain_ix hs), ?_⟩
    refine S.sE hF ha R rl (h.bind fun d m1 ρ1 H1 v R1 p1 x1 r1 h1 => ?_)
    refine S.sE hF hi R1 (rl.mono p1 x1) (h1.bind fun d2 m2 ρ2 H2 v2 R2 p2 x2 r2 h2 => ?_)
    exact idx_ok hF.toFew R2 (r1.mono p2 x2) r2 h2
  case h_18 =>
    rename_i f p es pos g cs hn
    cases hn
    simp only [Bool.and_eq_true, decide_eq_true_eq] at hc
    obtain ⟨⟨⟨rfl, hg⟩, hd⟩, ha⟩ := hc
    exact call_ok hF (hE hF) hg hd ha R rl h
  case h_19 =>
    rename_i f p es pos b cs hn
    cases hn
    simp only [Bool.and_eq_true, decide_eq_true_eq] at hc
    obtain ⟨⟨⟨rfl, hg⟩, hne⟩, ha⟩ := hc
    exact biCall_ok hF (hE hF) hg (by intro z; subst z; simp at hne) ha R rl h
  case h_20 =>
    rename_i f p e T pT pos x T' hn
    cases hn
    simp only [Bool.and_eq_true, decide_eq_true_eq] at hc
    obtain ⟨⟨⟨⟨⟨⟨rfl, hg⟩, rfl⟩, hgT⟩, ht⟩, hs⟩, hx⟩ := hc
    simp only [dE] at h
    obtain ⟨b1, b2, b3, b4⟩ := typ_boot ht
    refine ⟨tCB (rIsi K) (tCons (bE F e) (tCons (tC (.ty T')) tNil)), fun X hX => hF.eK X hX ▸ pe_callB call_isi (hF.gl hg hX) (bltN_none hF (by decide +kernel) hX) (by decide +kernel)
      (pa_cons (bE_ok hX e) (pa_cons (pe_bltn (hF.gl hgT hX) (bltN_none hF b2 hX) b1 (by rfl) b3 b4) pa_nil) (starEach_cons hs)) (by decide) (by decide) (starEach_cons hs) (by rfl), ?_⟩
    refine S.sE hF hx R rl (h.bind fun d m1 ρ1 H1 v R1 p1 x1 r1 h1 => ?_)
    obtain ⟨b, e1, q⟩ := post_ofB R1 h1
    obtain ⟨t, k1, k2⟩ := isin_ok ht R1 r1 e1
    exact ⟨v, .ty T', t, .type T', b, rfl, .ty T', k1, k2, q⟩
  case h_21 =>
    rename_i o f ap es cp g x cs hn
    cases hn
    simp only [Bool.and_eq_true, decide_eq_true_eq] at hc
    obtain ⟨⟨⟨⟨⟨rfl, hs⟩, hl⟩, h30⟩, ho⟩, ha⟩ := hc
    exact meth_ok hF (hE hF) hs hl h30 ho ha R rl h
  case h_22 =>
    rename_i e tg it ifs scope pos vs t i c x hn
    cases hn
    simp only [Bool.and_eq_true] at hc
    obtain ⟨⟨⟨⟨⟨⟨hb, hs⟩, ht⟩, hci⟩, hct⟩, hcb⟩, hce⟩ := hc
    exact ⟨tLc (bI F tg it) (bG (blkF F scope) tg) (bTs (blkF F scope) ifs) (bE (blkF F scope) e) ((ownOf N vs).map (·.2)), fun X hX => pe_lc (hF.calm X hX) (by rw [hF.eN X hX]; exact hF.nd) (bI_ok hX tg it) (blk_ok hF hb hX)
      (fun s H C cl fp => bG_ok ⟨X, s, H, C, cl, fp, hX, rfl⟩ tg) (fun s H C cl fp => bTs_ok ⟨X, s, H, C, cl, fp, hX, rfl⟩ ifs) (fun s H C cl fp => bE_ok ⟨X, s, H, C, cl, fp, hX, rfl⟩ e) (fold_no hs), comp_read S hF hb ht hci hct hcb hce R rl h⟩
  case h_23 =>
    rename_i f p g p2 a pos2 pos x hn
    cases hn
    simp only [Bool.and_eq_true, decide_eq_true_eq] at hc
    obtain ⟨⟨⟨⟨⟨rfl, hg⟩, rfl⟩, hg2⟩, hs⟩, hx⟩ := hc
    simp only [dE] at h
    refine ⟨tLstRg (tRg1 (bE F a)), fun X hX => pe_listRg (hF.calm X hX) (hF.gl hg hX) (bltN_none hF (by decide +kernel) hX) (prg_1 (hF.gl hg2 hX) (bltN_none hF (by decide +kernel) hX) (bE_ok hX a) (starEach_cons hs)) rfl, ?_⟩
    refine S.sE hF hx R rl (h.bind fun d m1 ρ1 H1 v R1 p1 x1 r1 h1 => ?_)
    cases d with
    | int j =>
      simp only [RV] at r1; subst r1
      simp only at h1
      split at h1
      · rename_i hl
        exact ⟨j, rfl, RgOk.of_le (by decide) hl.2 (by decide) hl.1, post_newL R1 (rng_rv 0 j) h1⟩
      · exact h1.elim
    | _ => exact h1.elim
  case h_24 =>
    rename_i f p g p2 a b pos2 pos x y hn
    cases hn
    simp only [Bool.and_eq_true, decide_eq_true_eq] at hc
    obtain ⟨⟨⟨⟨⟨⟨⟨rfl, hg⟩, rfl⟩, hg2⟩, hs⟩, hs2⟩, hx⟩, hy⟩ := hc
    simp only [dE] at h
    refine ⟨tLstRg (tRg2 (bE F a) (bE F b)), fun X hX => pe_listRg (hF.calm X hX) (hF.gl hg hX) (bltN_none hF (by decide +kernel) hX) (prg_2 (hF.gl hg2 hX) (bltN_none hF (by decide +kernel) hX) (bE_ok hX a) (bE_ok hX b) (by rw [starEach_cons hs, starEach_cons hs2]) (starEach_cons hs2) (back_any (by simp [hs2]))) rfl, ?_⟩
    refine S.sE hF hx R rl (h.bind fun d m1 ρ1 H1 v R1 p1 x1 r1 h1 => ?_)
    refine S.sE hF hy R1 (rl.mono p1 x1) (h1.bind fun e m2 ρ2 H2 w R2 p2 x2 r2 h2 => ?_)
    split at h2
    · simp only [RV] at r1 r2; subst r1; subst r2
      split at h2
      · rename_i hl
        exact ⟨_, _, rfl, rfl, RgOk.of_le hl.1 hl.2.2.2 hl.2.1 hl.2.2.1, post_newL R2 (rng_rv _ _) h2⟩
      · exact h2.elim
    · exact h2.elim
  case h_25 => cases hc
end
end PC

namespace PC
open PySem L2 Classical
/-- what is wanted of a statement's end -/
def PostS (K : PySem.W.Frag) (ρ : List Addr) (H : Hp) (Z : Ends) : SR → Prop
  | .nx σ m => ∀ ρ' H' σV, Rel K ρ' m H' → ρ <+: ρ' → Ext H H' → RL K ρ' H' σ σV → Z.nx σV H'
  | .rt d m => ∀ ρ' H' v, Rel K ρ' m H' → ρ <+: ρ' → Ext H H' → RV K ρ' H' d v → Z.rt v H'
  | .bk σ m => ∀ ρ' H' σV, Rel K ρ' m H' → ρ <+: ρ' → Ext H H' → RL K ρ' H' σ σV → Z.bk σV H'
  | .ct σ m => ∀ ρ' H' σV, Rel K ρ' m H' → ρ <+: ρ' → Ext H H' → RL K ρ' H' σ σV → Z.ct σV H'
  | _ => False
section
variable {K : PySem.W.Frag} {mg : Str → Option Value} {Γ : Fn} {G : Str → Option PC.D} {N : List Str} {k n : Nat} {sc : Sc} {F : Cx → Prop} {ρ ρ' : List Addr} {H H' : Hp} {m : Mem} {Z : Ends}
theorem PostS.mono (p : ρ <+: ρ') (e : Ext H H') : ∀ {r : SR}, PostS K ρ H Z r → PostS K ρ' H' Z r
  | .nx _ _, h => fun ρ1 H1 v R q x r => h ρ1 H1 v R (p.trans q) (e.trans x) r
  | .rt _ _, h => fun ρ1 H1 v R q x r => h ρ1 H1 v R (p.trans q) (e.trans x) r
  | .bk _ _, h => fun ρ1 H1 v R q x r => h ρ1 H1 v R (p.trans q) (e.trans x) r
  | .ct _ _, h => fun ρ1 H1 v R q x r => h ρ1 H1 v R (p.trans q) (e.trans x) r
  | .bad, h => h
  | .ex _ _ _, h => h
theorem PostS.to {α β : Type} {RR : List Addr → Hp → α → β → Prop} {Q' : β → Hp → Prop} {σ : Loc} {f : α → Mem → SR} {r : Res α} (h : PostS K ρ H Z (r.to σ f))
    (k : ∀ a m1 ρ1 H1 b, Rel K ρ1 m1 H1 → ρ <+: ρ1 → Ext H H1 → RR ρ1 H1 a b → PostS K ρ1 H1 Z (f a m1) → Q' b H1) : Post K RR ρ H Q' r := by
  cases r with
  | bad => exact h
  | ex e m => exact h
  | ok a m1 => exact fun ρ1 H1 b R p x r => k a m1 ρ1 H1 b R p x r (PostS.mono p x h)
theorem PostS.nx {σ : Loc} {σV : L2.St} (h : PostS K ρ H Z (.nx σ m)) (R : Rel K ρ m H) (rl : RL K ρ H σ σV) : Z.nx σV H := h ρ H σV R (List.prefix_refl _) (.refl _) rl
/-- the end of a turn: what the loop goes on with -/

def rGetL (K : PySem.W.Frag) : V → V → Hp → VK → Prop := fun x y H Q => ∃ p xs i v, x = .ref p ∧ y = .int i ∧ 0 ≤ i ∧ i < 2 ^ 63 ∧ SqL K H p xs ∧ xs[i.toNat]? = some v ∧ Q v H
theorem get_list {X : Cx} : PGet X (rGetL X.K) := by
  intro pins s σ H o i ov iv Q I ro ri h
  obtain ⟨p, xs, j, v, rfl, rfl, h0, h1, hs, hv, q⟩ := h
  cases ro
  obtain ⟨t, rfl⟩ := ri
  obtain ⟨its, rv, pl, hz⟩ := I.list hs
  obtain ⟨u, hu, ru⟩ := rv.get hv
  exact wpAny_getItem_list pl.isList h0 h1 (by simpa using hu) ⟨v, H, I, ru, q⟩
def bGet (F : Cx → Prop) : V → V → Hp → VK → Prop := fun x y H Q => ∃ r, (∀ X, F X → PGet X r) ∧ r x y H Q
theorem bGet_ok {X : Cx} (h : F X) : PGet X (bGet F) := fun pins s σ H o i ov iv Q I ro ri ⟨_, ht, q⟩ => ht X h pins s σ H o i ov iv Q I ro ri q
theorem get_ok (hF : Few K F) {x y : PC.D} {v w : V} {Q : VK} (R : Rel K ρ m H) (rx : RV K ρ H x v) (ry : RV K ρ H y w) (h : Post K (RV K) ρ H Q (getD x y m)) : bGet F v w H Q := by
  unfold getD at h
  split at h
  · split at h
    · rename_i xs e
      split at h
      · rename_i hk
        split at h
        · rename_i d ed
          simp only [RV] at rx ry
          subst ry
          obtain ⟨a, ha, rfl⟩ := rx
          obtain ⟨vs, h1, h2⟩ := R.lst e ha
          obtain ⟨u, hu, ru⟩ := h2.get ed
          exact ⟨rGetL K, fun X hX => hF.eK X hX ▸ get_list, a, vs, _, u, rfl, rfl, hk.1, hk.2, SqL.of h1, hu, h.ok R ru⟩
        · exact h.elim
      · exact h.elim
    · exact h.elim
  · exact h.elim
/-! ### side conditions of assignments -/
theorem kindOf_local (hF : Fam K mg Γ G N k sc F) {X : Cx} (hX : F X) (x : Str) : (X.env.kindOf x == some .local) = isLocal sc x := by
  unfold Env.kindOf isLocal
  rcases hF.lk X hX x with e | ⟨e1, e2⟩
  · rw [e]
    cases sc.lookup x with
    | none => rfl
    | some kk => cases kk <;> rfl
  · rw [e1, e2]; rfl
theorem sw_name (hF : Fam K mg Γ G N k sc F) {X : Cx} (hX : F X) {y : Str} {py : Pos} {e : Expr} {l : Nat} (h : noSw sc (.Name y py) e = true) : swapsWith e (some (.Name y py)) l X.env = pure false := by
  simp only [noSw, Bool.or_eq_true, Bool.not_eq_true'] at h
  rcases h with h | h
  · exact sw_no h
  · have hk := kindOf_local hF hX y
    rw [h] at hk
    unfold swapsWith
    split
    · simp only [pure_bind]
      show pure (X.env.blockKind == .function && X.env.kindOf y == some .local && _ && _) = pure false
      rw [hk]; simp
    · rfl
theorem names_eq (hF : Fam K mg Γ G N k sc F) {X : Cx} (hX : F X) (line : Nat) : ∀ (ts : List Expr) (g : Expr → Option Str), (∀ id pos, g (.Name id pos) = if (X.env.kindOf id == some .local && pos.line == line) = true then some id else none) →
    (∀ e, (match e with | .Name _ _ => False | _ => True) → g e = none) → ts.filterMap g = namesOf sc line ts
  | [], _, _, _ => rfl
  | t :: ts, g, h1, h2 => by
    have ih := names_eq hF hX line ts g h1 h2
    rw [List.filterMap_cons]
    cases t with
    | Name id pos =>
      simp only [namesOf]
      rw [h1, kindOf_local hF hX id, ← ih]
      by_cases h : (isLocal sc id && pos.line == line) = true
      · simp only [h, if_true]
      · simp only [h]; rfl
    | _ => rw [h2 _ trivial]; simpa only [namesOf] using ih
theorem blockKind_fn (hF : Fam K mg Γ G N k sc F) {X : Cx} (hX : F X) : X.env.blockKind = .function := by
  unfold Env.blockKind
  rw [hF.kind X hX]; rfl
theorem par_no (hF : Fam K mg Γ G N k sc F) {X : Cx} (hX : F X) {t e : Expr} (h : noPar sc t e = true) : swappedStores [t] e X.env = pure none := by
  unfold noPar at h
  split at h
  · rename_i ts k1 p1 vs k2 p2
    simp only [Bool.or_eq_true, Bool.not_eq_true', bne_iff_ne, ne_eq] at h
    unfold swappedStores
    simp only [pure_bind]
    rcases h with h | h
    · have : (!(ts.length == 2 || ts.length == 3) || vs.length != ts.length || X.env.blockKind != .function) = true := by rw [h]; rfl
      simp only [this, if_true]
    · rw [names_eq hF hX _ ts _ (fun _ _ => rfl) (fun e h => by cases e <;> first | rfl | exact h.elim)]
      have hb : ((namesOf sc ((ts.head?.map (·.pos.line)).getD 0) ts).length != ts.length) = true := by simpa using h
      split
      · rfl
      · split
        · rfl
        · simp only [hb, Bool.true_or, if_true]
  · cases h
  · rename_i h1 h2
    cases t with
    | Tuple a b c => cases e with
      | Tuple d f g => exact absurd rfl (h2 a b c d f g rfl)
      | _ => rfl
    | List a b => exact absurd rfl (h1 a b)
    | _ => rfl
theorem par_yes (hF : Fam K mg Γ G N k sc F) {X : Cx} (hX : F X) {x y : Str} {px py p1 p2 : Pos} {k1 k2 : Nat} {a b : Expr} (ha : noSt a = true) (hb : noSt b = true) (h : parB sc [a, b] px.line [.Name x px, .Name y py] = true) :
    swappedStores [.Tuple [.Name x px, .Name y py] k1 p1] (.Tuple [a, b] k2 p2) X.env = pure (some [x, y]) ∧ isLocal sc x = true ∧ isLocal sc y = true := by
  unfold parB at h
  simp only [Bool.and_eq_true, beq_iff_eq, Bool.not_eq_true'] at h
  obtain ⟨⟨⟨⟨h1, h2⟩, h3⟩, h4⟩, h5⟩ := h
  have hx : isLocal sc x = true ∧ (px.line == px.line) = true ∧ isLocal sc y = true ∧ (py.line == px.line) = true ∧ namesOf sc px.line [.Name x px, .Name y py] = [x, y] := by
    simp only [namesOf] at h2 ⊢
    by_cases c1 : (isLocal sc x && px.line == px.line) = true
    · by_cases c2 : (isLocal sc y && py.line == px.line) = true
      · simp only [c1, c2, if_true]
        simp only [Bool.and_eq_true] at c1 c2
        exact ⟨c1.1, c1.2, c2.1, c2.2, trivial⟩
      · simp only [c1, c2, if_true] at h2; simp at h2
    · simp only [c1] at h2
      by_cases c2 : (isLocal sc y && py.line == px.line) = true
      · simp [c2] at h2
      · simp [c2] at h2
  obtain ⟨q1, _, q2, _, q3⟩ := hx
  refine ⟨?_, q1, q2⟩
  have hst : ∀ g : Expr → Bool, (∀ e, noSt e = true → g e = false) → [a, b].any g = false := fun g hg => by simp [hg a ha, hg b hb]
  unfold swappedStores
  simp only [pure_bind, List.length_cons, List.length_nil, blockKind_fn hF hX]
  have e0 : ((List.head? [Expr.Name x px, Expr.Name y py]).map (·.pos.line)).getD 0 = px.line := rfl
  rw [e0, names_eq hF hX px.line [.Name x px, .Name y py] _ (fun _ _ => rfl) (fun e h => by cases e <;> first | rfl | exact h.elim), q3]
  rw [q3] at h3
  have h3' : ([x, y].eraseDups.length != [x, y].length) = false := by simpa using h3
  rw [hst _ (fun e h => by cases e <;> first | rfl | cases h)]
  simp only [h3', h4, h5]
  rfl
theorem par_yes3 (hF : Fam K mg Γ G N k sc F) {X : Cx} (hX : F X) {x y z : Str} {px py pz p1 p2 : Pos} {k1 k2 : Nat} {a b c : Expr} (ha : noSt a = true) (hb : noSt b = true) (hc : noSt c = true) (h : parB sc [a, b, c] px.line [.Name x px, .Name y py, .Name z pz] = true) :
    swappedStores [.Tuple [.Name x px, .Name y py, .Name z pz] k1 p1] (.Tuple [a, b, c] k2 p2) X.env = pure (some [x, y, z]) ∧ isLocal sc x = true ∧ isLocal sc y = true ∧ isLocal sc z = true := by
  unfold parB at h
  simp only [Bool.and_eq_true, beq_iff_eq, Bool.not_eq_true'] at h
  obtain ⟨⟨⟨⟨h1, h2⟩, h3⟩, h4⟩, h5⟩ := h
  have hx : isLocal sc x = true ∧ isLocal sc y = true ∧ isLocal sc z = true ∧ namesOf sc px.line [.Name x px, .Name y py, .Name z pz] = [x, y, z] := by
    simp only [namesOf] at h2 ⊢
    by_cases c1 : (isLocal sc x && px.line == px.line) = true <;> by_cases c2 : (isLocal sc y && py.line == px.line) = true <;> by_cases c3 : (isLocal sc z && pz.line == px.line) = true <;>
      simp only [c1, c2, c3, if_true, if_false, Bool.false_eq_true, List.length_cons, List.length_nil] at h2 ⊢ <;> first | (exfalso; omega) | skip
    simp only [Bool.and_eq_true] at c1 c2 c3
    exact ⟨c1.1, c2.1, c3.1, trivial⟩
  obtain ⟨q1, q2, q4, q3⟩ := hx
  refine ⟨?_, q1, q2, q4⟩
  have hst : ∀ g : Expr → Bool, (∀ e, noSt e = true → g e = false) → [a, b, c].any g = false := fun g hg => by simp [hg a ha, hg b hb, hg c hc]
  unfold swappedStores
  simp only [pure_bind, List.length_cons, List.length_nil, blockKind_fn hF hX]
  have e0 : ((List.head? [Expr.Name x px, Expr.Name y py, Expr.Name z pz]).map (·.pos.line)).getD 0 = px.line := rfl
  rw [e0, names_eq hF hX px.line [.Name x px, .Name y py, .Name z pz] _ (fun _ _ => rfl) (fun e h => by cases e <;> first | rfl | exact h.elim), q3]
  rw [q3] at h3
  have h3' : ([x, y, z].eraseDups.length != [x, y, z].length) = false := by simpa using h3
  rw [hst _ (fun e h => by cases e <;> first | rfl | cases h)]
  simp only [h3', h4, h5]
  rfl
end
end PC

namespace PC
open PySem L2 Classical
section
variable {K : PySem.W.Frag} {mg : Str → Option Value} {Γ : Fn} {G : Str → Option PC.D} {N : List Str} {k n : Nat}
theorem snd (n : Nat) : Snd K mg Γ G N k n := by
  induction n with
  | zero =>
    constructor
    · intro sc F hF e ce h; simp [ckE] at h
    · intro sc F hF e ce h; simp [ckB] at h
    · intro sc F hF e ce h; simp [ckBO] at h
    · intro sc F hF tg e ce h; simp [ckI] at h
    · intro sc F hF t ct h; simp [ckT] at h
  | succ n ih =>
    exact ⟨fun hF _ _ h _ _ _ _ _ _ R rl p => E_succ ih hF h R rl p, fun hF _ _ h _ _ _ _ _ _ R rl p => bB_succ ih hF h R rl p, fun hF _ _ h _ _ _ _ _ _ R rl p => bO_succ ih hF h R rl p,
      fun hF _ _ _ h _ _ _ _ _ _ R rl p => I_succ ih hF h R rl p, fun hF _ _ h _ _ _ _ _ _ _ _ P hP h0 R rl r p => T_succ ih hF h P hP h0 R rl r p⟩
variable {sc : Sc} {F : Cx → Prop} {ρ : List Addr} {H : Hp} {m : Mem} {Z : Ends}
/-- the turns of a while -/
theorem while_ok {c : Loc → Mem → Res Bool} {b : Loc → Mem → SR} {tc : TT} {tb : TS} {σ : Loc} {σV : L2.St} (R : Rel K ρ m H) (rl : RL K ρ H σ σV) (h : PostS K ρ H Z (whileD c b σ m))
    (hc : ∀ {σ m ρ σV H Q}, Rel K ρ m H → RL K ρ H σ σV → Post K RB ρ H Q (c σ m) → tc σV H Q)
    (hb : ∀ {σ m ρ σV H Z}, Rel K ρ m H → RL K ρ H σ σV → PostS K ρ H Z (b σ m) → tb Z σV H) : tWhile tc tb Z σV H := by
  have hex : ∃ j, PostS K ρ H Z (whileN c b j σ m) := by
    unfold whileD at h
    split at h
    · exact ⟨_, h⟩
    · exact h.elim
  obtain ⟨j, hj⟩ := hex
  refine ⟨fun j σV' H' => ∃ σ m ρ', Rel K ρ' m H' ∧ RL K ρ' H' σ σV' ∧ PostS K ρ' H' Z (whileN c b j σ m), ⟨j, σ, m, ρ, R, rl, hj⟩, ?_⟩
  rintro j σV' H' ⟨σ, m, ρ', R1, rl1, h1⟩
  cases j with
  | zero => exact h1.elim
  | succ j =>
    simp only [whileN] at h1
    refine hc R1 rl1 (h1.to fun t m2 ρ2 H2 t' R2 p2 x2 r2 h2 => ?_)
    subst r2
    cases t with
    | false => exact h2.nx R2 (rl1.mono p2 x2)
    | true =>
      simp only [if_true]
      refine ⟨fun σV' H' => ∃ σ m ρ', Rel K ρ' m H' ∧ RL K ρ' H' σ σV' ∧ PostS K ρ' H' Z (whileN c b j σ m), fun σ' H' h => ⟨j, Nat.lt_succ_self _, h⟩, hb R2 (rl1.mono p2 x2) ?_⟩
      simp only at h2
      cases e : b σ m2 with
      | bad => rw [e] at h2; exact h2
      | ex => rw [e] at h2; exact h2
      | nx σ3 m3 => rw [e] at h2; exact fun ρ3 H3 σV3 R3 p3 x3 r3 => ⟨σ3, m3, ρ3, R3, r3, h2.mono p3 x3⟩
      | ct σ3 m3 => rw [e] at h2; exact fun ρ3 H3 σV3 R3 p3 x3 r3 => ⟨σ3, m3, ρ3, R3, r3, h2.mono p3 x3⟩
      | bk σ3 m3 => rw [e] at h2; exact fun ρ3 H3 σV3 R3 p3 x3 r3 => h2 ρ3 H3 σV3 R3 p3 x3 r3
      | rt d m3 => rw [e] at h2; exact h2
theorem for_guard {gs : List (Nat × List PC.D)} {body : PC.D → Loc → Mem → SR} {mi : Mem} {σ : Loc} : ∀ {xs : List PC.D}, PostS K ρ H Z (forD gs body xs σ mi) → guardOk gs mi
  | [], h => by unfold forD at h; split at h <;> first | assumption | exact h.elim
  | _ :: _, h => by unfold forD at h; split at h <;> first | assumption | exact h.elim
/-- the turns of a for -/
theorem for_ok {J : It} {p : PC.Itr} {g : TG} {tb : TS} {body : PC.D → Loc → Mem → SR} {σ : Loc} {σV : L2.St} (R : Rel K ρ m H) (rl : RL K ρ H σ σV) (W : RIt K ρ H p J) (h : PostS K ρ H Z (forD p.2 body p.1 σ m))
    (hb : ∀ {x v σ m ρ1 σV H1 Z}, Rel K ρ1 m H1 → RL K ρ1 H1 σ σV → RV K ρ1 H1 x v → PostS K ρ1 H1 Z (body x σ m) → g v σV H1 fun σ2 H2 => tb Z σ2 H2) :
    ∃ W : Nat → Nat → L2.St → Hp → Prop, (∃ m, W 0 m σV H) ∧ ∀ i m σ H, W i m σ H →
      (J.stop i H ∧ Z.nx σ H) ∨ (J.go i H ∧ ∃ N : L2.St → Hp → Prop, (∀ σ' H', N σ' H' → ∃ m', m' < m ∧ W (i + 1) m' σ' H') ∧ ∀ x H', J.yld i H x H' → g x σ H' fun σ2 H2 => tb { Z with nx := N, ct := N, bk := Z.nx } σ2 H2) := by
  obtain ⟨Gd, Y, w, hG, hY⟩ := W.ex
  refine for_it w (fun i σV' H' => ∃ σ m ρ', Rel K ρ' m H' ∧ ρ <+: ρ' ∧ Ext H H' ∧ RL K ρ' H' σ σV' ∧ PostS K ρ' H' Z (forD p.2 body (p.1.drop i) σ m)) ⟨σ, m, ρ, R, List.prefix_refl _, .refl _, rl, by simpa using h⟩ ?_ ?_ ?_
  · rintro i σ' H' hi ⟨σ, m, ρ', R1, p1, x1, rl1, h1⟩
    exact hG ρ' m H' R1 p1 x1 (for_guard h1)
  · rintro i x σ' H1 H2 hi ⟨σ, m, ρ', R1, p1, x1, rl1, h1⟩ y
    obtain ⟨R2, x2, k2, d, ed, rd⟩ := hY i H1 x H2 ρ' m hi R1 p1 x1 (for_guard h1) y
    have hdrop : p.1.drop i = d :: p.1.drop (i + 1) := by
      have := (List.getElem?_eq_some_iff.mp ed).2
      rw [List.drop_eq_getElem_cons hi, this]
    rw [hdrop] at h1
    unfold forD at h1
    split at h1
    · refine hb R2 (rl1.mono (List.prefix_refl _) x2) rd ?_
      cases e : body d σ m with
      | bad => rw [e] at h1; exact h1
      | ex => rw [e] at h1; exact h1
      | nx σ3 m3 => rw [e] at h1; exact fun ρ3 H3 σV3 R3 p3 x3 r3 => ⟨σ3, m3, ρ3, R3, p1.trans p3, x1.trans (x2.trans x3), r3, h1.mono p3 (x2.trans x3)⟩
      | ct σ3 m3 => rw [e] at h1; exact fun ρ3 H3 σV3 R3 p3 x3 r3 => ⟨σ3, m3, ρ3, R3, p1.trans p3, x1.trans (x2.trans x3), r3, h1.mono p3 (x2.trans x3)⟩
      | bk σ3 m3 => rw [e] at h1; exact fun ρ3 H3 σV3 R3 p3 x3 r3 => h1 ρ3 H3 σV3 R3 p3 (x2.trans x3) r3
      | rt d m3 => rw [e] at h1; exact fun ρ3 H3 v R3 p3 x3 r3 => h1 ρ3 H3 v R3 p3 (x2.trans x3) r3
    · exact h1.elim
  · rintro σ' H' ⟨σ, m, ρ', R1, p1, x1, rl1, h1⟩
    rw [List.drop_length] at h1
    unfold forD at h1
    split at h1
    · exact h1.nx R1 rl1
    · exact h1.elim
theorem true_T {ct : CT} : ∀ i v s, tgtHas ct i = true → (fun _ : L2.St => True) s → (fun _ : L2.St => True) (s.set i (some v)) := fun _ _ _ _ _ => trivial
/-- the soundness of statements at a fuel -/
structure SndS (K : PySem.W.Frag) (mg : Str → Option Value) (Γ : Fn) (G : Str → Option PC.D) (N : List Str) (k n : Nat) : Prop where
  s : ∀ {sc F}, Fam K mg Γ G N k sc F → ∀ {s cs}, ckS N n sc s cs = true → ∀ {σ m ρ σV H Z}, Rel K ρ m H → RL K ρ H σ σV → PostS K ρ H Z (dS Γ G cs σ m) → bS F s Z σV H
  ss : ∀ {sc F}, Fam K mg Γ G N k sc F → ∀ {s cs}, ckSs N n sc s cs = true → ∀ {σ m ρ σV H Z}, Rel K ρ m H → RL K ρ H σ σV → PostS K ρ H Z (dSs Γ G cs σ m) → bSs F s Z σV H
theorem asg_ok (S : Snd K mg Γ G N k n) (hF : Fam K mg Γ G N k sc F) {t e : Expr} {ct : CT} {c : CE} (ht : ckT N n sc t ct = true) (he : ckE N n sc e c = true) {σ : Loc} {σV : L2.St} (R : Rel K ρ m H) (rl : RL K ρ H σ σV)
    (h : PostS K ρ H Z (dS Γ G (.asg ct c) σ m)) : tAsg (bE F e) (bG F t) Z σV H := by
  simp only [dS] at h
  refine S.sE hF he R rl (h.to fun d m1 ρ1 H1 v R1 p1 x1 r1 h1 => ?_)
  refine S.sT hF ht (fun _ => True) true_T trivial R1 (rl.mono p1 x1) r1 (h1.to fun σ2 m2 ρ2 H2 σV2 R2 p2 x2 r2 h2 => ?_)
  exact h2.nx R2 r2.1
theorem s_succ (T : SndS K mg Γ G N k n) (hF : Fam K mg Γ G N k sc F) {s : Stmt} {cs : CS} (hc : ckS N (n + 1) sc s cs = true) {σ : Loc} {σV : L2.St} (R : Rel K ρ m H) (rl : RL K ρ H σ σV)
    (h : PostS K ρ H Z (dS Γ G cs σ m)) : bS F s Z σV H := by
  have S : Snd K mg Γ G N k n := snd n
  unfold ckS at hc
  split at hc
  case h_1 => cases hc
  case h_2 =>
    rename_i y py e pos i c hn
    cases hn
    simp only [Bool.and_eq_true, decide_eq_true_eq, Bool.or_eq_true] at hc
    obtain ⟨⟨⟨hi, hl⟩, hsw⟩, he⟩ := hc
    simp only [dS, dT] at h
    have fin : ∀ {te : TE}, (∀ {Q : VK}, Post K (RV K) ρ H Q (dE Γ G c σ m) → te σV H Q) → tAsg te (gName i) Z σV H := fun hte =>
      hte (h.to fun d m1 ρ1 H1 v R1 p1 x1 r1 h1 => by
        simp only [Res.ok_to] at h1
        exact h1.nx R1 ((rl.mono p1 x1).set r1))
    rcases hsw with ⟨hsw, hcm⟩ | hsw
    · unfold swB at hsw
      split at hsw
      · rename_i elt gens scope lpos
        split at hcm
        · rename_i vs t ci cb x
          simp only [Bool.and_eq_true, Bool.not_eq_true'] at hsw
          obtain ⟨⟨hloc, hline⟩, hno⟩ := hsw
          cases n with
          | zero => simp [ckE] at he
          | succ n =>
            have S' : Snd K mg Γ G N k n := snd n
            unfold ckE at he
            split at he
            case h_22 e' tg it ifs scope' pos' vs' t' i' c' x' hn' heq1 heq2 =>
              cases hn'
              cases heq1
              cases heq2
              simp only [Bool.and_eq_true] at he
              obtain ⟨⟨⟨⟨⟨⟨hb, hs⟩, ht⟩, hci⟩, hct⟩, hcb⟩, hce⟩ := he
              have hk : scope.kind = .function := (blkOk_by hb).kind
              refine ⟨tAsg (tLc (bI F tg it) (bG (blkF F scope) tg) (bTs (blkF F scope) ifs) (bE (blkF F scope) elt) ((ownOf N vs).map (·.2))) (gName i), fun X hX =>
                ps_setLc (hF.calm X hX) (by rw [hF.eN X hX]; exact hF.nd) (by rw [hF.eN X hX]; exact hi) (hF.local_ hloc hX) (sw_true (hF.kind X hX) (hF.local_ hloc hX) hline hno) (bI_ok hX tg it) (blk_ok hF hb hX)
                (fun s H C cl fp => bG_ok ⟨X, s, H, C, cl, fp, hX, rfl⟩ tg) (fun s H C cl fp => bTs_ok ⟨X, s, H, C, cl, fp, hX, rfl⟩ ifs) (fun s H C cl fp => bE_ok ⟨X, s, H, C, cl, fp, hX, rfl⟩ elt) (fold_no hs),
                fin fun hp => comp_read S' hF hb ht hci hct hcb hce R rl hp⟩
            all_goals first | (cases he; done) | (exfalso; simp_all; done) | skip
        · cases hcm
      · cases hsw
    · refine ⟨tAsg (bE F e) (gName i), fun X hX => ?_, fin fun hp => S.sE hF he R rl hp⟩
      obtain ⟨h1, h2⟩ := hF.loc hl hX
      exact ps_set (by rw [hF.eN X hX]; exact hF.nd) (by rw [hF.eN X hX]; exact hi) h1 (bE_ok hX e) (sw_name hF hX hsw) h2
  case h_3 =>
    rename_i x px y py k1 p1 a b k2 p2 pos i j c d hn
    cases hn
    simp only [Bool.and_eq_true, decide_eq_true_eq, Bool.or_eq_true] at hc
    obtain ⟨⟨⟨⟨⟨⟨⟨⟨hi, hj⟩, hlx⟩, hly⟩, ha⟩, hb⟩, hp⟩, hca⟩, hcb⟩ := hc
    rcases hp with ⟨hp, hij⟩ | hp
    · simp only [dS, dE, dEs] at h
      refine ⟨tPar i j (bA F [a, b]), fun X hX => ?_, ?_⟩
      · obtain ⟨q1, q2, q3⟩ := par_yes hF hX ha hb hp
        exact ps_par (hF.calm X hX) (by rw [hF.eN X hX]; exact hF.nd) (by rw [hF.eN X hX]; exact hi) (by rw [hF.eN X hX]; exact hj) hij (hF.local_ q2 hX) (hF.local_ q3 hX) (bA_ok hX _) q1 rfl
      · refine args_ok (f := ckE N n _) (cs := .cons c (.cons d .nil)) (fun h => S.sE hF h) (by simp only [ckAll, ha, hb, hca, hcb, Bool.and_self]) R rl ?_
        cases e1 : dE Γ G c σ m with
        | bad => rw [e1] at h; exact h.elim
        | ex e m1 => rw [e1] at h; exact h.elim
        | ok v m1 =>
          rw [e1] at h
          simp only [Res.bind] at h
          cases e2 : dE Γ G d σ m1 with
          | bad => rw [e2] at h; exact h.elim
          | ex e m2 => rw [e2] at h; exact h.elim
          | ok w m2 =>
            rw [e2] at h
            simp only [dEs, e1, e2, Res.bind]
            intro ρ1 H1 vs R1 q1 x1 r1
            simp only [RVs] at r1
            obtain ⟨v', ws, e3, r2, v'', ws', e4, r3, e5⟩ := r1
            subst e5
            subst e4
            subst e3
            simp only [Res.to, dT, seqOf, dTs] at h
            exact ⟨_, _, rfl, h ρ1 H1 _ R1 q1 x1 (((rl.mono q1 x1).set r2).set r3)⟩
    · cases n with
      | zero => simp [ckE] at hca
      | succ n =>
        refine ⟨tAsg (bE F (.Tuple [a, b] k2 p2)) (bG F (.Tuple [.Name x px, .Name y py] k1 p1)), fun X hX => ps_asg (bE_ok hX _) (bG_ok hX _) rfl (par_no hF hX hp) rfl, ?_⟩
        refine asg_ok (snd (n + 2)) hF ?_ ?_ R rl h
        · unfold ckT
          simp only [ckTs, noSt, ckT, hi, hj, hlx, hly, decide_true, Bool.and_self]
        · unfold ckE
          simp only [ckAll, ha, hb, hca, hcb, Bool.and_self, List.length_cons, List.length_nil]
          rfl
  case h_4 =>
    rename_i t e pos ct c hh1 hh2 hn
    cases hn
    simp only [Bool.and_eq_true] at hc
    obtain ⟨⟨⟨⟨⟨h1, h2⟩, h3⟩, h4⟩, h5⟩, h6⟩ := hc
    refine ⟨tAsg (bE F e) (bG F t), fun X hX => ps_asg (bE_ok hX e) (bG_ok hX t) ?_ (par_no hF hX h4) ?_, asg_ok S hF h6 h5 R rl h⟩
    · exact sw_no h3
    · rw [assignEach_cons h2]; rfl
  case h_5 =>
    rename_i x px o e pos i p c hn
    cases hn
    simp only [Bool.and_eq_true, decEqOp, decide_eq_true_eq] at hc
    obtain ⟨⟨⟨rfl, hi⟩, hl⟩, he⟩ := hc
    simp only [dS] at h
    split at h
    · rename_i d ed
      obtain ⟨v, hv, rv⟩ := rl.2 i d ed
      refine ⟨tAug i (bE F e) (bOp F (inplaceOp o)), fun X hX => ?_, v, hv, S.sE hF he R rl (h.to fun d2 m1 ρ1 H1 w R1 p1 x1 r1 h1 => ?_)⟩
      · obtain ⟨h1, h2⟩ := hF.loc hl hX
        exact ps_aug (by rw [hF.eN X hX]; exact hF.nd) (by rw [hF.eN X hX]; exact hi) h1 (bE_ok hX e) (bOp_ok hX _) h2
      · refine opA_ok R1 (rv.mono p1 x1) r1 (h1.to fun d3 m2 ρ2 H2 u R2 p2 x2 r2 h2 => ?_)
        exact h2.nx R2 (((rl.mono p1 x1).mono p2 x2).set r2)
    · exact h.elim
  case h_6 =>
    rename_i o i op' p e pos x y q z hn
    cases hn
    simp only [Bool.and_eq_true, decEqOp, decide_eq_true_eq] at hc
    obtain ⟨⟨⟨⟨rfl, hs⟩, ho⟩, hi⟩, he⟩ := hc
    simp only [dS] at h
    refine ⟨tAugS (bE F o) (bE F i) (bE F e) (bGet F) (bOp F (inplaceOp p)) (bPut F), fun X hX => ps_augS (bE_ok hX o) (bE_ok hX i) (bGet_ok hX) (bE_ok hX e) (bOp_ok hX _) (bPut_ok hX) (augS_no hs), ?_⟩
    refine S.sE hF ho R rl (h.to fun d1 m1 ρ1 H1 v1 R1 p1 x1 r1 h1 => ?_)
    refine S.sE hF hi R1 (rl.mono p1 x1) (h1.to fun d2 m2 ρ2 H2 v2 R2 p2 x2 r2 h2 => ?_)
    refine get_ok hF.toFew R2 (r1.mono p2 x2) r2 (h2.to fun d3 m3 ρ3 H3 v3 R3 p3 x3 r3 h3 => ?_)
    refine S.sE hF he R3 (((rl.mono p1 x1).mono p2 x2).mono p3 x3) (h3.to fun d4 m4 ρ4 H4 v4 R4 p4 x4 r4 h4 => ?_)
    refine opA_ok R4 (r3.mono p4 x4) r4 (h4.to fun d5 m5 ρ5 H5 v5 R5 p5 x5 r5 h5 => ?_)
    split at h5
    · rename_i m6 e6
      refine put_ok R5 ((((r1.mono p2 x2).mono p3 x3).mono p4 x4).mono p5 x5) (((r2.mono p3 x3).mono p4 x4).mono p5 x5) r5 e6 fun H' R' x' => ?_
      exact h5 ρ5 H' σV R' (List.prefix_refl _) x' (((((rl.mono p1 x1).mono p2 x2).mono p3 x3).mono p4 x4).mono p5 x5 |>.mono (List.prefix_refl _) x')
    · exact h5.elim
  case h_7 =>
    rename_i e pos c hn
    cases hn
    simp only [Bool.and_eq_true] at hc
    simp only [dS] at h
    exact ⟨tDrop (bE F e), fun X hX => ps_expr (bE_ok hX e) (sw_no hc.1), S.sE hF hc.2 R rl (h.to fun d1 m1 ρ1 H1 v1 R1 p1 x1 r1 h1 => h1.nx R1 (rl.mono p1 x1))⟩
  case h_8 =>
    rename_i e pos c hn
    cases hn
    simp only [dS] at h
    exact ⟨tRet (bE F e), fun X hX => ps_ret (bE_ok hX e), S.sE hF hc R rl (h.to fun d1 m1 ρ1 H1 v1 R1 p1 x1 r1 h1 => h1 ρ1 H1 v1 R1 (List.prefix_refl _) (.refl _) r1)⟩
  case h_9 =>
    simp only [dS] at h
    exact ⟨tRetN, fun X hX => ps_retN, h ρ H .non R (List.prefix_refl _) (.refl _) (by simp only [RV])⟩
  case h_10 =>
    simp only [dS] at h
    exact ⟨tNext, fun X hX => ps_pass, h.nx R rl⟩
  case h_11 =>
    simp only [dS] at h
    exact ⟨tBreak, fun X hX => ps_break, h ρ H σV R (List.prefix_refl _) (.refl _) rl⟩
  case h_12 =>
    simp only [dS] at h
    exact ⟨tCont, fun X hX => ps_continue, h ρ H σV R (List.prefix_refl _) (.refl _) rl⟩
  case h_13 =>
    rename_i t a b pos c x y hn
    cases hn
    simp only [Bool.and_eq_true] at hc
    obtain ⟨⟨ht, ha⟩, hb⟩ := hc
    simp only [dS] at h
    refine ⟨tIfS (bT F t) (bSs F a) (bSs F b), fun X hX => ps_if (bT_ok hX t) (bSs_ok hX a) (bSs_ok hX b), S.sB hF ht R rl (h.to fun d1 m1 ρ1 H1 v1 R1 p1 x1 r1 h1 => ?_)⟩
    subst r1
    cases d1 with
    | true => exact T.ss hF ha R1 (rl.mono p1 x1) h1
    | false => exact T.ss hF hb R1 (rl.mono p1 x1) h1
  case h_14 =>
    rename_i t b pos c x hn
    cases hn
    simp only [Bool.and_eq_true] at hc
    simp only [dS] at h
    exact ⟨tWhile (bT F t) (bSs F b), fun X hX => ps_while (hF.po X hX) (bT_ok hX t) (bSs_ok hX b), while_ok R rl h (fun R rl h => S.sB hF hc.1 R rl h) (fun R rl h => T.ss hF hc.2 R rl h)⟩
  case h_15 =>
    rename_i tg it b pos t i x hn
    cases hn
    simp only [Bool.and_eq_true] at hc
    obtain ⟨⟨⟨hs, hi⟩, ht⟩, hb⟩ := hc
    simp only [dS] at h
    refine ⟨tFor (bI F tg it) (bG F tg) (bSs F b), fun X hX => ps_for (hF.po X hX) (hF.calm X hX) (bI_ok hX tg it) (bG_ok hX tg) (bSs_ok hX b) (fold_no hs), S.sI hF hi R rl (h.to fun p m1 ρ1 H1 J R1 p1 x1 r1 h1 => ?_)⟩
    refine for_ok R1 (rl.mono p1 x1) r1 h1 fun R2 rl2 rv2 h2 => ?_
    exact S.sT hF ht (fun _ => True) true_T trivial R2 rl2 rv2 (h2.to fun σ3 m3 ρ3 H3 σV3 R3 p3 x3 r3 h3 => T.ss hF hb R3 r3.1 h3)
  case h_16 =>
    rename_i x px y py z pz k1 p1 a b c k2 p2 pos i j l u v w hn
    cases hn
    simp only [Bool.and_eq_true, decide_eq_true_eq] at hc
    obtain ⟨⟨⟨⟨⟨⟨⟨⟨⟨⟨⟨⟨hi, hj⟩, hl⟩, ha⟩, hb⟩, hd⟩, hij⟩, hil⟩, hjl⟩, hp⟩, hca⟩, hcb⟩, hcc⟩ := hc
    simp only [dS] at h
    refine ⟨tPar3 i j l (bA F [a, b, c]), fun X hX => ?_, ?_⟩
    · obtain ⟨q1, q2, q3, q4⟩ := par_yes3 hF hX ha hb hd hp
      exact ps_par3 (hF.calm X hX) (by rw [hF.eN X hX]; exact hF.nd) (by rw [hF.eN X hX]; exact hi) (by rw [hF.eN X hX]; exact hj) (by rw [hF.eN X hX]; exact hl) hij hil hjl (hF.local_ q2 hX) (hF.local_ q3 hX) (hF.local_ q4 hX) (bA_ok hX _) q1 rfl
    · refine ⟨tCons (bE F a) (bA F [b, c]), fun X hX => pa_cons (bE_ok hX a) (bA_ok hX [b, c]) (starEach_cons ha), S.sE hF hca R rl (h.to fun d1 m1 ρ1 H1 v1 R1 p1 x1 r1 h1 => ?_)⟩
      refine ⟨tCons (bE F b) (bA F [c]), fun X hX => pa_cons (bE_ok hX b) (bA_ok hX [c]) (starEach_cons hb), S.sE hF hcb R1 (rl.mono p1 x1) (h1.to fun d2 m2 ρ2 H2 v2 R2 p2 x2 r2 h2 => ?_)⟩
      refine ⟨tCons (bE F c) (bA F []), fun X hX => pa_cons (bE_ok hX c) (bA_ok hX []) (starEach_cons hd), S.sE hF hcc R2 ((rl.mono p1 x1).mono p2 x2) (h2.to fun d3 m3 ρ3 H3 v3 R3 p3 x3 r3 h3 => ?_)⟩
      refine ⟨_, fun X hX => pa_nil, ?_⟩
      exact ⟨_, _, _, rfl, h3 ρ3 H3 _ R3 (List.prefix_refl _) (.refl _) (((((((rl.mono p1 x1).mono p2 x2).mono p3 x3).set ((r1.mono p2 x2).mono p3 x3)).set (r2.mono p3 x3)).set r3))⟩
  case h_17 => cases hc
theorem ss_succ (T : SndS K mg Γ G N k n) (hF : Fam K mg Γ G N k sc F) {s : List Stmt} {cs : CSs} (hc : ckSs N (n + 1) sc s cs = true) {σ : Loc} {σV : L2.St} (R : Rel K ρ m H) (rl : RL K ρ H σ σV)
    (h : PostS K ρ H Z (dSs Γ G cs σ m)) : bSs F s Z σV H := by
  unfold ckSs at hc
  split at hc
  case h_1 => cases hc
  case h_2 =>
    simp only [dSs] at h
    exact ⟨_, fun X hX => pss_nil, h.nx R rl⟩
  case h_3 =>
    rename_i s ss c cs hn
    cases hn
    simp only [Bool.and_eq_true] at hc
    simp only [dSs] at h
    refine ⟨_, fun X hX => pss_cons (bS_ok hX s) (bSs_ok hX ss), ?_⟩
    refine T.s hF hc.1 R rl ?_
    cases e : dS Γ G c σ m with
    | bad => rw [e] at h; exact h
    | ex => rw [e] at h; exact h
    | nx σ3 m3 => rw [e] at h; exact fun ρ3 H3 σV3 R3 p3 x3 r3 => T.ss hF hc.2 R3 r3 (h.mono p3 x3)
    | ct σ3 m3 => rw [e] at h; exact h
    | bk σ3 m3 => rw [e] at h; exact h
    | rt d m3 => rw [e] at h; exact h
  case h_4 => cases hc
theorem sndS (n : Nat) : SndS K mg Γ G N k n := by
  induction n with
  | zero =>
    constructor
    · intro sc F hF e ce h; simp [ckS] at h
    · intro sc F hF e ce h; simp [ckSs] at h
  | succ n ih =>
    exact ⟨fun hF _ _ h _ _ _ _ _ _ R rl p => s_succ ih hF h R rl p, fun hF _ _ h _ _ _ _ _ _ R rl p => ss_succ ih hF h R rl p⟩
end
end PC

/-! PTop: a table of defs, each read as its core; the promise of each at every depth; the law's end. -/
namespace PC
open PySem L2 Classical
structure FD where
  name : Str
  st : Stmt
  N : List Str
  ps : List Str
  fuel : Nat
  body : CSs
  defs : List PC.D
def scB (N ps : List Str) (sc : Scope) : Bool :=
  decide (sc.kind = .function) && decide (sc.isCoroutine = false) && decide (sc.isGenerator = false) && decide N.Nodup && decide (N.take ps.length = ps) &&
    ps.all (fun x => decide (sc.names.lookup x = some .local) || decide (sc.names.lookup x = some .cell)) && sc.names.all (fun y => !decide (y.2 = .free))
theorem scB_ok {N ps : List Str} {sc : Scope} (h : scB N ps sc = true) : FnScope N ps sc := by
  simp only [scB, Bool.and_eq_true, decide_eq_true_eq, List.all_eq_true, Bool.or_eq_true, Bool.not_eq_true', decide_eq_false_iff_not] at h
  obtain ⟨⟨⟨⟨⟨⟨h1, h2⟩, h3⟩, h4⟩, h5⟩, h6⟩, h7⟩ := h
  exact ⟨h1, h2, h3, h4, h5, h6, h7⟩
/-- the def is what its core says -/
def FD.okB (f : FD) : Bool := scB f.N f.ps (defScope f.st) && ckSs f.N f.fuel (defScope f.st).names (defBody f.st) f.body
def FD.toDef (f : FD) : Def := ⟨f.ps.length, f.N.length, f.body, f.defs⟩
def tabP (t : List FD) : Str → Option Def := fun x => (t.find? fun f => f.name == x).map FD.toDef
/-- the def stands in the module -/
structure InW (K : PySem.W.Frag) (mg : Str → Option Value) (f : FD) : Prop where
  ex : ∃ a fd dvs, mg f.name = some (.ref a) ∧ FunD K f.name f.name (defArgs f.st) (defBody f.st) (defScope f.st) dvs [] a fd ∧ (∀ ρ H, RVs K ρ H f.defs dvs) ∧ ∀ n, n ≤ f.ps.length → f.ps.length ≤ n + f.defs.length → ∃ ds, Vals (dvs.drop (n + f.defs.length - f.ps.length)) ds ∧ Binds K fd f.ps ds
/-- .. without defaults -/
theorem FunD.of0 {K : PySem.W.Frag} {x qual : Str} {st : Stmt} {a : Addr} {fd : FuncData} (h2 : Fun K x qual st a fd) : FunD K x qual (defArgs st) (defBody st) (defScope st) [] [] a fd := by
  obtain ⟨oc, od, kV, doc, pm, an, cdv, ct, osl, e, l, c⟩ := h2.ex
  exact ⟨⟨oc, od, .none, kV, doc, pm, an, cdv, ct, osl, e, by rw [e] at l ⊢; exact l, c, .inl ⟨rfl, rfl⟩, .inl rfl⟩, h2.kp⟩
theorem InW.of0 {K : PySem.W.Frag} {mg : Str → Option Value} {f : FD} {a : Addr} {fd : FuncData} (h0 : f.defs = []) (h1 : mg f.name = some (.ref a)) (h2 : Fun K f.name f.name f.st a fd) (h3 : Binds K fd f.ps []) : InW K mg f := by
  refine ⟨a, fd, [], h1, FunD.of0 h2, fun ρ H => by rw [h0]; simp [RVs], fun n hn hm => ⟨[], by simp; exact .nil, h3⟩⟩
section
variable {P : Program} {w : World} {K : PySem.W.Frag} {mg : Str → Option Value} {base : Heap} {G : Str → Option PC.D} {t : List FD}
theorem fin_post {m : Mem} {ρ : List Addr} {H : Hp} {Q : VK} (R : Rel K ρ m H) : ∀ {r : SR}, Post K (RV K) ρ H Q (fin m r) → PostS K ρ H { nx := fun _ H' => Q .non H', rt := Q } r
  | .nx σ m1, h => fun ρ' H' σV R' p x rl => by
    simp only [fin] at h
    cases e : gcD m .none m1 with
    | bad => rw [e] at h; exact h.elim
    | ex => rw [e] at h; exact h.elim
    | ok d' m' =>
      rw [e] at h
      obtain ⟨ρ2, R2, p2, r2⟩ := gc_ok (v := V.non) R R' p (by simp only [RV]) e
      exact h ρ2 H' _ R2 p2 x r2
  | .rt d m1, h => fun ρ' H' v R' p x rv => by
    simp only [fin] at h
    cases e : gcD m d m1 with
    | bad => rw [e] at h; exact h.elim
    | ex => rw [e] at h; exact h.elim
    | ok d' m' =>
      rw [e] at h
      obtain ⟨ρ2, R2, p2, r2⟩ := gc_ok R R' p rv e
      exact h ρ2 H' _ R2 p2 x r2
  | .bad, h => h.elim
  | .bk _ _, h => h.elim
  | .ct _ _, h => h.elim
  | .ex _ _ _, h => h.elim
theorem start_rl {N : List Str} {ρ : List Addr} {H : Hp} {ds : List PC.D} {vs : List V} (r : RVs K ρ H ds vs) : RL K ρ H (ds.map some ++ List.replicate (N.length - ds.length) none) (start N vs) := by
  have hl := r.len
  refine ⟨by simp [L2.start, hl], fun i d e => ?_⟩
  by_cases hi : i < ds.length
  · rw [List.getElem?_append_left (by simpa using hi), List.getElem?_map] at e
    cases e2 : ds[i]? with
    | none => rw [e2] at e; simp at e
    | some d' =>
      rw [e2] at e; simp at e; subst e
      obtain ⟨u, hu, ru⟩ := r.get e2
      refine ⟨u, ?_, ru⟩
      unfold L2.start
      rw [List.getElem?_append_left (by simp; exact (List.getElem?_eq_some_iff.mp hu).1), List.getElem?_map, hu]; rfl
  · rw [List.getElem?_append_right (by simpa using hi)] at e
    rw [List.getElem?_replicate] at e
    split at e <;> simp at e
/-- THE PROMISE of every def of the table, at every depth -/
theorem tab_ok (hok : t.all FD.okB = true) (hin : ∀ f ∈ t, InW K mg f) (hG : ∀ x d, G x = some d → ∃ u v, mg x = some u ∧ RelV v u ∧ ∀ ρ H, RV K ρ H d v) (hb : ∀ x ∈ bltN, mg x = none) :
    ∀ (k : Nat) (f : FD), (t.find? fun g => g.name == f.name) = some f → ∀ a fd dvs, FunD K f.name f.name (defArgs f.st) (defBody f.st) (defScope f.st) dvs [] a fd → FnOk P w K mg base CX0 k a fd f.ps (spI K f.ps.length (runF (tabP t) G k f.name))
  | 0, f, hf, a, fd, _, Fn => ⟨fun vs H Q E h => h.1, fun A outer s H args us vs Q E hr he hbd hv hs => by
      obtain ⟨_, ds, m, ρ, R, r, h⟩ := hs
      simp only [runF] at h
      exact h.elim⟩
  | k + 1, f, hf, a, fd, _, Fn => by
    have hmem : f ∈ t := List.mem_of_find?_eq_some hf
    have hk := List.all_eq_true.mp hok f hmem
    simp only [FD.okB, Bool.and_eq_true] at hk
    have S := scB_ok hk.1
    refine Fn.ok S (fun vs H Q E h => h.1) (fun cdv A outer s H vs Q E hr h => ?_)
    obtain ⟨hl, ds, m, ρ, R, r, h⟩ := h
    have hp : tabP t f.name = some f.toDef := by simp only [tabP, hf, Option.map_some]
    simp only [runF, hp, FD.toDef] at h
    have hds : ds.length = f.ps.length := by rw [← hl, r.len]
    rw [if_pos ⟨by omega, by omega⟩, show ds.length + f.defs.length - f.ps.length = f.defs.length by omega, List.drop_length, List.append_nil] at h
    have hF : Fam K mg (runF (tabP t) G k) G f.N k (defScope f.st).names (fun X => X = (cxOf CX0 P w K mg base f.N f.name (defScope f.st) a cdv A outer s H E).nox) := {
      eK := fun X hX => by subst hX; rfl
      calm := fun X hX => by subst hX; rfl
      un := fun X hX => by subst hX; have := hr.un; show (A.deeper _).units + 200 < _; omega
      eg := fun X hX => by subst hX; rfl
      eN := fun X hX => by subst hX; rfl
      nd := S.nd
      kind := fun X hX => by subst hX; exact S.kind
      lk := fun X hX x => by subst hX; exact .inl rfl
      fn := fun X hX x _ => by subst hX; exact .inl rfl
      po := fun X hX => by subst hX; exact .never
      room := fun X hX => by subst hX; exact hr
      glob := hG
      blt := hb
      calls := fun g ds m hne => by
        cases k with
        | zero => exact absurd rfl hne
        | succ k =>
          cases e : t.find? (fun g' => g'.name == g) with
          | none => exact absurd (by simp [runF, tabP, e]) hne
          | some f' =>
            have hn : f'.name = g := by simpa using List.find?_some e
            subst hn
            obtain ⟨a', fd', dvs', h1, F', h4, h3⟩ := (hin f' (List.mem_of_find?_eq_some e)).ex
            have hh : ds.length ≤ f'.ps.length ∧ f'.ps.length ≤ ds.length + f'.defs.length := by
              simp only [runF, tabP, e, Option.map_some, FD.toDef] at hne
              by_cases hh : ds.length ≤ f'.ps.length ∧ f'.ps.length ≤ ds.length + f'.defs.length
              · exact hh
              · rw [if_neg hh] at hne; exact absurd rfl hne
            obtain ⟨dsV, hV, hB⟩ := h3 ds.length hh.1 hh.2
            have hld : dvs'.length = f'.defs.length := by
              have := (h4 [] (fun _ => none)).len
              exact this
            refine ⟨a', fd', f'.ps, f'.defs.drop (ds.length + f'.defs.length - f'.ps.length), _, dsV, ?_, h1, F'.kp, hB, hV, fun ρ H => (h4 ρ H).drop _, ?_, fun X hX => by subst hX; exact tab_ok hok hin hG hb (k + 1) f' e a' fd' dvs' F'⟩
            · rw [List.length_drop, hld]; omega
            · have hl2 : (ds ++ f'.defs.drop (ds.length + f'.defs.length - f'.ps.length)).length = f'.ps.length := by rw [List.length_append, List.length_drop]; omega
              simp only [runF, tabP, e, Option.map_some, FD.toDef]
              rw [if_pos hh, if_pos ⟨by omega, by omega⟩, hl2, show f'.ps.length + f'.defs.length - f'.ps.length = f'.defs.length by omega, List.drop_length, List.append_nil] }
    obtain ⟨tt, ht, q⟩ := (sndS f.fuel).ss hF hk.2 (Z := { nx := fun _ H' => Q .non H', rt := Q }) R (start_rl (N := f.N) r) (fin_post R (by rw [← hds] at h; exact h))
    exact ⟨tt, (ht _ rfl).nox, q⟩
/-- the law's promise -/
theorem law_sp {n : Str} {k : Nat} {H : Hp} {a : Addr} {ns : List Int} (hs : SqL K H a (ns.map V.int)) (hO : Only H)
    (h : ∃ m, runF (tabP t) G k n [.kl (ns.map .int)] [] = .ok (.bool true) m) : spI K 1 (runF (tabP t) G k n) [.ref a] H (fun v _ => v = .bl true) fun _ _ _ => False := by
  obtain ⟨m, h⟩ := h
  refine ⟨rfl, [.kl (ns.map .int)], [], [], ⟨rfl, by simp, fun i o e => by simp at e⟩, ?_, ?_⟩
  · simp only [RVs, RV]
    refine ⟨.ref a, [], rfl, ⟨a, ns.map V.int, rfl, ?_, ?_⟩, rfl⟩
    · rcases hs with (hs | ⟨o, hs⟩) | hs
      · rcases hO a with e | ⟨o, xs, e⟩
        · rw [e] at hs; cases hs
        · rw [e] at hs; cases hs
      · exact .inl ⟨o, hs⟩
      · exact .inr hs
    · clear h hs
      induction ns with
      | nil => simp only [List.map_nil, RVs]
      | cons i ns ih => simp only [List.map_cons, RVs]; exact ⟨_, _, rfl, by simp only [RV], ih⟩
  · rw [h]
    exact fun ρ' H' b R p x r => by simpa only [RV] using r
end
end PC

/-! PWp: how a core is run: what is wanted of a run's end. -/
namespace PC
open PySem L2 Classical
def Res.wp {α : Type} (r : Res α) (Q : α → Mem → Prop) : Prop := match r with | .ok a m => Q a m | _ => False
def SR.wp (r : SR) (N : Loc → Mem → Prop) (R : D → Mem → Prop) (B C : Loc → Mem → Prop) : Prop :=
  match r with | .nx σ m => N σ m | .rt d m => R d m | .bk σ m => B σ m | .ct σ m => C σ m | _ => False
section
variable {α β : Type} {Q Q' : α → Mem → Prop} {N N' B B' C C' : Loc → Mem → Prop} {R R' : D → Mem → Prop}
@[simp] theorem wp_ok {a : α} {m : Mem} : (Res.ok a m).wp Q = Q a m := rfl
@[simp] theorem wp_bad : (Res.bad : Res α).wp Q = False := rfl
@[simp] theorem wp_ex {e m} : (Res.ex e m : Res α).wp Q = False := rfl
@[simp] theorem wp_bind {r : Res β} {f : β → Mem → Res α} : (r.bind f).wp Q = r.wp fun a m => (f a m).wp Q := by cases r <;> rfl
@[simp] theorem wp_to {r : Res β} {σ : Loc} {f : β → Mem → SR} : (r.to σ f).wp N R B C = r.wp fun a m => (f a m).wp N R B C := by cases r <;> rfl
@[simp] theorem swp_nx {σ m} : (SR.nx σ m).wp N R B C = N σ m := rfl
@[simp] theorem swp_rt {d m} : (SR.rt d m).wp N R B C = R d m := rfl
@[simp] theorem swp_bk {σ m} : (SR.bk σ m).wp N R B C = B σ m := rfl
@[simp] theorem swp_ct {σ m} : (SR.ct σ m).wp N R B C = C σ m := rfl
@[simp] theorem swp_bad : SR.bad.wp N R B C = False := rfl
@[simp] theorem swp_seq {r : SR} {f : Loc → Mem → SR} : (r.seq f).wp N R B C = r.wp (fun σ m => (f σ m).wp N R B C) R B C := by cases r <;> rfl
@[simp] theorem wp_fin {m0 : Mem} {r : SR} {Q : D → Mem → Prop} : (fin m0 r).wp Q = r.wp (fun _ m => (gcD m0 .none m).wp Q) (fun d m => (gcD m0 d m).wp Q) (fun _ _ => False) (fun _ _ => False) := by cases r <;> rfl
theorem Res.wp.imp {r : Res α} (h : r.wp Q) (k : ∀ a m, Q a m → Q' a m) : r.wp Q' := by
  cases r with
  | ok a m => exact k a m h
  | bad => exact h
  | ex => exact h
theorem SR.wp.imp {r : SR} (h : r.wp N R B C) (n : ∀ σ m, N σ m → N' σ m) (rt : ∀ d m, R d m → R' d m) (b : ∀ σ m, B σ m → B' σ m) (c : ∀ σ m, C σ m → C' σ m) : r.wp N' R' B' C' := by
  cases r with
  | nx σ m => exact n σ m h
  | rt d m => exact rt d m h
  | bk σ m => exact b σ m h
  | ct σ m => exact c σ m h
  | bad => exact h
  | ex => exact h
theorem wp_eq {r : Res α} {a : α} {m : Mem} (h : r.wp fun b m' => b = a ∧ m' = m) : r = .ok a m := by
  cases r with
  | ok b m' => obtain ⟨rfl, rfl⟩ := h; rfl
  | bad => exact h.elim
  | ex => exact h.elim
theorem wp_ex_eq {r : Res α} (h : r.wp Q) : ∃ a m, r = .ok a m ∧ Q a m := by
  cases r with
  | ok b m' => exact ⟨b, m', rfl, h⟩
  | bad => exact h.elim
  | ex => exact h.elim
theorem wp_of {r : Res α} {a : α} {m : Mem} (e : r = .ok a m) (h : Q a m) : r.wp Q := by rw [e]; exact h
/-- a while, with what holds ahead of each turn and what gets smaller -/
theorem while_wp {c : Loc → Mem → Res Bool} {b : Loc → Mem → SR} (I : Nat → Loc → Mem → Prop) {n : Nat} {σ : Loc} {m : Mem} (h0 : I n σ m)
    (hs : ∀ n σ m, I n σ m → (c σ m).wp fun t m1 => if t = true then (b σ m1).wp (fun σ' m' => ∃ n', n' < n ∧ I n' σ' m') R N (fun σ' m' => ∃ n', n' < n ∧ I n' σ' m') else N σ m1) :
    (whileD c b σ m).wp N R B C := by
  have key : ∀ n σ m, I n σ m → ∃ k, (whileN c b k σ m).wp N R B C := by
    intro n
    induction n using Nat.strongRecOn with
    | ind n ih =>
      intro σ m h
      have h1 := hs n σ m h
      obtain ⟨t, m1, e1, h2⟩ := wp_ex_eq h1
      cases t with
      | false => exact ⟨1, by simp only [whileN, e1, Res.ok_to]; simpa using h2⟩
      | true =>
        simp only [if_true] at h2
        cases e2 : b σ m1 with
        | nx σ' m' =>
          rw [e2] at h2
          obtain ⟨n', hn, hI⟩ := h2
          obtain ⟨k, hk⟩ := ih n' hn σ' m' hI
          exact ⟨k + 1, by simp only [whileN, e1, Res.ok_to, e2]; exact hk⟩
        | ct σ' m' =>
          rw [e2] at h2
          obtain ⟨n', hn, hI⟩ := h2
          obtain ⟨k, hk⟩ := ih n' hn σ' m' hI
          exact ⟨k + 1, by simp only [whileN, e1, Res.ok_to, e2]; exact hk⟩
        | bk σ' m' => rw [e2] at h2; exact ⟨1, by simp only [whileN, e1, Res.ok_to, e2]; exact h2⟩
        | rt d m' => rw [e2] at h2; exact ⟨1, by simp only [whileN, e1, Res.ok_to, e2]; exact h2⟩
        | bad => rw [e2] at h2; exact h2.elim
        | ex => rw [e2] at h2; exact h2.elim
  obtain ⟨k, hk⟩ := key n σ m h0
  have mono : ∀ k j σ m, whileN c b k σ m ≠ .bad → k ≤ j → whileN c b j σ m = whileN c b k σ m := by
    intro k
    induction k with
    | zero => intro j σ m h; exact absurd rfl h
    | succ k ih =>
      intro j σ m h hj
      cases j with
      | zero => omega
      | succ j =>
        simp only [whileN] at h ⊢
        cases e1 : c σ m with
        | bad => rfl
        | ex => rfl
        | ok t m1 =>
          rw [e1] at h
          simp only [Res.ok_to] at h ⊢
          cases t with
          | false => rfl
          | true =>
            simp only at h ⊢
            cases e2 : b σ m1 with
            | nx σ' m' => rw [e2] at h; exact ih j σ' m' h (by omega)
            | ct σ' m' => rw [e2] at h; exact ih j σ' m' h (by omega)
            | bk σ' m' => rfl
            | rt d m' => rfl
            | bad => rfl
            | ex => rfl
  have hne : ∃ k, whileN c b k σ m ≠ .bad := ⟨k, fun e => by rw [e] at hk; exact hk⟩
  unfold whileD
  rw [dif_pos hne]
  have h1 := choose_spec hne
  have h2 : whileN c b k σ m ≠ .bad := fun e => by rw [e] at hk; exact hk
  rcases Nat.le_total k (choose hne) with h | h
  · rw [mono k _ σ m h2 h]; exact hk
  · rw [← mono _ k σ m h1 h]; exact hk
/-- a for -/
theorem for_wp {gs : List (Nat × List D)} {body : D → Loc → Mem → SR} (I : List D → List D → Loc → Mem → Prop) : ∀ (todo : List D) (done : List D) {σ : Loc} {m : Mem}, I done todo σ m →
    (∀ done todo σ m, I done todo σ m → guardOk gs m) →
    (∀ done x todo σ m, I done (x :: todo) σ m → (body x σ m).wp (I (done ++ [x]) todo) R N (I (done ++ [x]) todo)) →
    (∀ done σ m, I done [] σ m → N σ m) → (forD gs body todo σ m).wp N R B C
  | [], done, σ, m, h, hg, _, hn => by
    unfold forD
    rw [if_pos (hg _ _ _ _ h)]
    exact hn _ _ _ h
  | x :: todo, done, σ, m, h, hg, hs, hn => by
    unfold forD
    rw [if_pos (hg _ _ _ _ h)]
    have h1 := hs _ _ _ _ _ h
    cases e : body x σ m with
    | nx σ' m' => rw [e] at h1; exact for_wp I todo (done ++ [x]) h1 hg hs hn
    | ct σ' m' => rw [e] at h1; exact for_wp I todo (done ++ [x]) h1 hg hs hn
    | bk σ' m' => rw [e] at h1; exact h1
    | rt d m' => rw [e] at h1; exact h1
    | bad => rw [e] at h1; exact h1
    | ex => rw [e] at h1; exact h1
theorem set_at {α : Type} {m j : List α} {x y : α} : (m ++ x :: j).set m.length y = m ++ y :: j := by
  rw [List.set_append]; simp
theorem get_at {α : Type} {m j : List α} {x : α} : (m ++ x :: j)[m.length]? = some x := by simp
/-- a comprehension: what holds of what is made, over a memory that may change -/
theorem comp_wp {gs : List (Nat × List D)} {n : Nat} {body : D → Mem → Res (Option D)} {Q : D → Mem → Prop} (I : List D → List D → List D → Mem → Prop) : ∀ (todo done acc : List D) {m : Mem}, I done todo acc m →
    (∀ done todo acc m, I done todo acc m → guardOk gs m) →
    (∀ done x todo acc m, I done (x :: todo) acc m → (body x m).wp fun o m1 => match o with
      | none => I (done ++ [x]) todo acc m1
      | some y => m1[n]? = some (.lst acc) ∧ acc.length < sizeLine ∧ I (done ++ [x]) todo (acc ++ [y]) (m1.set n (.lst (acc ++ [y])))) →
    (∀ done acc m, I done [] acc m → Q (.ref n) m) → (compD gs n body todo m).wp Q
  | [], done, acc, m, h, hg, _, hn => by
    unfold compD
    rw [if_pos (hg _ _ _ _ h)]
    exact hn _ _ _ h
  | x :: todo, done, acc, m, h, hg, hs, hn => by
    unfold compD
    rw [if_pos (hg _ _ _ _ h)]
    rw [wp_bind]
    refine (hs _ _ _ _ _ h).imp fun o m1 h1 => ?_
    cases o with
    | none => exact comp_wp I todo _ _ h1 hg hs hn
    | some y =>
      obtain ⟨e, hl, h2⟩ := h1
      simp only [e, if_lo hl]
      exact comp_wp I todo _ _ h2 hg hs hn
/-- a comprehension whose parts leave the memory as it is -/
theorem comp_pure {gs : List (Nat × List D)} {m : Mem} {n : Nat} (hn : n = m.length) {body : D → Mem → Res (Option D)} {f : D → Option D} {xs : List D}
    (hg : ∀ acc, guardOk gs (m ++ [.lst acc])) (hb : ∀ x ∈ xs, ∀ acc, body x (m ++ [.lst acc]) = .ok (f x) (m ++ [.lst acc])) (hl : xs.length ≤ sizeLine) :
    compD gs n body xs (m ++ [.lst []]) = .ok (.ref n) (m ++ [.lst (xs.filterMap f)]) := by
  subst hn
  have key : ∀ (ys acc : List D), (∀ x ∈ ys, x ∈ xs) → acc.length + ys.length ≤ sizeLine → compD gs m.length body ys (m ++ [.lst acc]) = .ok (.ref m.length) (m ++ [.lst (acc ++ ys.filterMap f)]) := by
    intro ys
    induction ys with
    | nil => intro acc _ _; unfold compD; rw [if_pos (hg acc)]; simp
    | cons y ys ih =>
      intro acc hy hh
      simp only [List.length_cons] at hh
      unfold compD
      rw [if_pos (hg acc), hb y (hy y (by simp)) acc]
      simp only [Res.ok_bind]
      cases e : f y with
      | none => simp only [List.filterMap_cons, e]; exact ih acc (fun x hx => hy x (by simp [hx])) (by omega)
      | some z =>
        have h1 : (m ++ [MO.lst acc])[m.length]? = some (.lst acc) := get_at
        have h2 : (m ++ [MO.lst acc]).set m.length (.lst (acc ++ [z])) = m ++ [.lst (acc ++ [z])] := set_at
        simp only [h1, if_lo (show acc.length < sizeLine by omega), h2, List.filterMap_cons, e]
        rw [ih (acc ++ [z]) (fun x hx => hy x (by simp [hx])) (by simp; omega)]
        simp
  have := key xs [] (fun _ h => h) (by simpa using hl)
  simpa using this
theorem filterMap_some {α β : Type} {f : α → Option β} {g : α → β} {xs : List α} (h : ∀ x ∈ xs, f x = some (g x)) : xs.filterMap f = xs.map g := by
  induction xs with
  | nil => rfl
  | cons x xs ih => rw [List.filterMap_cons, h x (by simp)]; simp [ih fun y hy => h y (by simp [hy])]
/-- .. no test -/
theorem comp_map {gs : List (Nat × List D)} {m : Mem} {n : Nat} (hn : n = m.length) {body : D → Mem → Res (Option D)} {f : D → D} {xs : List D}
    (hg : ∀ acc, guardOk gs (m ++ [.lst acc])) (hb : ∀ x ∈ xs, ∀ acc, body x (m ++ [.lst acc]) = .ok (some (f x)) (m ++ [.lst acc])) (hl : xs.length ≤ sizeLine) :
    compD gs n body xs (m ++ [.lst []]) = .ok (.ref n) (m ++ [.lst (xs.map f)]) := by
  rw [comp_pure hn (f := fun x => some (f x)) hg hb hl, filterMap_some fun _ _ => rfl]
/-- a for over things that stand for others; what holds behind the turns that are done -/
theorem for_wpL {α : Type} {gs : List (Nat × List D)} {body : D → Loc → Mem → SR} {e : α → D} {ys : List α} (I : List α → Loc → Mem → Prop) {σ : Loc} {m : Mem} (h0 : I [] σ m)
    (hg : ∀ done σ m, I done σ m → guardOk gs m)
    (hs : ∀ done y σ m, y ∈ ys → done ++ [y] <+: ys → I done σ m → (body (e y) σ m).wp (I (done ++ [y])) R N (I (done ++ [y])))
    (hn : ∀ σ m, I ys σ m → N σ m) : (forD gs body (ys.map e) σ m).wp N R B C := by
  have key : ∀ (todo done : List α) {σ m}, done ++ todo = ys → I done σ m → (forD gs body (todo.map e) σ m).wp N R B C := by
    intro todo
    induction todo with
    | nil =>
      intro done σ m hd h
      simp only [List.map_nil]
      unfold forD
      rw [if_pos (hg _ _ _ h)]
      simp only [List.append_nil] at hd
      subst hd
      exact hn _ _ h
    | cons y todo ih =>
      intro done σ m hd h
      simp only [List.map_cons]
      unfold forD
      rw [if_pos (hg _ _ _ h)]
      have hd' : (done ++ [y]) ++ todo = ys := by simpa using hd
      have h1 := hs done y σ m (by rw [← hd]; simp) ⟨todo, hd'⟩ h
      cases e2 : body (e y) σ m with
      | nx σ' m' => rw [e2] at h1; exact ih (done ++ [y]) hd' h1
      | ct σ' m' => rw [e2] at h1; exact ih (done ++ [y]) hd' h1
      | bk σ' m' => rw [e2] at h1; exact h1
      | rt d m' => rw [e2] at h1; exact h1
      | bad => rw [e2] at h1; exact h1
      | ex => rw [e2] at h1; exact h1
  exact key ys [] (by simp) h0
/-- a comprehension over things that stand for others -/
theorem comp_wpL {α : Type} {gs : List (Nat × List D)} {n : Nat} {body : D → Mem → Res (Option D)} {Q : D → Mem → Prop} {e : α → D} {ys : List α} (I : List α → List D → Mem → Prop) {m : Mem} (h0 : I [] [] m)
    (hg : ∀ done acc m, I done acc m → guardOk gs m)
    (hs : ∀ done y acc m, y ∈ ys → done ++ [y] <+: ys → I done acc m → (body (e y) m).wp fun o m1 => match o with
      | none => I (done ++ [y]) acc m1
      | some z => m1[n]? = some (.lst acc) ∧ acc.length < sizeLine ∧ I (done ++ [y]) (acc ++ [z]) (m1.set n (.lst (acc ++ [z]))))
    (hn : ∀ acc m, I ys acc m → Q (.ref n) m) : (compD gs n body (ys.map e) m).wp Q := by
  have key : ∀ (todo done : List α) (acc : List D) {m}, done ++ todo = ys → I done acc m → (compD gs n body (todo.map e) m).wp Q := by
    intro todo
    induction todo with
    | nil =>
      intro done acc m hd h
      simp only [List.map_nil]
      unfold compD
      rw [if_pos (hg _ _ _ h)]
      simp only [List.append_nil] at hd
      subst hd
      exact hn _ _ h
    | cons y todo ih =>
      intro done acc m hd h
      simp only [List.map_cons]
      unfold compD
      rw [if_pos (hg _ _ _ h), wp_bind]
      have hd' : (done ++ [y]) ++ todo = ys := by simpa using hd
      refine (hs done y acc m (by rw [← hd]; simp) ⟨todo, hd'⟩ h).imp fun o m1 h1 => ?_
      cases o with
      | none => exact ih (done ++ [y]) acc hd' h1
      | some z =>
        obtain ⟨e2, hl, h2⟩ := h1
        simp only [e2, if_lo hl]
        exact ih (done ++ [y]) (acc ++ [z]) hd' h2
  exact key ys [] [] (by simp) h0
@[simp] theorem guard_nil {m : Mem} : guardOk [] m = True := by simp [guardOk]
@[simp] theorem guard_one {m : Mem} {n : Nat} {xs : List D} : guardOk [(n, xs)] m = (m[n]? = some (.lst xs)) := by simp [guardOk]
/-! ### forgetting -/
theorem gc_same {m0 j : Mem} {d : D} (h : below m0.length d = true) : gcD m0 d (m0 ++ j) = .ok d m0 := by
  unfold gcD
  have : oldOk m0 (m0 ++ j) := ⟨by simp, fun i hi => .inl (by rw [List.getElem?_append_left hi])⟩
  rw [if_pos this, if_pos h]; simp
theorem gc_id {m0 : Mem} {d : D} (h : below m0.length d = true) : gcD m0 d m0 = .ok d m0 := by
  have := gc_same (m0 := m0) (j := []) h
  simpa using this
theorem gc_new {m0 : Mem} {o : MO} (h : o.below m0.length = true) : gcD m0 (.ref m0.length) (m0 ++ [o]) = .ok (.ref m0.length) (m0 ++ [o]) := by
  unfold gcD
  have : oldOk m0 (m0 ++ [o]) := ⟨by simp, fun i hi => .inl (by rw [List.getElem?_append_left hi])⟩
  rw [if_pos this, if_neg (by simp [below])]
  simp [h]
theorem gc_new2 {m0 : Mem} {o : MO} {j : Mem} {n : Nat} (hn : (m0 ++ j)[n]? = some o) (hm : m0.length ≤ n) (h : o.below m0.length = true) : gcD m0 (.ref n) (m0 ++ j) = .ok (.ref m0.length) (m0 ++ [o]) := by
  unfold gcD
  have : oldOk m0 (m0 ++ j) := ⟨by simp, fun i hi => .inl (by rw [List.getElem?_append_left hi])⟩
  rw [if_pos this, if_neg (by simp [below]; omega)]
  simp [hn, h]
@[simp] theorem belows_ints {n : Nat} {xs : List Int} : belows n (xs.map .int) = true := by
  induction xs with
  | nil => rfl
  | cons x xs ih => simp [belows, below, ih]
theorem belows_all {n : Nat} {xs : List D} (h : ∀ x ∈ xs, below n x = true) : belows n xs = true := by
  induction xs with
  | nil => rfl
  | cons x xs ih => simp only [belows, Bool.and_eq_true]; exact ⟨h x (by simp), ih fun y hy => h y (by simp [hy])⟩
theorem intsD_map {xs : List Int} : intsD (xs.map .int) = some xs := by
  induction xs with
  | nil => rfl
  | cons x xs ih => simp [intsD, ih]
theorem boolsD_map {xs : List Bool} : boolsD (xs.map .bool) = some xs := by
  induction xs with
  | nil => rfl
  | cons x xs ih => simp [boolsD, ih]
end
end PC

/-! PSim: the rules by which a core is run step by step. -/
namespace PC
open PySem L2 Classical
section
variable {Γ : Fn} {G : Str → Option D} {σ : Loc} {m : Mem}
@[simp] theorem dE_var {i} : dE Γ G (.var i) σ m = match σ[i]? with | some (some d) => .ok d m | _ => .bad := by simp only [dE] <;> rfl
@[simp] theorem dE_lit {d} : dE Γ G (.lit d) σ m = .ok d m := by simp only [dE] <;> rfl
@[simp] theorem dE_glob {x} : dE Γ G (.glob x) σ m = match G x with | some d => .ok d m | none => .bad := by simp only [dE] <;> rfl
@[simp] theorem dE_bin {o a b} : dE Γ G (.bin o a b) σ m = (dE Γ G a σ m).bind fun x m1 => (dE Γ G b σ m1).bind fun y m2 => opB o x y m2 := by simp only [dE] <;> rfl
@[simp] theorem dE_neg {a} : dE Γ G (.neg a) σ m = (dE Γ G a σ m).bind fun x m1 => match x with | .int i => .ok (.int (-i)) m1 | _ => .bad := by simp only [dE] <;> rfl
@[simp] theorem dE_inv {a} : dE Γ G (.inv a) σ m = (dE Γ G a σ m).bind fun x m1 => match x with | .int i => .ok (.int (Builtin.bitNot i)) m1 | _ => .bad := by simp only [dE] <;> rfl
@[simp] theorem dE_cmp {o a b} : dE Γ G (.cmp o a b) σ m = (dE Γ G a σ m).bind fun x m1 => (dE Γ G b σ m1).bind fun y m2 => opC o x y m2 := by simp only [dE] <;> rfl
@[simp] theorem dE_chain {o o' a b c} : dE Γ G (.chain o o' a b c) σ m = (dE Γ G a σ m).bind fun x m1 => (dE Γ G b σ m1).bind fun y m2 => (opC o x y m2).bind fun z m3 =>
      match z with
      | .bool true => (dE Γ G c σ m3).bind fun w m4 => opC o' y w m4
      | .bool false => .ok (.bool false) m3
      | _ => .bad := by simp only [dE] <;> rfl
@[simp] theorem dE_and {a b} : dE Γ G (.and a b) σ m = (dE Γ G a σ m).bind fun x m1 => match truD m1 x with
      | some true => dE Γ G b σ m1
      | some false => .ok x m1
      | none => .bad := by simp only [dE] <;> rfl
@[simp] theorem dE_or {a b} : dE Γ G (.or a b) σ m = (dE Γ G a σ m).bind fun x m1 => match truD m1 x with
      | some true => .ok x m1
      | some false => dE Γ G b σ m1
      | none => .bad := by simp only [dE] <;> rfl
@[simp] theorem dE_not {a} : dE Γ G (.not a) σ m = (dE Γ G a σ m).bind fun x m1 => ofNB (truD m1 x) m1 := by simp only [dE] <;> rfl
@[simp] theorem dE_ife {t a b} : dE Γ G (.ife t a b) σ m = (dB Γ G t σ m).bind fun c m1 => if c = true then dE Γ G a σ m1 else dE Γ G b σ m1 := by simp only [dE] <;> rfl
@[simp] theorem dE_tup {es} : dE Γ G (.tup es) σ m = (dEs Γ G es σ m).bind fun xs m1 => .ok (.tup xs) m1 := by simp only [dE] <;> rfl
@[simp] theorem dE_lst {es} : dE Γ G (.lst es) σ m = (dEs Γ G es σ m).bind fun xs m1 => newL xs m1 := by simp only [dE] <;> rfl
@[simp] theorem dE_idx {a i} : dE Γ G (.idx a i) σ m = (dE Γ G a σ m).bind fun x m1 => (dE Γ G i σ m1).bind fun y m2 => idxD x y m2 := by simp only [dE] <;> rfl
@[simp] theorem dE_slc {a lo hi} : dE Γ G (.slc a lo hi) σ m = (dE Γ G a σ m).bind fun x m1 => (dO Γ G lo σ m1).bind fun l m2 => (dO Γ G hi σ m2).bind fun h m3 => slcD x l h m3 := by simp only [dE] <;> rfl
@[simp] theorem dE_call {f es} : dE Γ G (.call f es) σ m = (dEs Γ G es σ m).bind fun xs m1 => Γ f xs m1 := by simp only [dE] <;> rfl
@[simp] theorem dE_bi {f es} : dE Γ G (.bi f es) σ m = (dEs Γ G es σ m).bind fun xs m1 => biD f xs m1 := by simp only [dE] <;> rfl
@[simp] theorem dE_isin {e T} : dE Γ G (.isin e T) σ m = (dE Γ G e σ m).bind fun x m1 => ofB (isinD m1 T x) m1 := by simp only [dE] <;> rfl
@[simp] theorem dE_meth {f o es} : dE Γ G (.meth f o es) σ m = (dE Γ G o σ m).bind fun x m1 => if mtPre f x m1 = true then (dEs Γ G es σ m1).bind fun xs m2 => mtD f x xs m2 else .bad := by simp only [dE] <;> rfl
@[simp] theorem dE_comp {vs t it c e} : dE Γ G (.comp vs t it c e) σ m = (dI Γ G it σ m).bind fun p m1 =>
      compD p.2 m1.length (fun x m2 => (dT Γ G t x (wipeL σ vs) m2).bind fun σ2 m3 => (dBO Γ G c σ2 m3).bind fun b m4 =>
        if b = true then (dE Γ G e σ2 m4).bind fun y m5 => .ok (some y) m5 else .ok none m4) p.1 (m1 ++ [.lst []]) := by simp only [dE] <;> rfl
@[simp] theorem dE_gc {e} : dE Γ G (.gc e) σ m = (dE Γ G e σ m).bind fun d m1 => gcD m d m1 := by simp only [dE] <;> rfl
@[simp] theorem dE_lrng1 {a} : dE Γ G (.lrng1 a) σ m = (dE Γ G a σ m).bind fun x m1 => match x with | .int j => if Lo (0 ≤ j ∧ j ≤ 16777216) then newL (rngD 0 j) m1 else .bad | _ => .bad := by simp only [dE] <;> rfl
@[simp] theorem dE_lrng2 {a b} : dE Γ G (.lrng2 a b) σ m = (dE Γ G a σ m).bind fun x m1 => (dE Γ G b σ m1).bind fun y m2 => match x, y with
      | .int i, .int j => if Lo (0 ≤ i ∧ i ≤ 16777216 ∧ 0 ≤ j ∧ j ≤ 16777216) then newL (rngD i j) m2 else .bad
      | _, _ => .bad := by simp only [dE] <;> rfl
@[simp] theorem dEs_nil : dEs Γ G .nil σ m = .ok [] m := by simp only [dEs] <;> rfl
@[simp] theorem dEs_cons {e es} : dEs Γ G (.cons e es) σ m = (dE Γ G e σ m).bind fun x m1 => (dEs Γ G es σ m1).bind fun xs m2 => .ok (x :: xs) m2 := by simp only [dEs] <;> rfl
@[simp] theorem dO_none : dO Γ G .none σ m = .ok none m := by simp only [dO] <;> rfl
@[simp] theorem dO_some {e} : dO Γ G (.some e) σ m = (dE Γ G e σ m).bind fun x m1 => match x with | .int i => .ok (some i) m1 | _ => .bad := by simp only [dO] <;> rfl
@[simp] theorem dB_and {a b} : dB Γ G (.and a b) σ m = (dB Γ G a σ m).bind fun t m1 => if t = true then dB Γ G b σ m1 else .ok false m1 := by simp only [dB] <;> rfl
@[simp] theorem dB_or {a b} : dB Γ G (.or a b) σ m = (dB Γ G a σ m).bind fun t m1 => if t = true then .ok true m1 else dB Γ G b σ m1 := by simp only [dB] <;> rfl
@[simp] theorem dB_not {a} : dB Γ G (.not a) σ m = (dB Γ G a σ m).bind fun t m1 => .ok (!t) m1 := by simp only [dB] <;> rfl
@[simp] theorem dB_val {e} : dB Γ G (.val e) σ m = (dE Γ G e σ m).bind truR := by simp only [dB] <;> rfl
@[simp] theorem dBO_none : dBO Γ G .none σ m = .ok true m := by simp only [dBO] <;> rfl
@[simp] theorem dBO_some {t} : dBO Γ G (.some t) σ m = dB Γ G t σ m := by simp only [dBO] <;> rfl
@[simp] theorem dI_plain {e} : dI Γ G (.plain e) σ m = (dE Γ G e σ m).bind fun x m1 => match iterD m1 x with | some p => .ok p m1 | none => .bad := by simp only [dI] <;> rfl
@[simp] theorem dI_rng1 {a} : dI Γ G (.rng1 a) σ m = (dE Γ G a σ m).bind fun x m1 => match x with | .int j => if rngOk j then .ok (rngD 0 j, []) m1 else .bad | _ => .bad := by simp only [dI] <;> rfl
@[simp] theorem dI_rng2 {a b} : dI Γ G (.rng2 a b) σ m = (dE Γ G a σ m).bind fun x m1 => (dE Γ G b σ m1).bind fun y m2 => match x, y with
      | .int i, .int j => if rngOk i ∧ rngOk j then .ok (rngD i j, []) m2 else .bad
      | _, _ => .bad := by simp only [dI] <;> rfl
@[simp] theorem dI_zip {a b} : dI Γ G (.zip a b) σ m = (dE Γ G a σ m).bind fun x m1 => (dE Γ G b σ m1).bind fun y m2 => match iterS m2 x, iterS m2 y with
      | some p, some q => .ok (zipD p.1 q.1, p.2 ++ q.2) m2
      | _, _ => .bad := by simp only [dI] <;> rfl
@[simp] theorem dI_enum {a} : dI Γ G (.enum a) σ m = (dE Γ G a σ m).bind fun x m1 => match iterS m1 x with | some p => .ok (enumD p.1, p.2) m1 | none => .bad := by simp only [dI] <;> rfl
@[simp] theorem dI_rev {a} : dI Γ G (.rev a) σ m = (dE Γ G a σ m).bind fun x m1 => match iterS m1 x with | some p => .ok (p.1.reverse, p.2) m1 | none => .bad := by simp only [dI] <;> rfl
@[simp] theorem dT_name {i d} : dT Γ G (.name i) d σ m = .ok (σ.set i (some d)) m := by simp only [dT] <;> rfl
@[simp] theorem dT_tup {ts d} : dT Γ G (.tup ts) d σ m = match seqOf m d with | some xs => dTs Γ G ts xs σ m | none => .bad := by simp only [dT] <;> rfl
@[simp] theorem dT_sub {o i d} : dT Γ G (.sub o i) d σ m = (dE Γ G o σ m).bind fun x m1 => (dE Γ G i σ m1).bind fun y m2 => match putD x y d m2 with | some m3 => .ok σ m3 | none => .bad := by simp only [dT] <;> rfl
@[simp] theorem dTs_nil : dTs Γ G .nil [] σ m = .ok σ m := by simp only [dTs] <;> rfl
@[simp] theorem dTs_cons {t ts d ds} : dTs Γ G (.cons t ts) (d :: ds) σ m = (dT Γ G t d σ m).bind fun σ1 m1 => dTs Γ G ts ds σ1 m1 := by simp only [dTs] <;> rfl
@[simp] theorem dS_asg {t e} : dS Γ G (.asg t e) σ m = (dE Γ G e σ m).to σ fun x m1 => (dT Γ G t x σ m1).to σ fun σ1 m2 => .nx σ1 m2 := by simp only [dS] <;> rfl
@[simp] theorem dS_aug {i o e} : dS Γ G (.aug i o e) σ m = match σ[i]? with
      | some (some x) => (dE Γ G e σ m).to σ fun y m1 => (opA o x y m1).to σ fun z m2 => .nx (σ.set i (some z)) m2
      | _ => .bad := by simp only [dS] <;> rfl
@[simp] theorem dS_augS {o i p e} : dS Γ G (.augS o i p e) σ m = (dE Γ G o σ m).to σ fun x m1 => (dE Γ G i σ m1).to σ fun y m2 => (getD x y m2).to σ fun z m3 =>
      (dE Γ G e σ m3).to σ fun w m4 => (opA p z w m4).to σ fun u m5 => match putD x y u m5 with
        | some m6 => .nx σ m6
        | none => .bad := by simp only [dS] <;> rfl
@[simp] theorem dS_par3 {i j l a b c} : dS Γ G (.par3 i j l a b c) σ m = (dE Γ G a σ m).to σ fun x m1 => (dE Γ G b σ m1).to σ fun y m2 => (dE Γ G c σ m2).to σ fun z m3 => .nx (((σ.set i (some x)).set j (some y)).set l (some z)) m3 := by simp only [dS]
@[simp] theorem dS_expr {e} : dS Γ G (.expr e) σ m = (dE Γ G e σ m).to σ fun _ m1 => .nx σ m1 := by simp only [dS] <;> rfl
@[simp] theorem dS_ret {e} : dS Γ G (.ret e) σ m = (dE Γ G e σ m).to σ fun d m1 => .rt d m1 := by simp only [dS] <;> rfl
@[simp] theorem dS_retN : dS Γ G .retN σ m = .rt .none m := by simp only [dS] <;> rfl
@[simp] theorem dS_pass : dS Γ G .pass σ m = .nx σ m := by simp only [dS] <;> rfl
@[simp] theorem dS_brk : dS Γ G .brk σ m = .bk σ m := by simp only [dS] <;> rfl
@[simp] theorem dS_cont : dS Γ G .cont σ m = .ct σ m := by simp only [dS] <;> rfl
@[simp] theorem dS_ite {t a b} : dS Γ G (.ite t a b) σ m = (dB Γ G t σ m).to σ fun c m1 => if c = true then dSs Γ G a σ m1 else dSs Γ G b σ m1 := by simp only [dS] <;> rfl
@[simp] theorem dS_whl {t b} : dS Γ G (.whl t b) σ m = whileD (fun σ m => dB Γ G t σ m) (fun σ m => dSs Γ G b σ m) σ m := by simp only [dS] <;> rfl
@[simp] theorem dS_fr {t it b} : dS Γ G (.fr t it b) σ m = (dI Γ G it σ m).to σ fun p m1 =>
      forD p.2 (fun x σ m => (dT Γ G t x σ m).to σ fun σ1 m2 => dSs Γ G b σ1 m2) p.1 σ m1 := by simp only [dS] <;> rfl
@[simp] theorem dSs_nil : dSs Γ G .nil σ m = .nx σ m := by simp only [dSs] <;> rfl
@[simp] theorem dSs_cons {s ss} : dSs Γ G (.cons s ss) σ m = (dS Γ G s σ m).seq fun σ1 m1 => dSs Γ G ss σ1 m1 := by simp only [dSs] <;> rfl
end
section
variable {m : Mem}
@[simp] theorem wipe_nil {σ : Loc} : wipeL σ [] = σ := rfl
@[simp] theorem wipe_cons {σ : Loc} {v vs} : wipeL σ (v :: vs) = (wipeL σ vs).set v none := rfl
@[simp] theorem opB_add {i j : Int} : opB .Add (.int i) (.int j) m = .ok (.int (i + j)) m := rfl
@[simp] theorem opB_addb {i : Int} {b : Bool} : opB .Add (.int i) (.bool b) m = .ok (.int (i + if b then 1 else 0)) m := rfl
@[simp] theorem opB_sub {i j : Int} : opB .Sub (.int i) (.int j) m = .ok (.int (i - j)) m := rfl
@[simp] theorem opB_mul {i j : Int} (h : (-(2 ^ 64) < i ∧ i < 2 ^ 64) ∨ (-(2 ^ 64) < j ∧ j < 2 ^ 64)) : opB .Mult (.int i) (.int j) m = .ok (.int (i * j)) m := if_pos (.inl h)
theorem opB_mulW {i j : Int} (h : i.natAbs.log2 + j.natAbs.log2 < 1000000) : opB .Mult (.int i) (.int j) m = .ok (.int (i * j)) m := if_pos (.inr h)
@[simp] theorem opB_div {i j : Int} (h1 : 0 < j) (h2 : j < 1073741824) : opB .FloorDiv (.int i) (.int j) m = .ok (.int (i / j)) m := if_pos (L2.wide_div (i := i) (b := 30) h1 (by omega) (by decide) (by decide))
theorem opB_divW {i j : Int} (h1 : 0 < j) (h2 : j.natAbs.log2 < 9000) : opB .FloorDiv (.int i) (.int j) m = .ok (.int (i / j)) m := if_pos ⟨h1, h2⟩
@[simp] theorem opB_mod {i j : Int} (h : 0 < j) : opB .Mod (.int i) (.int j) m = .ok (.int (i % j)) m := if_pos h
@[simp] theorem opB_pow {i j : Int} (h : 0 ≤ j) (h2 : j ≤ 1000000) (h3 : i.natAbs < 2 ^ 64) : opB .Pow (.int i) (.int j) m = .ok (.int (i ^ j.toNat)) m := if_pos ⟨h, h2, h3⟩
@[simp] theorem opB_shl {i j : Int} (h : 0 ≤ j) (h2 : j ≤ 1000000) (h3 : i.natAbs < 2 ^ 64) : opB .LShift (.int i) (.int j) m = .ok (.int (i * 2 ^ j.toNat)) m := if_pos ⟨h, h2, h3⟩
@[simp] theorem opB_shr {i j : Int} (h : 0 ≤ j) : opB .RShift (.int i) (.int j) m = .ok (.int (i / 2 ^ j.toNat)) m := if_pos h
@[simp] theorem opB_band {i j : Int} : opB .BitAnd (.int i) (.int j) m = .ok (.int (Builtin.bitAnd i j)) m := rfl
@[simp] theorem opB_bor {i j : Int} : opB .BitOr (.int i) (.int j) m = .ok (.int (Builtin.bitOr i j)) m := rfl
@[simp] theorem opB_bxor {i j : Int} : opB .BitXor (.int i) (.int j) m = .ok (.int (Builtin.bitXor i j)) m := rfl
@[simp] theorem opB_addS {a b : Str} (h : a.length + b.length ≤ sizeLine) : opB .Add (.str a) (.str b) m = .ok (.str (a ++ b)) m := if_pos h
@[simp] theorem opB_addT {a b : List D} (h : a.length + b.length ≤ sizeLine) : opB .Add (.tup a) (.tup b) m = .ok (.tup (a ++ b)) m := if_pos h
@[simp] theorem opB_addL {a b : Nat} : opB .Add (.ref a) (.ref b) m = match m[a]?, m[b]? with
    | some (.lst xs), some (.lst ys) => if Lo (xs.length + ys.length ≤ sizeLine) then newL (xs ++ ys) m else .bad
    | _, _ => .bad := rfl
@[simp] theorem opB_mulL {a : Nat} {k : Int} : opB .Mult (.ref a) (.int k) m = match m[a]? with
    | some (.lst xs) => if Lo (-(2 ^ 63) ≤ k ∧ k < 2 ^ 63 ∧ xs.length * k.toNat ≤ sizeLine) then newL (List.replicate k.toNat xs).flatten m else .bad
    | _ => .bad := rfl
@[simp] theorem opB_mulS {z : Str} {n : Int} (h1 : -(2 ^ 63) ≤ n) (h2 : n < 2 ^ 31) (h3 : z.length * n.toNat < sizeLine) : opB .Mult (.str z) (.int n) m = .ok (.str (repS z n)) m := if_pos ⟨h1, h2, h3⟩
@[simp] theorem slc_str {z : Str} {lo hi : Option Int} (h : z.length ≤ sizeLine) : slcD (.str z) lo hi m = .ok (.str (cutS z lo hi)) m := if_pos h
@[simp] theorem slc_tup {xs : List D} {lo hi : Option Int} : slcD (.tup xs) lo hi m = .ok (.tup (cutD xs lo hi)) m := rfl
@[simp] theorem newL_eq {xs : List D} : newL xs m = .ok (.ref m.length) (m ++ [.lst xs]) := rfl
@[simp] theorem opA_add {i j : Int} : opA .Add (.int i) (.int j) m = .ok (.int (i + j)) m := rfl
@[simp] theorem opA_sub {i j : Int} : opA .Sub (.int i) (.int j) m = .ok (.int (i - j)) m := rfl
@[simp] theorem opA_addS {a b : Str} (h : a.length + b.length ≤ sizeLine) : opA .Add (.str a) (.str b) m = .ok (.str (a ++ b)) m := if_pos h
@[simp] theorem opA_bor {i j : Int} : opA .BitOr (.int i) (.int j) m = .ok (.int (Builtin.bitOr i j)) m := rfl
@[simp] theorem opA_bxor {i j : Int} : opA .BitXor (.int i) (.int j) m = .ok (.int (Builtin.bitXor i j)) m := rfl
@[simp] theorem ofB_some {b : Bool} : ofB (some b) m = .ok (.bool b) m := rfl
@[simp] theorem ofNB_some {b : Bool} : ofNB (some b) m = .ok (.bool (!b)) m := rfl
@[simp] theorem opC_lt {i j : Int} : opC .Lt (.int i) (.int j) m = .ok (.bool (decide (i < j))) m := rfl
@[simp] theorem opC_le {i j : Int} : opC .LtE (.int i) (.int j) m = .ok (.bool (decide (i ≤ j))) m := rfl
@[simp] theorem opC_gt {i j : Int} : opC .Gt (.int i) (.int j) m = .ok (.bool (decide (j < i))) m := rfl
@[simp] theorem opC_ge {i j : Int} : opC .GtE (.int i) (.int j) m = .ok (.bool (decide (j ≤ i))) m := rfl
@[simp] theorem opC_eq {x y : D} : opC .Eq x y m = ofB (eqD m x y) m := rfl
@[simp] theorem opC_ne {x y : D} : opC .NotEq x y m = ofNB (eqD m x y) m := rfl
@[simp] theorem truR_some {x : D} {b : Bool} (h : truD m x = some b) : truR x m = .ok b m := by simp only [truR, h]
@[simp] theorem tru_bool {b : Bool} : truD m (.bool b) = some b := rfl
@[simp] theorem tru_int {i : Int} : truD m (.int i) = some (i != 0) := rfl
@[simp] theorem tru_none : truD m .none = some false := rfl
@[simp] theorem tru_tup {xs : List D} : truD m (.tup xs) = some (!xs.isEmpty) := rfl
@[simp] theorem tru_kl {xs : List D} : truD m (.kl xs) = some (!xs.isEmpty) := rfl
@[simp] theorem truR_bool {b : Bool} : truR (.bool b) m = .ok b m := rfl
@[simp] theorem truR_int {i : Int} : truR (.int i) m = .ok (i != 0) m := rfl
@[simp] theorem seq_tup {xs : List D} : seqOf m (.tup xs) = some xs := rfl
@[simp] theorem seq_kl {xs : List D} : seqOf m (.kl xs) = some xs := rfl
theorem seq_ref {n : Nat} {xs : List D} (h : m[n]? = some (.lst xs)) : seqOf m (.ref n) = some xs := by simp only [seqOf, h]
@[simp] theorem seq_refE {n : Nat} : seqOf m (.ref n) = match m[n]? with | some (.lst xs) => some xs | _ => none := rfl
@[simp] theorem iterD_tup {xs : List D} : iterD m (.tup xs) = some (xs, []) := rfl
@[simp] theorem iterD_kl {xs : List D} : iterD m (.kl xs) = some (xs, []) := rfl
@[simp] theorem iterD_ref {n : Nat} : iterD m (.ref n) = match m[n]? with | some (.lst xs) => some (xs, [(n, xs)]) | _ => none := rfl
@[simp] theorem iterS_tup {xs : List D} : iterS m (.tup xs) = some (xs, []) := rfl
@[simp] theorem iterS_kl {xs : List D} : iterS m (.kl xs) = some (xs, []) := rfl
@[simp] theorem iterS_ref {n : Nat} : iterS m (.ref n) = match m[n]? with | some (.lst xs) => some (xs, [(n, xs)]) | _ => none := rfl
@[simp] theorem len_tup {xs : List D} : biD .len [.tup xs] m = .ok (.int xs.length) m := rfl
@[simp] theorem len_kl {xs : List D} : biD .len [.kl xs] m = .ok (.int xs.length) m := rfl
@[simp] theorem len_ref {n : Nat} : biD .len [.ref n] m = match m[n]? with | some (.lst xs) => .ok (.int xs.length) m | _ => .bad := by
  show (match (seqOf m (.ref n)).map List.length with | some n => _ | none => _) = _
  simp only [seq_refE]
  split <;> rename_i h <;> split at h <;> simp_all
@[simp] theorem bi_int {i : Int} : biD .int [.int i] m = .ok (.int i) m := rfl
@[simp] theorem bi_intb {b : Bool} : biD .int [.bool b] m = .ok (.int (if b then 1 else 0)) m := rfl
@[simp] theorem bi_abs {i : Int} : biD .abs [.int i] m = .ok (.int (if i < 0 then -i else i)) m := rfl
@[simp] theorem bi_min {i j : Int} : biD .min2 [.int i, .int j] m = .ok (.int (if j < i then j else i)) m := rfl
@[simp] theorem bi_max {i j : Int} : biD .max2 [.int i, .int j] m = .ok (.int (if j > i then j else i)) m := rfl
@[simp] theorem bi_tuple {d : D} : biD .tuple [d] m = match seqOf m d with | some xs => .ok (.tup xs) m | none => .bad := rfl
@[simp] theorem bi_list {d : D} : biD .list [d] m = match seqOf m d with | some xs => newL xs m | none => .bad := rfl
@[simp] theorem bi_sum {d : D} : biD .sum [d] m = match (seqOf m d).bind intsD with | some ns => .ok (.int ns.sum) m | none => .bad := rfl
@[simp] theorem bi_all {d : D} : biD .all [d] m = match (seqOf m d).bind boolsD with | some ns => .ok (.bool (ns.all id)) m | none => .bad := rfl
@[simp] theorem bi_any {d : D} : biD .any [d] m = match (seqOf m d).bind boolsD with | some ns => .ok (.bool (ns.any id)) m | none => .bad := rfl
@[simp] theorem mt_app {n : Nat} {d : D} : mtD .append (.ref n) [d] m = match m[n]? with
    | some (.lst xs) => if Lo (xs.length < sizeLine) then .ok .none (m.set n (.lst (xs ++ [d]))) else .bad
    | _ => .bad := rfl
@[simp] theorem mt_bl {i : Int} : mtD .bitLength (.int i) [] m = .ok (.int (Builtin.Int.intBits i)) m := rfl
@[simp] theorem pre_bl {i : Int} : mtPre .bitLength (.int i) m = true := rfl
@[simp] theorem pre_app {n : Nat} : mtPre .append (.ref n) m = match m[n]? with | some (.lst _) => true | _ => false := rfl
@[simp] theorem mt_ext {n k : Nat} : mtD .extend (.ref n) [.ref k] m = match m[n]?, m[k]? with
    | some (.lst xs), some (.lst ys) => if Lo (xs.length + ys.length ≤ sizeLine) then .ok .none (m.set n (.lst (xs ++ ys))) else .bad
    | _, _ => .bad := rfl
@[simp] theorem mt_pop0 {n : Nat} : mtD .pop (.ref n) [] m = match m[n]? with
    | some (.lst xs) => (match xs[xs.length - 1]? with
      | some d => .ok d (m.set n (.lst xs.dropLast))
      | none => .bad)
    | _ => .bad := rfl
@[simp] theorem mt_popI {n : Nat} {i : Int} : mtD .popAt (.ref n) [.int i] m = match m[n]? with
    | some (.lst xs) => if Lo (-(2 ^ 63) ≤ i ∧ i < 2 ^ 63) then (match ixN xs.length i with
      | some k => (match xs[k]? with | some d => .ok d (m.set n (.lst (xs.eraseIdx k))) | none => .bad)
      | none => .bad) else .bad
    | _ => .bad := rfl
@[simp] theorem mt_rev {n : Nat} : mtD .reverse (.ref n) [] m = match m[n]? with
    | some (.lst xs) => .ok .none (m.set n (.lst xs.reverse))
    | _ => .bad := rfl
@[simp] theorem mt_ins {n : Nat} {i : Int} {d : D} : mtD .insert (.ref n) [.int i, d] m = match m[n]? with
    | some (.lst xs) => if Lo (xs.length < sizeLine ∧ 0 ≤ i ∧ i < 2 ^ 63) then .ok .none (m.set n (.lst (xs.take i.toNat ++ [d] ++ xs.drop i.toNat))) else .bad
    | _ => .bad := rfl
@[simp] theorem mt_spl {a b : Str} (h : b.length ≠ 0) (h2 : a.length + 2 ≤ sizeLine) : mtD .split (.str a) [.str b] m = .ok (.ref m.length) (m ++ [.lst ((Txt.split a b).map .str)]) := if_pos ⟨h, h2⟩
@[simp] theorem pre_spl {a : Str} : mtPre .split (.str a) m = true := rfl
@[simp] theorem pre_join {a : Str} : mtPre .join (.str a) m = true := rfl
@[simp] theorem pre_ext {n : Nat} : mtPre .extend (.ref n) m = match m[n]? with | some (.lst _) => true | _ => false := rfl
@[simp] theorem pre_pop {n : Nat} : mtPre .pop (.ref n) m = match m[n]? with | some (.lst _) => true | _ => false := rfl
@[simp] theorem pre_popAt {n : Nat} : mtPre .popAt (.ref n) m = match m[n]? with | some (.lst _) => true | _ => false := rfl
@[simp] theorem pre_ins {n : Nat} : mtPre .insert (.ref n) m = match m[n]? with | some (.lst _) => true | _ => false := rfl
@[simp] theorem pre_rev {n : Nat} : mtPre .reverse (.ref n) m = match m[n]? with | some (.lst _) => true | _ => false := rfl
@[simp] theorem pre_index {n : Nat} : mtPre .index (.ref n) m = match m[n]? with | some (.lst _) => true | _ => false := rfl
@[simp] theorem isin_int {T} {i : Int} : isinD m T (.int i) = some (T == "int") := rfl
@[simp] theorem isin_bool {T} {i : Bool} : isinD m T (.bool i) = some (T == "int" || T == "bool") := rfl
@[simp] theorem isin_str {T} {i : Str} : isinD m T (.str i) = some (T == "str") := rfl
@[simp] theorem isin_tup {T} {i : List D} : isinD m T (.tup i) = some (T == "tuple") := rfl
@[simp] theorem idx_tup {xs : List D} {k : Int} : idxD (.tup xs) (.int k) m = match atI xs k with | some d => .ok d m | none => .bad := rfl
@[simp] theorem idx_kl {xs : List D} {k : Int} : idxD (.kl xs) (.int k) m = match atI xs k with | some d => .ok d m | none => .bad := rfl
@[simp] theorem idx_ref {n : Nat} {k : Int} : idxD (.ref n) (.int k) m = match m[n]? with | some (.lst xs) => (match atI xs k with | some d => .ok d m | none => .bad) | _ => .bad := by
  show (match seqOf m (.ref n) with | some xs => (match atI xs k with | some d => Res.ok d m | none => .bad) | none => .bad) = _
  simp only [seq_refE]
  cases m[n]? with
  | none => rfl
  | some o => cases o <;> rfl
/-! ### sameness -/
/-- data of one kind, told apart by == as by = -/
class Enc (α : Type) where
  enc : α → D
  py : α → PyData
  dp : Nat
  ok : ∀ f a, pyD f (enc a) = some (py a)
  dep : ∀ a, (py a).depth ≤ dp
  eqv : ∀ a b, PyData.eqv (py a) (py b) = true ↔ a = b
  bel : ∀ n a, below n (enc a) = true
open Enc (enc)
instance : Enc Int where
  enc := .int
  py := .int
  dp := 0
  ok _ _ := rfl
  dep _ := Nat.le_refl _
  eqv a b := by simp [PyData.eqv]
  bel _ _ := rfl
instance : Enc Bool where
  enc := .bool
  py := .bool
  dp := 0
  ok _ _ := rfl
  dep _ := Nat.le_refl _
  eqv a b := by simp [PyData.eqv]
  bel _ _ := rfl
instance : Enc Str where
  enc := .str
  py := .str
  dp := 0
  ok _ _ := rfl
  dep _ := Nat.le_refl _
  eqv a b := by simp [PyData.eqv]
  bel _ _ := rfl
theorem pyDs_enc {α : Type} [Enc α] (f) : ∀ xs : List α, pyDs f (xs.map enc) = some (xs.map Enc.py)
  | [] => rfl
  | x :: xs => by simp only [List.map_cons, pyDs, Enc.ok, pyDs_enc f xs]
theorem depAll_enc {α : Type} [E : Enc α] : ∀ xs : List α, PyData.depthAll (xs.map E.py) ≤ E.dp
  | [] => Nat.zero_le _
  | x :: xs => by simp only [List.map_cons, PyData.depthAll]; exact Nat.max_le.mpr ⟨E.dep x, depAll_enc xs⟩
theorem eqvAll_enc {α : Type} [E : Enc α] : ∀ xs ys : List α, PyData.eqvAll (xs.map E.py) (ys.map E.py) = true ↔ xs = ys
  | [], [] => by simp [PyData.eqvAll]
  | [], _ :: _ => by simp [PyData.eqvAll]
  | _ :: _, [] => by simp [PyData.eqvAll]
  | x :: xs, y :: ys => by simp [PyData.eqvAll, E.eqv, eqvAll_enc xs ys]
instance {α : Type} [E : Enc α] : Enc (List α) where
  enc xs := .tup (xs.map enc)
  py xs := .tuple (xs.map Enc.py)
  dp := E.dp + 1
  ok f xs := by simp only [pyD, pyDs_enc, Option.map_some]
  dep xs := by simp only [PyData.depth]; exact Nat.add_le_add_right (depAll_enc xs) 1
  eqv xs ys := by simp only [PyData.eqv, eqvAll_enc]
  bel n xs := by
    simp only [below]
    exact belows_all fun x hx => by
      obtain ⟨y, _, rfl⟩ := List.mem_map.mp hx
      exact E.bel n y
instance {α β : Type} [E : Enc α] [F : Enc β] : Enc (α × β) where
  enc p := .tup [enc p.1, enc p.2]
  py p := .tuple [Enc.py p.1, Enc.py p.2]
  dp := max E.dp F.dp + 1
  ok f p := by simp only [pyD, pyDs, Enc.ok, Option.map_some]
  dep p := by
    simp only [PyData.depth, PyData.depthAll, Nat.max_zero]
    exact Nat.add_le_add_right (Nat.max_le.mpr ⟨Nat.le_trans (E.dep _) (Nat.le_max_left _ _), Nat.le_trans (F.dep _) (Nat.le_max_right _ _)⟩) 1
  eqv p q := by simp [PyData.eqv, PyData.eqvAll, E.eqv, F.eqv, Prod.ext_iff]
  bel n p := by simp only [below, belows, E.bel, F.bel, Bool.and_self]
theorem bool_dec {b : Bool} {p : Prop} [Decidable p] (h : b = true ↔ p) : b = decide p := by
  by_cases q : p
  · rw [h.mpr q, decide_eq_true q]
  · rw [decide_eq_false q]; cases b
    · rfl
    · exact absurd (h.mp rfl) q
theorem eq_enc {α : Type} [E : Enc α] (a b : α) [Decidable (a = b)] (h : E.dp ≤ 150 := by decide) : eqD m (enc a) (enc b) = some (decide (a = b)) := by
  unfold eqD pyOf
  simp only [E.ok]
  rw [if_lo (Nat.le_trans (Nat.min_le_left _ _) (Nat.le_trans (E.dep a) h)), bool_dec (E.eqv a b)]
@[simp] theorem eq_int {i j : Int} : eqD m (.int i) (.int j) = some (decide (i = j)) := eq_enc i j
@[simp] theorem eq_bool {i j : Bool} : eqD m (.bool i) (.bool j) = some (decide (i = j)) := eq_enc i j
@[simp] theorem eq_str {i j : Str} : eqD m (.str i) (.str j) = some (decide (i = j)) := eq_enc i j
@[simp] theorem eq_ints {i j : List Int} : eqD m (.tup (i.map .int)) (.tup (j.map .int)) = some (decide (i = j)) := eq_enc i j
theorem in_enc {α : Type} [E : Enc α] (a : α) (bs : List α) [Decidable (a ∈ bs)] (h : E.dp ≤ 150 := by decide) : inD m (enc a) (bs.map enc) = some (decide (a ∈ bs)) := by
  unfold inD pyOf
  simp only [E.ok, pyDs_enc]
  rw [if_lo ⟨Nat.le_trans (depAll_enc bs) h, Nat.le_trans (E.dep a) h⟩]
  congr 1
  refine bool_dec ?_
  simp only [List.any_map, List.any_eq_true, Function.comp, E.eqv]
  exact ⟨fun ⟨x, h1, h2⟩ => h2 ▸ h1, fun h => ⟨a, h, rfl⟩⟩
theorem atI_natC {α : Type} {xs : List α} {j : Nat} : atI xs (j : Int) = xs[j]? := by
  unfold atI ixN
  rw [if_pos (by omega)]
  by_cases h : (j : Int) < (xs.length : Nat)
  · rw [if_pos h]; simp
  · rw [if_neg h]; simp; omega
theorem atI_neg {α : Type} {xs : List α} {j : Nat} (h0 : 0 < j) (h : j ≤ xs.length) : atI xs (-(j : Int)) = xs[xs.length - j]? := by
  unfold atI ixN
  rw [if_neg (by omega), if_pos (by omega)]
  simp only [Option.bind_some]
  congr 1
  omega
@[simp] theorem atI_0 {α : Type} {xs : List α} : atI xs 0 = xs[0]? := atI_natC (j := 0)
@[simp] theorem atI_1 {α : Type} {xs : List α} : atI xs 1 = xs[1]? := atI_natC (j := 1)
@[simp] theorem atI_2 {α : Type} {xs : List α} : atI xs 2 = xs[2]? := atI_natC (j := 2)
@[simp] theorem atI_3 {α : Type} {xs : List α} : atI xs 3 = xs[3]? := atI_natC (j := 3)
@[simp] theorem atI_4 {α : Type} {xs : List α} : atI xs 4 = xs[4]? := atI_natC (j := 4)
@[simp] theorem atI_5 {α : Type} {xs : List α} : atI xs 5 = xs[5]? := atI_natC (j := 5)
@[simp] theorem atI_6 {α : Type} {xs : List α} : atI xs 6 = xs[6]? := atI_natC (j := 6)
@[simp] theorem atI_7 {α : Type} {xs : List α} : atI xs 7 = xs[7]? := atI_natC (j := 7)
@[simp] theorem atI_8 {α : Type} {xs : List α} : atI xs 8 = xs[8]? := atI_natC (j := 8)
@[simp] theorem atI_9 {α : Type} {xs : List α} : atI xs 9 = xs[9]? := atI_natC (j := 9)
@[simp] theorem atI_10 {α : Type} {xs : List α} : atI xs 10 = xs[10]? := atI_natC (j := 10)
@[simp] theorem atI_11 {α : Type} {xs : List α} : atI xs 11 = xs[11]? := atI_natC (j := 11)
@[simp] theorem ixN_0 {n : Nat} : ixN n 0 = if 0 < n then some 0 else none := by
  unfold ixN
  rw [if_pos (by decide)]
  by_cases h : 0 < n
  · rw [if_pos h, if_pos (by omega)]; rfl
  · rw [if_neg h, if_neg (by omega)]
@[simp] theorem ixN_1 {n : Nat} : ixN n 1 = if 1 < n then some 1 else none := by
  unfold ixN
  rw [if_pos (by decide)]
  by_cases h : 1 < n
  · rw [if_pos h, if_pos (by omega)]; rfl
  · rw [if_neg h, if_neg (by omega)]
@[simp] theorem ixN_2 {n : Nat} : ixN n 2 = if 2 < n then some 2 else none := by
  unfold ixN
  rw [if_pos (by decide)]
  by_cases h : 2 < n
  · rw [if_pos h, if_pos (by omega)]; rfl
  · rw [if_neg h, if_neg (by omega)]
@[simp] theorem ixN_3 {n : Nat} : ixN n 3 = if 3 < n then some 3 else none := by
  unfold ixN
  rw [if_pos (by decide)]
  by_cases h : 3 < n
  · rw [if_pos h, if_pos (by omega)]; rfl
  · rw [if_neg h, if_neg (by omega)]
@[simp] theorem ixN_4 {n : Nat} : ixN n 4 = if 4 < n then some 4 else none := by
  unfold ixN
  rw [if_pos (by decide)]
  by_cases h : 4 < n
  · rw [if_pos h, if_pos (by omega)]; rfl
  · rw [if_neg h, if_neg (by omega)]
@[simp] theorem ixN_5 {n : Nat} : ixN n 5 = if 5 < n then some 5 else none := by
  unfold ixN
  rw [if_pos (by decide)]
  by_cases h : 5 < n
  · rw [if_pos h, if_pos (by omega)]; rfl
  · rw [if_neg h, if_neg (by omega)]
@[simp] theorem putD_ref {n : Nat} {k : Int} {v : D} : putD (.ref n) (.int k) v m = match m[n]? with
    | some (.lst xs) => (match ixN xs.length k with
      | some j => some (m.set n (.lst (xs.set j v)))
      | none => none)
    | _ => none := rfl
@[simp] theorem getD_ref {n : Nat} {k : Int} : getD (.ref n) (.int k) m = match m[n]? with
    | some (.lst xs) => if Lo (0 ≤ k ∧ k < 2 ^ 63) then (match xs[k.toNat]? with | some d => .ok d m | none => .bad) else .bad
    | _ => .bad := rfl
@[simp] theorem atI_m1 {α : Type} {xs : List α} : atI xs (-1) = xs.getLast? := by
  cases xs with
  | nil => rfl
  | cons x xs =>
    have := atI_neg (xs := x :: xs) (j := 1) (by omega) (by simp)
    rw [List.getLast?_eq_getElem?]
    exact this
theorem rngOk_nat {n : Nat} (h : n < 2 ^ 62) : rngOk (n : Int) := ⟨by omega, by omega⟩
@[simp] theorem if_rng {n : Nat} (h : n < 2 ^ 62) {α : Sort _} {a b : α} : (if rngOk (n : Int) then a else b) = a := if_pos (rngOk_nat h)
@[simp] theorem if_lo_ {p : Prop} (h : p) {α : Sort _} {a b : α} : (if Lo p then a else b) = a := if_pos h
theorem rng_nat {n : Nat} : rngD 0 (n : Int) = (List.range n).map fun i => .int (i : Nat) := by
  simp [rngD]
@[simp] theorem fin_rt {m0 : Mem} {d : D} : fin m0 (.rt d m) = gcD m0 d m := rfl
@[simp] theorem fin_nx {m0 : Mem} {σ : Loc} : fin m0 (.nx σ m) = gcD m0 .none m := rfl
@[simp] theorem gc_same_ {m0 j : Mem} {d : D} (h : below m0.length d = true) : gcD m0 d (m0 ++ j) = .ok d m0 := gc_same h
@[simp] theorem gc_id_ {m0 : Mem} {d : D} (h : below m0.length d = true) : gcD m0 d m0 = .ok d m0 := gc_id h
@[simp] theorem gc_new_ {m0 : Mem} {o : MO} (h : o.below m0.length = true) : gcD m0 (.ref m0.length) (m0 ++ [o]) = .ok (.ref m0.length) (m0 ++ [o]) := gc_new h
@[simp] theorem below_none {n : Nat} : below n .none = true := by simp only [below]
@[simp] theorem below_bool {n : Nat} {b} : below n (.bool b) = true := by simp only [below]
@[simp] theorem below_int {n : Nat} {b} : below n (.int b) = true := by simp only [below]
@[simp] theorem below_str {n : Nat} {b} : below n (.str b) = true := by simp only [below]
@[simp] theorem below_tup {n : Nat} {b} : below n (.tup b) = belows n b := by simp only [below]
@[simp] theorem below_kl {n : Nat} {b} : below n (.kl b) = belows n b := by simp only [below]
@[simp] theorem below_ref {n k : Nat} : below n (.ref k) = decide (k < n) := by simp only [below]
@[simp] theorem belows_nil {n : Nat} : belows n [] = true := by simp only [belows]
@[simp] theorem belows_cons {n : Nat} {d ds} : belows n (d :: ds) = (below n d && belows n ds) := by simp only [belows]
@[simp] theorem belows_app {n : Nat} : ∀ {xs ys : List D}, belows n (xs ++ ys) = (belows n xs && belows n ys)
  | [], ys => by simp
  | x :: xs, ys => by simp [belows_app (xs := xs), Bool.and_assoc]
@[simp] theorem belows_map {α : Type} {n : Nat} {f : α → D} : ∀ {xs : List α}, belows n (xs.map f) = xs.all fun x => below n (f x)
  | [] => by simp
  | x :: xs => by simp [belows_map (xs := xs)]
@[simp] theorem mo_below_lst {n : Nat} {xs} : MO.below n (.lst xs) = belows n xs := rfl
/-- a comprehension without a test over things that stand for others -/
theorem comp_mapL {α : Type} {gs : List (Nat × List D)} {body : D → Mem → Res (Option D)} {e f : α → D} {ys : List α}
    (hb : ∀ y ∈ ys, ∀ acc, body (e y) (m ++ [.lst acc]) = .ok (some (f y)) (m ++ [.lst acc])) (hl : ys.length ≤ sizeLine) (hg : guardOk gs m := by simp) :
    compD gs m.length body (ys.map e) (m ++ [.lst []]) = .ok (.ref m.length) (m ++ [.lst (ys.map f)]) := by
  have g : ∀ acc, guardOk gs (m ++ [.lst acc]) := fun acc p hp => by
    have := hg p hp
    rw [List.getElem?_append_left (List.getElem?_eq_some_iff.mp this).1]; exact this
  have key : ∀ (zs : List α) (acc : List D), (∀ x ∈ zs, x ∈ ys) → acc.length + zs.length ≤ sizeLine → compD gs m.length body (zs.map e) (m ++ [.lst acc]) = .ok (.ref m.length) (m ++ [.lst (acc ++ zs.map f)]) := by
    intro zs
    induction zs with
    | nil => intro acc _ _; simp only [List.map_nil]; unfold compD; rw [if_pos (g acc)]; simp
    | cons y zs ih =>
      intro acc hy hh
      simp only [List.length_cons] at hh
      simp only [List.map_cons]
      unfold compD
      rw [if_pos (g acc), hb y (hy y (by simp)) acc]
      have h1 : (m ++ [MO.lst acc])[m.length]? = some (.lst acc) := get_at
      have h2 : (m ++ [MO.lst acc]).set m.length (.lst (acc ++ [f y])) = m ++ [.lst (acc ++ [f y])] := set_at
      simp only [Res.ok_bind, h1, if_lo (show acc.length < sizeLine by omega), h2]
      rw [ih (acc ++ [f y]) (fun x hx => hy x (by simp [hx])) (by simp; omega)]
      simp
  have := key ys [] (fun _ h => h) (by simpa using hl)
  simpa using this
@[simp] theorem intsD_map_ {xs : List Int} : intsD (xs.map .int) = some xs := intsD_map
@[simp] theorem boolsD_map_ {xs : List Bool} : boolsD (xs.map .bool) = some xs := boolsD_map
@[simp] theorem intsD_mapf {α : Type} {f : α → Int} {xs : List α} : intsD (xs.map fun x => .int (f x)) = some (xs.map f) := by
  have := intsD_map (xs := xs.map f)
  rw [List.map_map] at this; exact this
@[simp] theorem boolsD_mapf {α : Type} {f : α → Bool} {xs : List α} : boolsD (xs.map fun x => .bool (f x)) = some (xs.map f) := by
  have := boolsD_map (xs := xs.map f)
  rw [List.map_map] at this; exact this
@[simp] theorem intsD_app : ∀ {xs ys : List D}, intsD (xs ++ ys) = (intsD xs).bind fun a => (intsD ys).map (a ++ ·)
  | [], ys => by simp [intsD]
  | .int x :: xs, ys => by
    simp only [List.cons_append, intsD, intsD_app (xs := xs)]
    cases intsD xs <;> cases intsD ys <;> simp
  | .none :: xs, ys => by simp [intsD]
  | .bool _ :: xs, ys => by simp [intsD]
  | .str _ :: xs, ys => by simp [intsD]
  | .tup _ :: xs, ys => by simp [intsD]
  | .kl _ :: xs, ys => by simp [intsD]
  | .ref _ :: xs, ys => by simp [intsD]
@[simp] theorem intsD_nil : intsD [] = some [] := rfl
@[simp] theorem intsD_cons {i : Int} {r : List D} : intsD (.int i :: r) = (intsD r).map (i :: ·) := rfl
@[simp] theorem boolsD_nil : boolsD [] = some [] := rfl
@[simp] theorem boolsD_cons {i : Bool} {r : List D} : boolsD (.bool i :: r) = (boolsD r).map (i :: ·) := rfl
theorem comp_mapE {α : Type} {gs : List (Nat × List D)} {body : D → Mem → Res (Option D)} {e f : α → D} {ys : List α} {M0 M : Mem} {n : Nat} (hM : M = M0 ++ [.lst []]) (hn : n = M0.length)
    (hb : ∀ y ∈ ys, ∀ acc, body (e y) (M0 ++ [.lst acc]) = .ok (some (f y)) (M0 ++ [.lst acc])) (hl : ys.length ≤ sizeLine) (hg : guardOk gs M0) :
    compD gs n body (ys.map e) M = .ok (.ref n) (M0 ++ [.lst (ys.map f)]) := by
  subst hM
  subst hn
  exact comp_mapL hb hl hg
section
variable {α : Type} {l j : List α} {a b c : Nat} {o : α}
@[simp high] theorem get_o0 : (l ++ j)[l.length]? = j[0]? := by rw [List.getElem?_append_right (by omega)]; simp
@[simp high] theorem get_o1 : (l ++ j)[l.length + a]? = j[a]? := by rw [List.getElem?_append_right (by omega)]; congr 1; omega
@[simp high] theorem get_o2 : (l ++ j)[l.length + a + b]? = j[a + b]? := by rw [List.getElem?_append_right (by omega)]; congr 1; omega
@[simp high] theorem get_o3 : (l ++ j)[l.length + a + b + c]? = j[a + b + c]? := by rw [List.getElem?_append_right (by omega)]; congr 1; omega
@[simp high] theorem get_p1 (h : l.length + a < (l ++ j).length) : (l ++ j)[l.length + a]'h = j[a]'(by simp at h; omega) := by rw [List.getElem_append_right (by omega)]; congr 1; omega
@[simp high] theorem get_p2 (h : l.length + a + b < (l ++ j).length) : (l ++ j)[l.length + a + b]'h = j[a + b]'(by simp at h; omega) := by rw [List.getElem_append_right (by omega)]; congr 1; omega
@[simp high] theorem get_p3 (h : l.length + a + b + c < (l ++ j).length) : (l ++ j)[l.length + a + b + c]'h = j[a + b + c]'(by simp at h; omega) := by rw [List.getElem_append_right (by omega)]; congr 1; omega
@[simp high] theorem set_o0 : (l ++ j).set l.length o = l ++ j.set 0 o := by rw [List.set_append_right _ _ (by omega)]; simp
@[simp high] theorem set_o1 : (l ++ j).set (l.length + a) o = l ++ j.set a o := by rw [List.set_append_right _ _ (by omega)]; congr 2; omega
@[simp high] theorem set_o2 : (l ++ j).set (l.length + a + b) o = l ++ j.set (a + b) o := by rw [List.set_append_right _ _ (by omega)]; congr 2; omega
end
@[simp] theorem gc_pre {l a b : Mem} {d : D} (h : b.take a.length = a) (hb : below (l.length + a.length) d = true) : gcD (l ++ a) d (l ++ b) = .ok d (l ++ a) := by
  have e : b = a ++ b.drop a.length := by
    conv => lhs; rw [← List.take_append_drop a.length b, h]
  rw [e, ← List.append_assoc]
  exact gc_same (by simpa using hb)
/-! texts -/
theorem idx_str {z : Str} {k : Int} {c : Nat} (h : z.length ≤ sizeLine) (e : atI z.cps.toList k = some c) : idxD (.str z) (.int k) m = .ok (.str ⟨#[c]⟩) m := by
  show (if Lo (z.length ≤ sizeLine) then (match atI z.cps.toList k with | some c => Res.ok (D.str ⟨#[c]⟩) m | none => Res.bad) else Res.bad) = _
  rw [if_lo h, e]
theorem len_str {z : Str} (h : z.length ≤ sizeLine) : biD .len [.str z] m = .ok (.int z.length) m := by
  show (match (if Lo (z.length ≤ sizeLine) then some z.length else none) with | some n => Res.ok (D.int (n : Nat)) m | none => Res.bad) = _
  rw [if_lo h]
theorem in_one {c : Nat} {z : Str} : opC .In (.str ⟨#[c]⟩) (.str z) m = .ok (.bool (decide (c ∈ z.cps.toList))) m := by
  show Res.ok (D.bool _) m = _
  rw [PySem.StrLaws.found_one z c]
@[simp] theorem iterD_str {z : Str} : iterD m (.str z) = some (z.cps.toList.map fun c => .str ⟨#[c]⟩, []) := rfl
@[simp] theorem seq_str {z : Str} : seqOf m (.str z) = none := rfl
end
end PC

/-! PDraw: how the laws draw numbers from the script. -/
namespace PC
open PySem L2 Classical
def cBegin : CSs :=
  .cons (.ret (.lst (.cons (.comp [1] (.name 1) (.plain (.var 0)) .none (.bi .int (.cons (.var 1) .nil))) (.cons (.lit (.int 0)) (.cons (.lit (.int 0)) (.cons (.lit (.int 7)) (.cons (.lit (.int 3)) .nil))))))) <|
  .nil
def cDraw : CSs :=
  .cons (.ite (.val (.cmp .Gt (.idx (.var 0) (.lit (.int 2))) (.lit (.int 0)))) (.cons (.asg (.name 2) (.idx (.var 0) (.lit (.int 2)))) (.cons (.asg (.sub (.var 0) (.lit (.int 2))) (.bin .FloorDiv (.var 2) (.var 1))) (.cons (.ret (.bin .Mod (.bi .int (.cons (.var 2) .nil)) (.var 1))) .nil))) .nil) <|
  .cons (.asg (.name 3) (.lit (.int 0))) <|
  .cons (.ite (.val (.cmp .Lt (.idx (.var 0) (.lit (.int 1))) (.bi .len (.cons (.idx (.var 0) (.lit (.int 0))) .nil)))) (.cons (.asg (.name 4) (.idx (.idx (.var 0) (.lit (.int 0))) (.idx (.var 0) (.lit (.int 1))))) (.cons (.asg (.name 3) (.bin .Add (.bin .Mult (.lit (.int 2)) (.bi .abs (.cons (.var 4) .nil))) (.bi .int (.cons (.cmp .Lt (.var 4) (.lit (.int 0))) .nil)))) .nil)) .nil) <|
  .cons (.augS (.var 0) (.lit (.int 1)) .Add (.lit (.int 1))) <|
  .cons (.ite (.val (.cmp .GtE (.var 3) (.bin .Mult (.lit (.int 2)) (.bin .Pow (.lit (.int 10)) (.lit (.int 18)))))) (.cons (.asg (.name 2) (.bin .Mod (.bi .int (.cons (.bin .FloorDiv (.var 3) (.lit (.int 2))) .nil)) (.bin .LShift (.lit (.int 1)) (.lit (.int 6000))))) (.cons (.asg (.sub (.var 0) (.lit (.int 2))) (.bin .FloorDiv (.var 2) (.var 1))) (.cons (.ret (.bin .Mod (.bi .int (.cons (.var 2) .nil)) (.var 1))) .nil))) .nil) <|
  .cons (.asg (.sub (.var 0) (.lit (.int 3))) (.bin .Mod (.bi .int (.cons (.bin .Add (.bin .Add (.bin .Add (.bin .Mult (.idx (.var 0) (.lit (.int 3))) (.lit (.int 48271))) (.bin .Mult (.bin .Mod (.bi .int (.cons (.var 3) .nil)) (.lit (.int 2147483629))) (.lit (.int 16807)))) (.bin .Mult (.idx (.var 0) (.lit (.int 1))) (.lit (.int 69621)))) (.lit (.int 11))) .nil)) (.lit (.int 2147483647)))) <|
  .cons (.ret (.bin .Mod (.bi .int (.cons (.bin .FloorDiv (.idx (.var 0) (.lit (.int 3))) (.lit (.int 16))) .nil)) (.var 1))) <|
  .nil
def cPick : CSs :=
  .cons (.ret (.idx (.var 1) (.call "_law_draw" (.cons (.var 0) (.cons (.bi .len (.cons (.var 1) .nil)) .nil))))) <|
  .nil
def cRare : CSs :=
  .cons (.ret (.cmp .Eq (.call "_law_draw" (.cons (.var 0) (.cons (.var 1) .nil))) (.bin .FloorDiv (.var 1) (.lit (.int 2))))) <|
  .nil
/-- where the script is read -/
structure DS where
  xs : List Int
  i : Nat
  b : Int
  x : Int
def DS.mo (s : DS) : MO := .lst [.ref 0, .int s.i, .int s.b, .int s.x, .int 3]
def DS.mem (s : DS) (rest : Mem) : Mem := .lst (s.xs.map .int) :: s.mo :: rest
@[simp] theorem DS.len {s : DS} {rest : Mem} : (s.mem rest).length = rest.length + 2 := rfl
@[simp] theorem DS.app {s : DS} {r j : Mem} : s.mem r ++ j = s.mem (r ++ j) := rfl
@[simp high] theorem DS.get0 {s : DS} {r : Mem} : (s.mem r)[0]? = some (.lst (s.xs.map .int)) := rfl
@[simp high] theorem DS.get1 {s : DS} {r : Mem} : (s.mem r)[1]? = some s.mo := rfl
@[simp high] theorem DS.get2 {s : DS} {r : Mem} {n : Nat} : (s.mem r)[n + 2]? = r[n]? := rfl
@[simp high] theorem DS.set2 {s : DS} {r : Mem} {n : Nat} {o : MO} : (s.mem r).set (n + 2) o = s.mem (r.set n o) := rfl
theorem DS.old {s s' : DS} {r j : Mem} (h : s'.xs = s.xs) : oldOk (s.mem r) (s'.mem (r ++ j)) := by
  refine ⟨by simp, fun i hi => ?_⟩
  match i, hi with
  | 0, _ => exact .inl (by rw [DS.get0, DS.get0, h])
  | 1, _ => exact .inr ⟨_, rfl, by simp [DS.mo]⟩
  | i + 2, hi => exact .inl (by simp at hi ⊢; rw [List.getElem?_append_left hi])
theorem gc_ds {s s' : DS} {r j : Mem} {d : D} (h : s'.xs = s.xs) (hb : below (r.length + 2) d = true) : gcD (s.mem r) d (s'.mem (r ++ j)) = .ok d (s'.mem r) := by
  unfold gcD
  rw [if_pos (DS.old h), if_pos (by simpa using hb)]
  simp [DS.mem]
@[simp] theorem gc_ds0 {s s' : DS} {r : Mem} {d : D} (h : s'.xs = s.xs) (hb : below (r.length + 2) d = true) : gcD (s.mem r) d (s'.mem r) = .ok d (s'.mem r) := by
  have := gc_ds (j := []) h hb
  simpa using this
@[simp] theorem gc_dsP {s s' : DS} {l a b : Mem} {d : D} (hx : s'.xs = s.xs) (h : b.take a.length = a) (hb : below (l.length + a.length + 2) d = true) : gcD (s.mem (l ++ a)) d (s'.mem (l ++ b)) = .ok d (s'.mem (l ++ a)) := by
  have e : b = a ++ b.drop a.length := by
    conv => lhs; rw [← List.take_append_drop a.length b, h]
  rw [e, ← List.append_assoc]
  exact gc_ds hx (by simpa using hb)
@[simp] theorem gc_dsQ {s s' : DS} {l b : Mem} {d : D} (hx : s'.xs = s.xs) (hb : below (l.length + 2) d = true) : gcD (s.mem l) d (s'.mem (l ++ b)) = .ok d (s'.mem l) := gc_ds hx hb
/-- .. a new list that speaks of what was there alone -/
theorem gc_dsN {s s' : DS} {r j : Mem} {n : Nat} {o : MO} (h : s'.xs = s.xs) (hn : (r ++ j)[n]? = some o) (hl : r.length ≤ n) (ho : o.below (r.length + 2) = true) :
    gcD (s.mem r) (.ref (n + 2)) (s'.mem (r ++ j)) = .ok (.ref (r.length + 2)) (s'.mem (r ++ [o])) := by
  unfold gcD
  rw [if_pos (DS.old h), if_neg (by simp; omega)]
  simp only [DS.get2, hn, DS.len, ho, if_true]
  simp [DS.mem]
/-- what a number that is drawn is -/
def Drawn (s : DS) (r : Mem) (n : Nat) (d : D) (m : Mem) : Prop := ∃ (k : Nat) (s' : DS), d = .int k ∧ k < n ∧ s'.xs = s.xs ∧ m = s'.mem r
section
variable {Γ : Fn} {G : Str → Option D}
theorem pow6000 : (0 : Int) < 1 * 2 ^ (6000 : Int).toNat := by
  rw [Int.one_mul]
  exact Int.pow_pos (by decide)
theorem drawn_mod {s s' : DS} {r : Mem} {n : Nat} {k : Int} (hn : 0 < n) (h : s'.xs = s.xs) : (gcD (s.mem r) (.int (k % n)) (s'.mem r)).wp (Drawn s r n) := by
  rw [gc_ds0 h (by simp)]
  have h0 : (0 : Int) < n := by omega
  have h1 := Int.emod_nonneg k (Int.ne_of_gt h0)
  have h2 := Int.emod_lt_of_pos k h0
  refine ⟨(k % n).toNat, s', ?_, by omega, h, rfl⟩
  rw [Int.toNat_of_nonneg h1]
theorem draw_ok {s : DS} {r : Mem} {n : Nat} (hn : 0 < n) (hn2 : n < 1073741824) : (fin (s.mem r) (dSs Γ G cDraw [some (.ref 1), some (.int n), none, none, none] (s.mem r))).wp (Drawn s r n) := by
  have h0 : (0 : Int) < n := by omega
  have h1 : (n : Int) < 1073741824 := by omega
  obtain ⟨xs, i, b, x⟩ := s
  simp only [wp_fin]
  have hp : (0 : Int) < 2 ^ 6000 := Int.pow_pos (by decide)
  by_cases hb : 0 < b
  · simp [cDraw, DS.mem, DS.mo, hb, hn, h1]
    exact drawn_mod (s := ⟨xs, i, b, x⟩) (s' := ⟨xs, i, b / n, x⟩) hn rfl
  · by_cases hi : i < xs.length
    · simp [cDraw, DS.mem, DS.mo, hb, hn, h1, hi, atI_natC]
      generalize xs[i] = c
      by_cases hg : 2000000000000000000 ≤ (2 * if c < 0 then -c else c) + if c < 0 then 1 else 0
      · simp [hg, hp, hn, h1]
        exact drawn_mod (s := ⟨xs, i, b, x⟩) (s' := ⟨xs, i + 1, _, x⟩) hn rfl
      · simp [hg, hn, h1]
        exact drawn_mod (s := ⟨xs, i, b, x⟩) (s' := ⟨xs, i + 1, b, _⟩) hn rfl
    · simp [cDraw, DS.mem, DS.mo, hb, hn, h1, hi]
      exact drawn_mod (s := ⟨xs, i, b, x⟩) (s' := ⟨xs, i + 1, b, _⟩) hn rfl
theorem begin_comp {xs : List Int} (h : xs.length ≤ 1000) {m : Mem} {σ : Loc} (h0 : σ[0]? = some (some (.kl (xs.map .int)))) (h1 : σ.length = 2) :
    dE Γ G (.comp [1] (.name 1) (.plain (.var 0)) .none (.bi .int (.cons (.var 1) .nil))) σ m = .ok (.ref m.length) (m ++ [.lst (xs.map .int)]) := by
  simp [h0]
  rw [comp_mapL (f := D.int) (fun i hi acc => by simp [h1]) (by rw [sizeLine_eq]; omega)]
theorem begin_ok {xs : List Int} (h : xs.length ≤ 1000) : fin [] (dSs Γ G cBegin [some (.kl (xs.map .int)), none] []) = .ok (.ref 1) (DS.mem ⟨xs, 0, 0, 7⟩ []) := by
  have hc := begin_comp (Γ := Γ) (G := G) h (m := []) (σ := [some (.kl (xs.map .int)), none]) rfl rfl
  simp only [cBegin, dSs_cons, dS_ret, dE_lst, dEs_cons, hc]
  simp [gcD, oldOk, DS.mem, DS.mo]
/-- what the laws' draws do -/
def DrawG (Γ : Fn) : Prop := ∀ (n : Nat) (s : DS) (r : Mem), 0 < n → n < 1073741824 → (Γ "_law_draw" [.ref 1, .int n] (s.mem r)).wp (Drawn s r n)
theorem idx_seq {m : Mem} {row : D} {ys : List D} (hr : seqOf m row = some ys) (k : Int) : idxD row (.int k) m = match atI ys k with | some d => .ok d m | none => .bad := by
  cases row with
  | str x => simp [seqOf] at hr
  | tup xs => simp only [seqOf, Option.some.injEq] at hr; subst hr; rfl
  | kl xs => simp only [seqOf, Option.some.injEq] at hr; subst hr; rfl
  | ref n =>
    show (match seqOf m (.ref n) with | some xs => (match atI xs k with | some d => Res.ok d m | none => .bad) | none => .bad) = _
    rw [hr]
  | _ => simp [seqOf] at hr
theorem len_seq {m : Mem} {row : D} {ys : List D} (hr : seqOf m row = some ys) : biD .len [row] m = .ok (.int ys.length) m := by
  cases row with
  | str x => simp [seqOf] at hr
  | _ => simp only [biD, lenD, hr, Option.map_some]
theorem below_get {n : Nat} : ∀ {ys : List D}, belows n ys = true → ∀ {j : Nat} {d : D}, ys[j]? = some d → below n d = true
  | [], _, j, d, h => by simp at h
  | y :: ys, hb, 0, d, h => by simp at hb h; exact h ▸ hb.1
  | y :: ys, hb, j + 1, d, h => by simp at hb h; exact below_get hb.2 h
theorem pick_ok {s : DS} {r : Mem} {row : D} {ys : List D} (hd : DrawG Γ) (hr : ∀ s' : DS, seqOf (s'.mem r) row = some ys) (h0 : 0 < ys.length) (h1 : ys.length < 1073741824) (hb : belows (r.length + 2) ys = true) :
    (fin (s.mem r) (dSs Γ G cPick [some (.ref 1), some row] (s.mem r))).wp fun d m => ∃ (j : Nat) (s' : DS), ys[j]? = some d ∧ s'.xs = s.xs ∧ m = s'.mem r := by
  obtain ⟨d, m, e, j, s', rfl, hj, hx, rfl⟩ := wp_ex_eq (hd ys.length s r h0 h1)
  have e2 : ys[j]? = some ys[j] := List.getElem?_eq_getElem hj
  simp only [cPick, dSs_cons, dSs_nil, dS_ret, dE_idx, dE_var, dE_call, dEs_cons, dE_bi, dEs_nil, List.getElem?_cons_zero, List.getElem?_cons_succ, Res.ok_bind, len_seq (hr s), e, idx_seq (hr s'), atI_natC, e2, Res.ok_to, SR.rt_seq, fin_rt]
  rw [gc_ds0 hx (below_get hb e2)]
  exact ⟨j, s', e2, hx, rfl⟩
theorem rare_ok {s : DS} {r : Mem} {n : Nat} (hd : DrawG Γ) (h0 : 0 < n) (h1 : n < 1073741824) :
    (fin (s.mem r) (dSs Γ G cRare [some (.ref 1), some (.int n)] (s.mem r))).wp fun d m => ∃ (b : Bool) (s' : DS), d = .bool b ∧ s'.xs = s.xs ∧ m = s'.mem r := by
  obtain ⟨d, m, e, j, s', rfl, hj, hx, rfl⟩ := wp_ex_eq (hd n s r h0 h1)
  simp [cRare, e, hx]
  exact ⟨(Classical.em _).symm, s', hx, rfl⟩
end
end PC

/-! PLaw: small defs that stand in many laws. -/
namespace PC
open PySem L2 Classical
def cPop : CSs :=
  .cons (.ret (.meth .popAt (.var 1) (.cons (.call "_law_draw" (.cons (.var 0) (.cons (.bi .len (.cons (.var 1) .nil)) .nil))) .nil))) <|
  .nil
def cPool : CSs :=
  .cons (.asg (.name 0) (.lit (.str "a b2 sum left r k0 carry z9z full tail n m8 aa busy cnt p t4 even2 ab1 head u v2 w lowest high mid "))) <|
  .cons (.asg (.name 0) (.bin .Add (.var 0) (.lit (.str "s t e f g h i j k x y q7 deep turn gate l5 hold next1 o c0 d two zz1 near far9 last ring2 ")))) <|
  .cons (.ret (.meth .split (.bin .Add (.var 0) (.lit (.str "aaaaaaa8 b c1 top2 net3 row col7 v"))) (.cons (.lit (.str " ")) .nil))) <|
  .nil
def cIsInt : CSs :=
  .cons (.ret (.and (.isin (.var 0) "int") (.not (.isin (.var 0) "bool")))) <|
  .nil
def cIsInts : CSs :=
  .cons (.ret (.and (.isin (.var 0) "tuple") (.gc (.bi .all (.cons (.comp [1] (.name 1) (.plain (.var 0)) .none (.call "_law_is_int" (.cons (.var 1) .nil))) .nil))))) <|
  .nil
def cLit : CSs :=
  .cons (.asg (.name 2) (.bi .max2 (.cons (.call "_law_draw" (.cons (.var 0) (.cons (.var 1) .nil))) (.cons (.call "_law_draw" (.cons (.var 0) (.cons (.var 1) .nil))) .nil)))) <|
  .cons (.ret (.bin .Add (.bin .Mult (.lit (.int 2)) (.var 2)) (.call "_law_draw" (.cons (.var 0) (.cons (.lit (.int 2)) .nil))))) <|
  .nil
section
variable {Γ : Fn} {G : Str → Option D} {m : Mem}
def poolS : List Str := Txt.split ((Str.ofString "a b2 sum left r k0 carry z9z full tail n m8 aa busy cnt p t4 even2 ab1 head u v2 w lowest high mid " ++ Str.ofString "s t e f g h i j k x y q7 deep turn gate l5 hold next1 o c0 d two zz1 near far9 last ring2 ") ++ Str.ofString "aaaaaaa8 b c1 top2 net3 row col7 v") (Str.ofString " ")
theorem pool_len : poolS.length = 61 := by decide +kernel
theorem pool_ok : fin m (dSs Γ G cPool [none] m) = .ok (.ref m.length) (m ++ [.lst (poolS.map .str)]) := by
  have l1 : Str.length (Str.ofString "a b2 sum left r k0 carry z9z full tail n m8 aa busy cnt p t4 even2 ab1 head u v2 w lowest high mid ") + Str.length (Str.ofString "s t e f g h i j k x y q7 deep turn gate l5 hold next1 o c0 d two zz1 near far9 last ring2 ") ≤ sizeLine := by decide +kernel
  have l2 : Str.length (Str.ofString "a b2 sum left r k0 carry z9z full tail n m8 aa busy cnt p t4 even2 ab1 head u v2 w lowest high mid " ++ Str.ofString "s t e f g h i j k x y q7 deep turn gate l5 hold next1 o c0 d two zz1 near far9 last ring2 ") + Str.length (Str.ofString "aaaaaaa8 b c1 top2 net3 row col7 v") ≤ sizeLine := by decide +kernel
  have l3 : Str.length (Str.ofString " ") ≠ 0 := by decide +kernel
  have l4 : Str.length ((Str.ofString "a b2 sum left r k0 carry z9z full tail n m8 aa busy cnt p t4 even2 ab1 head u v2 w lowest high mid " ++ Str.ofString "s t e f g h i j k x y q7 deep turn gate l5 hold next1 o c0 d two zz1 near far9 last ring2 ") ++ Str.ofString "aaaaaaa8 b c1 top2 net3 row col7 v") + 2 ≤ sizeLine := by decide +kernel
  simp only [cPool, dSs_cons, dSs_nil, dS_asg, dS_ret, dE_lit, dE_bin, dE_var, dE_meth, dEs_cons, dEs_nil, dT_name, List.set_cons_zero, List.getElem?_cons_zero, Res.ok_bind, Res.ok_to, SR.nx_seq, opB_addS l1, opB_addS l2, pre_spl, if_true, mt_spl l3 l4, SR.rt_seq, fin_rt]
  rw [gc_new]
  · rfl
  · simp
theorem is_int_ok {i : Int} : fin m (dSs Γ G cIsInt [some (.int i)] m) = .ok (.bool true) m := by simp [cIsInt]
theorem is_ints_ok {xs : List Int} (h : ∀ (i : Int) m, Γ "_law_is_int" [.int i] m = .ok (.bool true) m) (hl : xs.length ≤ sizeLine) : fin m (dSs Γ G cIsInts [some (.tup (xs.map .int)), none] m) = .ok (.bool true) m := by
  simp [cIsInts]
  rw [comp_mapL (f := fun _ => .bool true) (fun i hi acc => by simp [h]) hl]
  simp
theorem lit_okD {s : DS} {r : Mem} {n : Nat} (hd : DrawG Γ) (h0 : 0 < n) (h1 : n < 1073741824) : (fin (s.mem r) (dSs Γ G cLit [some (.ref 1), some (.int n), none] (s.mem r))).wp fun d m => ∃ (l : Nat) (s' : DS), d = .int l ∧ l < 2 * n ∧ s'.xs = s.xs ∧ m = s'.mem r := by
  obtain ⟨d, m, e1, j1, s1, rfl, hj1, hx1, rfl⟩ := wp_ex_eq (hd n s r h0 h1)
  obtain ⟨d, m, e2, j2, s2, rfl, hj2, hx2, rfl⟩ := wp_ex_eq (hd n s1 r h0 h1)
  obtain ⟨d, m, e3, j3, s3, rfl, hj3, hx3, rfl⟩ := wp_ex_eq (hd 2 s2 r (by omega) (by omega))
  simp at e3
  have hx : s3.xs = s.xs := hx3.trans (hx2.trans hx1)
  simp [cLit, e1, e2, e3, hx]
  by_cases h : j1 < j2
  · rw [if_pos h]
    exact ⟨2 * j2 + j3, by omega, by omega, s3, hx, rfl⟩
  · rw [if_neg h]
    exact ⟨2 * j1 + j3, by omega, by omega, s3, hx, rfl⟩
theorem gc_dsG {s s' : DS} {r r1 j : Mem} {d : D} (hx : s'.xs = s.xs) (hl : List.length r1 = List.length r) (ho : ∀ (i : Nat) (o : MO), r1[i]? = some o → r[i]? = some o ∨ o.below (List.length r + 2) = true) (hb : below (r.length + 2) d = true) :
    gcD (s.mem r) d (s'.mem (r1 ++ j)) = .ok d (s'.mem r1) := by
  have h : oldOk (s.mem r) (s'.mem (r1 ++ j)) := by
    refine ⟨by simp [hl], fun i hi => ?_⟩
    match i, hi with
    | 0, _ => exact .inl (by rw [DS.get0, DS.get0, hx])
    | 1, _ => exact .inr ⟨_, rfl, by simp [DS.mo]⟩
    | i + 2, hi =>
      have hi' : i < r1.length := by simp at hi; omega
      have e : (r1 ++ j)[i]? = some r1[i] := by rw [List.getElem?_append_left hi', List.getElem?_eq_getElem hi']
      rcases ho i _ (List.getElem?_eq_getElem hi') with q | q
      · exact .inl (by rw [DS.get2, DS.get2, e, q])
      · exact .inr ⟨_, by rw [DS.get2, e], by simpa using q⟩
  unfold gcD
  rw [if_pos h, if_pos (by simpa using hb)]
  congr 1
  simp [DS.mem, ← hl]
@[simp] theorem gc_dsT {s s' : DS} {a b : Mem} {d : D} (hx : s'.xs = s.xs) (h : b.take (List.length a) = a) (hb : below (List.length a + 2) d = true) : gcD (s.mem a) d (s'.mem b) = .ok d (s'.mem a) := by
  have e : b = a ++ b.drop (List.length a) := by
    conv => lhs; rw [← List.take_append_drop (List.length a) b, h]
  rw [e]
  exact gc_ds hx hb
theorem gc_old {m0 m : Mem} {d : D} (h : oldOk m0 m) (hb : below m0.length d = true) : gcD m0 d m = .ok d (m.take m0.length) := by
  unfold gcD
  rw [if_pos h, if_pos hb]
theorem pop_ok {s : DS} {r : Mem} {j : Nat} {ys : List D} (hd : DrawG Γ) (hr : r[j]? = some (.lst ys)) (h0 : 0 < ys.length) (h1 : ys.length < 1073741824) (hb : belows (r.length + 2) ys = true) :
    (fin (s.mem r) (dSs Γ G cPop [some (.ref 1), some (.ref (j + 2))] (s.mem r))).wp fun d m => ∃ (i : Nat) (s' : DS), ys[i]? = some d ∧ s'.xs = s.xs ∧ m = s'.mem (r.set j (.lst (ys.eraseIdx i))) := by
  obtain ⟨d, m, e, i, s', rfl, hi, hx, rfl⟩ := wp_ex_eq (hd ys.length s r h0 h1)
  have e2 : ys[i]? = some ys[i] := List.getElem?_eq_getElem hi
  have hix : ixN ys.length (i : Int) = some i := by
    unfold ixN
    rw [if_pos (by omega), if_pos (by omega)]; simp
  have hlo : -(2 ^ 63) ≤ (i : Int) ∧ (i : Int) < 2 ^ 63 := by omega
  have hold : oldOk (s.mem r) (s'.mem (r.set j (.lst (ys.eraseIdx i)))) := by
    refine ⟨by simp, fun a ha => ?_⟩
    match a, ha with
    | 0, _ => exact .inl (by rw [DS.get0, DS.get0, hx])
    | 1, _ => exact .inr ⟨_, rfl, by simp [DS.mo]⟩
    | a + 2, ha =>
      by_cases haj : j = a
      · subst haj
        refine .inr ⟨.lst (ys.eraseIdx i), by simp [List.getElem?_set, (List.getElem?_eq_some_iff.mp hr).1], ?_⟩
        simp only [DS.len, mo_below_lst]
        exact belows_all fun x hx => by
          obtain ⟨q, hq⟩ := List.mem_iff_getElem?.mp (List.mem_of_mem_eraseIdx hx)
          exact below_get hb hq
      · exact .inl (by simp [List.getElem?_set, haj])
  simp only [cPop, dSs_cons, dSs_nil, dS_ret, dE_meth, dE_var, dE_call, dEs_cons, dE_bi, dEs_nil, List.getElem?_cons_zero, List.getElem?_cons_succ, Res.ok_bind, pre_popAt, DS.get2, hr, if_true, len_ref, e, mt_popI, if_lo hlo, hix, e2, Res.ok_to, SR.rt_seq, fin_rt, DS.set2]
  rw [gc_old hold (by rw [DS.len]; exact below_get hb e2)]
  refine ⟨i, s', e2, hx, ?_⟩
  simp [DS.mem]
  exact List.take_of_length_le (by simp)
end
end PC

/-! PNet: the laws' drawn nets. -/
namespace PC
open PySem L2 Classical
def cNet : CSs :=
  .cons (.asg (.name 6) (.call "_law_pool" .nil)) <|
  .cons (.asg (.name 7) (.bin .Add (.bin .Add (.lit (.int 1)) (.var 1)) (.var 2))) <|
  .cons (.asg (.name 8) (.comp [14] (.name 14) (.rng1 (.var 3)) .none (.tup (.cons (.call "_law_drawn_literal" (.cons (.var 0) (.cons (.bin .Add (.var 7) (.var 14)) .nil))) (.cons (.call "_law_drawn_literal" (.cons (.var 0) (.cons (.bin .Add (.var 7) (.var 14)) .nil))) .nil))))) <|
  .cons (.asg (.name 9) (.bin .Add (.var 7) (.var 3))) <|
  .cons (.asg (.name 10) (.gc (.bi .tuple (.cons (.comp [14] (.name 14) (.rng1 (.var 1)) .none (.call "_law_pop" (.cons (.var 0) (.cons (.var 6) .nil)))) .nil)))) <|
  .cons (.asg (.name 11) (.comp [14] (.name 14) (.rng1 (.var 2)) .none (.tup (.cons (.call "_law_pop" (.cons (.var 0) (.cons (.var 6) .nil))) (.cons (.call "_law_draw" (.cons (.var 0) (.cons (.lit (.int 2)) .nil))) (.cons (.call "_law_drawn_literal" (.cons (.var 0) (.cons (.var 9) .nil))) .nil)))))) <|
  .cons (.asg (.name 12) (.comp [14] (.name 14) (.rng1 (.var 4)) .none (.tup (.cons (.call "_law_pop" (.cons (.var 0) (.cons (.var 6) .nil))) (.cons (.call "_law_drawn_literal" (.cons (.var 0) (.cons (.var 9) .nil))) .nil))))) <|
  .cons (.asg (.name 13) (.comp [14] (.name 14) (.rng1 (.var 5)) .none (.tup (.cons (.call "_law_pop" (.cons (.var 0) (.cons (.var 6) .nil))) (.cons (.call "_law_drawn_literal" (.cons (.var 0) (.cons (.var 9) .nil))) .nil))))) <|
  .cons (.ret (.tup (.cons (.lit (.str "net")) (.cons (.var 10) (.cons (.bi .tuple (.cons (.var 11) .nil)) (.cons (.bi .tuple (.cons (.var 8) .nil)) (.cons (.bi .tuple (.cons (.var 12) .nil)) (.cons (.bi .tuple (.cons (.var 13) .nil)) .nil)))))))) <|
  .nil
abbrev natD (n : Nat) : PC.D := .int (n : Nat)
/-- a net as a plain thing -/
structure NetV where
  given : List Str
  rows : List (Str × Nat × Nat)
  pairs : List (Nat × Nat)
  shown : List (Str × Nat)
  asked : List (Str × Nat)
abbrev rowD (p : Str × Nat × Nat) : D := .tup [.str p.1, natD p.2.1, natD p.2.2]
abbrev pairD (p : Nat × Nat) : D := .tup [natD p.1, natD p.2]
abbrev outD (p : Str × Nat) : D := .tup [.str p.1, natD p.2]
def NetV.d (N : NetV) : D := .tup [.str "net", .tup (N.given.map .str), .tup (N.rows.map rowD), .tup (N.pairs.map pairD), .tup (N.shown.map outD), .tup (N.asked.map outD)]
def NetV.first (N : NetV) : Nat := 1 + N.given.length + N.rows.length
def NetV.size (N : NetV) : Nat := N.first + N.pairs.length
def NetV.names (N : NetV) : List Str := N.given ++ N.rows.map (·.1) ++ N.shown.map (·.1) ++ N.asked.map (·.1)
structure NetV.Ok (N : NetV) : Prop where
  pairs : ∀ (k : Nat) p, N.pairs[k]? = some p → p.1 < 2 * (N.first + k) ∧ p.2 < 2 * (N.first + k)
  rows : ∀ p ∈ N.rows, p.2.1 < 2 ∧ p.2.2 < 2 * N.size
  shown : ∀ p ∈ N.shown, p.2 < 2 * N.size
  asked : ∀ p ∈ N.asked, p.2 < 2 * N.size
  names : N.names.Nodup
  pool : ∀ x ∈ N.names, x ∈ poolS
theorem NetV.below {N : NetV} {n : Nat} : below n N.d = true := by
  simp [NetV.d]
def GotLit (s : DS) (r : Mem) (n : Nat) (d : D) (m : Mem) : Prop := ∃ (l : Nat) (s' : DS), d = .int l ∧ l < 2 * n ∧ s'.xs = s.xs ∧ m = s'.mem r
def LitG (Γ : Fn) : Prop := ∀ (n : Nat) (s : DS) (r : Mem), 0 < n → n < 1073741824 → (Γ "_law_drawn_literal" [.ref 1, .int n] (s.mem r)).wp (GotLit s r n)
def PopG (Γ : Fn) : Prop := ∀ (s : DS) (r : Mem) (j : Nat) (ys : List D), r[j]? = some (.lst ys) → 0 < ys.length → ys.length < 1073741824 → belows (r.length + 2) ys = true →
    (Γ "_law_pop" [.ref 1, .ref (j + 2)] (s.mem r)).wp fun d m => ∃ (i : Nat) (s' : DS), ys[i]? = some d ∧ s'.xs = s.xs ∧ m = s'.mem (r.set j (.lst (ys.eraseIdx i)))
def PoolG (Γ : Fn) : Prop := ∀ m, Γ "_law_pool" [] m = .ok (.ref m.length) (m ++ [.lst (poolS.map .str)])
theorem pool_nodup : poolS.Nodup := by decide +kernel
@[simp] theorem Res.bind_assoc {α β γ : Type} (r : Res α) (f : α → Mem → Res β) (g : β → Mem → Res γ) : (r.bind f).bind g = r.bind fun a m => (f a m).bind g := by cases r <;> rfl
theorem erase_perm {α : Type} : ∀ {l : List α} {i : Nat} (h : i < l.length), (l[i] :: l.eraseIdx i).Perm l
  | a :: l, 0, _ => List.Perm.refl _
  | a :: l, i + 1, h => by
    simp only [List.getElem_cons_succ, List.eraseIdx_cons_succ]
    exact (List.Perm.swap _ _ _).trans (List.Perm.cons a (erase_perm (by simpa using h)))
theorem map_erase {α β : Type} {f : α → β} : ∀ {l : List α} {i : Nat}, (l.map f).eraseIdx i = (l.eraseIdx i).map f
  | [], _ => rfl
  | a :: l, 0 => rfl
  | a :: l, i + 1 => by simp [map_erase (l := l)]
section
variable {Γ : Fn} {G : Str → Option D} {P : List Str}
theorem step {s : CS} {ss : CSs} {σ : Loc} {m : Mem} {N : Loc → Mem → Prop} {R : D → Mem → Prop} {B C : Loc → Mem → Prop} (h : (dS Γ G s σ m).wp (fun σ1 m1 => (dSs Γ G ss σ1 m1).wp N R B C) R B C) : (dSs Γ G (.cons s ss) σ m).wp N R B C := by
  rw [dSs_cons, swp_seq]; exact h
/-- a name is popped: the names are the second thing behind the script's -/
theorem pop_name (hp : PopG Γ) {s : DS} {r J : Mem} {L used : List Str} (hP : P.length = 61) (hL : 0 < L.length) (hk : (used ++ L).Perm P) :
    (Γ "_law_pop" [.ref 1, .ref (r.length + 2)] (s.mem (r ++ .lst (L.map .str) :: J))).wp fun d m => ∃ (x : Str) (L' : List Str) (s' : DS), d = .str x ∧ L'.length + 1 = L.length ∧ ((used ++ [x]) ++ L').Perm P ∧ s'.xs = s.xs ∧ m = s'.mem (r ++ .lst (L'.map .str) :: J) := by
  have hl : L.length ≤ 61 := by have := hk.length_eq; rw [hP] at this; simp at this; omega
  refine (hp s (r ++ .lst (L.map .str) :: J) r.length (L.map .str) (by simp) (by simpa using hL) (by simp; omega) (by simp)).imp ?_
  rintro d m ⟨i, s', hd, hx, rfl⟩
  rw [List.getElem?_map] at hd
  obtain ⟨x, hx2, rfl⟩ := Option.map_eq_some_iff.mp hd
  obtain ⟨hi, hx3⟩ := List.getElem?_eq_some_iff.mp hx2
  refine ⟨x, L.eraseIdx i, s', rfl, by rw [List.length_eraseIdx_of_lt hi]; omega, ?_, hx, ?_⟩
  · refine List.Perm.trans ?_ hk
    rw [List.append_assoc]
    refine List.Perm.append_left used ?_
    subst hx3
    exact erase_perm hi
  · simp [map_erase]
/-- the pairs -/
theorem comp_pairs (hl : LitG Γ) {s : DS} {r : Mem} {f n : Nat} {body : D → Mem → Res (Option D)} {M0 : Mem} {a : Nat} (h0 : 0 < f) (h1 : f + n < 1000000)
    (ha : a = r.length + 2)
    (hM : M0 = s.mem (r ++ [.lst []]))
    (hb : ∀ (k : Nat) m, body (.int (k : Nat)) m = (Γ "_law_drawn_literal" [.ref 1, .int (f + k : Nat)] m).bind fun x m1 => (Γ "_law_drawn_literal" [.ref 1, .int (f + k : Nat)] m1).bind fun y m2 => .ok (some (.tup [x, y])) m2) :
    (compD [] a body ((List.range n).map fun i => .int (i : Nat)) M0).wp fun d m => ∃ (ps : List (Nat × Nat)) (s' : DS), d = .ref a ∧ m = s'.mem (r ++ [.lst (ps.map pairD)]) ∧ s'.xs = s.xs ∧ ps.length = n ∧ ∀ (k : Nat) p, ps[k]? = some p → p.1 < 2 * (f + k) ∧ p.2 < 2 * (f + k) := by
  subst ha
  subst hM
  refine comp_wpL (fun done acc m => ∃ (ps : List (Nat × Nat)) (s' : DS), acc = ps.map pairD ∧ m = s'.mem (r ++ [.lst acc]) ∧ s'.xs = s.xs ∧ ps.length = done.length ∧ ∀ (k : Nat) p, ps[k]? = some p → p.1 < 2 * (f + k) ∧ p.2 < 2 * (f + k)) ⟨[], s, rfl, rfl, rfl, rfl, by simp⟩ (fun _ _ _ _ => by simp) ?_ ?_
  · rintro done y acc m hy hpre ⟨ps, s1, rfl, rfl, hx1, hlen, hps⟩
    have hy' : y = done.length := by
      obtain ⟨t, ht⟩ := hpre
      have : (List.range n)[done.length]? = some y := by rw [← ht]; simp
      have := (List.getElem?_eq_some_iff.mp this).2
      simp at this; exact this.symm
    have hyn : y < n := by simpa using hy
    rw [hb]
    simp only [wp_bind]
    refine (hl (f + y) s1 _ (by omega) (by omega)).imp ?_
    rintro d m ⟨l1, s2, rfl, hl1, hx2, rfl⟩
    refine (hl (f + y) s2 _ (by omega) (by omega)).imp ?_
    rintro d m ⟨l2, s3, rfl, hl2, hx3, rfl⟩
    simp only [wp_ok]
    refine ⟨by simp, by rw [sizeLine_eq]; simp; omega, ps ++ [(l1, l2)], s3, by simp, by simp, by rw [hx3, hx2, hx1], by simp [hlen], ?_⟩
    intro k p hk
    by_cases hkl : k < ps.length
    · rw [List.getElem?_append_left hkl] at hk
      exact hps k p hk
    · rw [List.getElem?_append_right (by omega)] at hk
      have hk0 : k - ps.length = 0 := by
        have := (List.getElem?_eq_some_iff.mp hk).1; simp at this; omega
      rw [hk0] at hk
      simp at hk
      subst hk
      have : k = y := by omega
      subst this
      exact ⟨hl1, hl2⟩
  · rintro acc m ⟨ps, s1, rfl, rfl, hx1, hlen, hps⟩
    exact ⟨ps, s1, rfl, rfl, hx1, by simpa using hlen, hps⟩
/-- names alone -/
theorem comp_given (hp : PopG Γ) {s : DS} {r J : Mem} {n a : Nat} {L used : List Str} {body : D → Mem → Res (Option D)} {M0 : Mem} (hP : P.length = 61) (hL : n ≤ L.length) (hk : (used ++ L).Perm P)
    (ha : a = r.length + J.length + 3) (hM : M0 = s.mem (r ++ .lst (L.map .str) :: (J ++ [.lst []])))
    (hb : ∀ (k : Nat) m, body (.int (k : Nat)) m = (Γ "_law_pop" [.ref 1, .ref (r.length + 2)] m).bind fun x m1 => .ok (some x) m1) :
    (compD [] a body ((List.range n).map fun i => .int (i : Nat)) M0).wp fun d m => ∃ (ps : List Str) (L' : List Str) (s' : DS), d = .ref a ∧ m = s'.mem (r ++ .lst (L'.map .str) :: (J ++ [.lst (ps.map .str)])) ∧ s'.xs = s.xs ∧ ps.length = n ∧ L'.length + n = L.length ∧ ((used ++ ps) ++ L').Perm P := by
  subst ha
  subst hM
  refine comp_wpL (fun done acc m => ∃ (ps : List Str) (L' : List Str) (s' : DS), acc = ps.map .str ∧ m = s'.mem (r ++ .lst (L'.map .str) :: (J ++ [.lst acc])) ∧ s'.xs = s.xs ∧ ps.length = done.length ∧ L'.length + done.length = L.length ∧ ((used ++ ps) ++ L').Perm P) ⟨[], L, s, rfl, rfl, rfl, rfl, by simp, by simpa using hk⟩ (fun _ _ _ _ => by simp) ?_ ?_
  · rintro done y acc m hy hpre ⟨ps, L', s1, rfl, rfl, hx1, hlen, hlen2, hper⟩
    have hdn : done.length < n := by have := hpre.length_le; simp at this; omega
    have hl : L.length ≤ 61 := by have := hk.length_eq; rw [hP] at this; simp at this; omega
    rw [hb]
    simp only [wp_bind]
    refine (pop_name hp hP (by omega) hper).imp ?_
    rintro d m ⟨x, L2, s2, rfl, hl2, hper2, hx2, rfl⟩
    simp only [wp_ok]
    refine ⟨?_, by rw [sizeLine_eq]; simp; omega, ps ++ [x], L2, s2, by simp, ?_, by rw [hx2, hx1], by simp [hlen], by simp; omega, by simpa using hper2⟩
    · rw [show r.length + J.length + 3 = (r.length + (J.length + 1)) + 2 by omega, DS.get2, List.getElem?_append_right (by omega)]
      simp
    · rw [show r.length + J.length + 3 = (r.length + (J.length + 1)) + 2 by omega, DS.set2, List.set_append_right _ _ (by omega)]
      simp
  · rintro acc m ⟨ps, L', s1, rfl, rfl, hx1, hlen, hlen2, hper⟩
    exact ⟨ps, L', s1, rfl, rfl, hx1, by simpa using hlen, by simpa using hlen2, hper⟩
/-- names with a literal -/
theorem comp_named (hp : PopG Γ) (hlt : LitG Γ) {s : DS} {r J : Mem} {n a z : Nat} {L used : List Str} {body : D → Mem → Res (Option D)} {M0 : Mem} (hz : 0 < z) (hz2 : z < 1000000) (hP : P.length = 61) (hL : n ≤ L.length) (hk : (used ++ L).Perm P)
    (ha : a = r.length + J.length + 3) (hM : M0 = s.mem (r ++ .lst (L.map .str) :: (J ++ [.lst []])))
    (hb : ∀ (k : Nat) m, body (.int (k : Nat)) m = (Γ "_law_pop" [.ref 1, .ref (r.length + 2)] m).bind fun x m1 => (Γ "_law_drawn_literal" [.ref 1, .int (z : Nat)] m1).bind fun y m2 => .ok (some (.tup [x, y])) m2) :
    (compD [] a body ((List.range n).map fun i => .int (i : Nat)) M0).wp fun d m => ∃ (ps : List (Str × Nat)) (L' : List Str) (s' : DS), d = .ref a ∧ m = s'.mem (r ++ .lst (L'.map .str) :: (J ++ [.lst (ps.map outD)])) ∧ s'.xs = s.xs ∧ ps.length = n ∧ L'.length + n = L.length ∧ ((used ++ ps.map (·.1)) ++ L').Perm P ∧ ∀ p ∈ ps, p.2 < 2 * z := by
  subst ha
  subst hM
  refine comp_wpL (fun done acc m => ∃ (ps : List (Str × Nat)) (L' : List Str) (s' : DS), acc = ps.map outD ∧ m = s'.mem (r ++ .lst (L'.map .str) :: (J ++ [.lst acc])) ∧ s'.xs = s.xs ∧ ps.length = done.length ∧ L'.length + done.length = L.length ∧ ((used ++ ps.map (·.1)) ++ L').Perm P ∧ ∀ p ∈ ps, p.2 < 2 * z) ⟨[], L, s, rfl, rfl, rfl, rfl, by simp, by simpa using hk, by simp⟩ (fun _ _ _ _ => by simp) ?_ ?_
  · rintro done y acc m hy hpre ⟨ps, L', s1, rfl, rfl, hx1, hlen, hlen2, hper, hps⟩
    have hdn : done.length < n := by have := hpre.length_le; simp at this; omega
    have hl : L.length ≤ 61 := by have := hk.length_eq; rw [hP] at this; simp at this; omega
    rw [hb]
    simp only [wp_bind]
    refine (pop_name hp hP (by omega) hper).imp ?_
    rintro d m ⟨x, L2, s2, rfl, hl2, hper2, hx2, rfl⟩
    refine (hlt z s2 _ (by omega) (by omega)).imp ?_
    rintro d m ⟨l2, s3, rfl, hl3, hx3, rfl⟩
    simp only [wp_ok]
    refine ⟨?_, by rw [sizeLine_eq]; simp; omega, ps ++ [(x, l2)], L2, s3, by simp, ?_, by rw [hx3, hx2, hx1], by simp [hlen], by simp; omega, by simpa using hper2, ?_⟩
    · rw [show r.length + J.length + 3 = (r.length + (J.length + 1)) + 2 by omega, DS.get2, List.getElem?_append_right (by omega)]
      simp
    · rw [show r.length + J.length + 3 = (r.length + (J.length + 1)) + 2 by omega, DS.set2, List.set_append_right _ _ (by omega)]
      simp
    · intro p hp
      rcases List.mem_append.mp hp with h | h
      · exact hps p h
      · rw [List.mem_singleton.mp h]; exact hl3
  · rintro acc m ⟨ps, L', s1, rfl, rfl, hx1, hlen, hlen2, hper, hps⟩
    exact ⟨ps, L', s1, rfl, rfl, hx1, by simpa using hlen, by simpa using hlen2, hper, hps⟩
/-- names with a start and a literal -/
theorem comp_rows (hp : PopG Γ) (hd : DrawG Γ) (hlt : LitG Γ) {s : DS} {r J : Mem} {n a z : Nat} {L used : List Str} {body : D → Mem → Res (Option D)} {M0 : Mem} (hz : 0 < z) (hz2 : z < 1000000) (hP : P.length = 61) (hL : n ≤ L.length) (hk : (used ++ L).Perm P)
    (ha : a = r.length + J.length + 3) (hM : M0 = s.mem (r ++ .lst (L.map .str) :: (J ++ [.lst []])))
    (hb : ∀ (k : Nat) m, body (.int (k : Nat)) m = (Γ "_law_pop" [.ref 1, .ref (r.length + 2)] m).bind fun x m1 => (Γ "_law_draw" [.ref 1, .int (2 : Nat)] m1).bind fun w m3 => (Γ "_law_drawn_literal" [.ref 1, .int (z : Nat)] m3).bind fun y m2 => .ok (some (.tup [x, w, y])) m2) :
    (compD [] a body ((List.range n).map fun i => .int (i : Nat)) M0).wp fun d m => ∃ (ps : List (Str × Nat × Nat)) (L' : List Str) (s' : DS), d = .ref a ∧ m = s'.mem (r ++ .lst (L'.map .str) :: (J ++ [.lst (ps.map rowD)])) ∧ s'.xs = s.xs ∧ ps.length = n ∧ L'.length + n = L.length ∧ ((used ++ ps.map (·.1)) ++ L').Perm P ∧ ∀ p ∈ ps, p.2.1 < 2 ∧ p.2.2 < 2 * z := by
  subst ha
  subst hM
  refine comp_wpL (fun done acc m => ∃ (ps : List (Str × Nat × Nat)) (L' : List Str) (s' : DS), acc = ps.map rowD ∧ m = s'.mem (r ++ .lst (L'.map .str) :: (J ++ [.lst acc])) ∧ s'.xs = s.xs ∧ ps.length = done.length ∧ L'.length + done.length = L.length ∧ ((used ++ ps.map (·.1)) ++ L').Perm P ∧ ∀ p ∈ ps, p.2.1 < 2 ∧ p.2.2 < 2 * z) ⟨[], L, s, rfl, rfl, rfl, rfl, by simp, by simpa using hk, by simp⟩ (fun _ _ _ _ => by simp) ?_ ?_
  · rintro done y acc m hy hpre ⟨ps, L', s1, rfl, rfl, hx1, hlen, hlen2, hper, hps⟩
    have hdn : done.length < n := by have := hpre.length_le; simp at this; omega
    have hl : L.length ≤ 61 := by have := hk.length_eq; rw [hP] at this; simp at this; omega
    rw [hb]
    simp only [wp_bind]
    refine (pop_name hp hP (by omega) hper).imp ?_
    rintro d m ⟨x, L2, s2, rfl, hl2, hper2, hx2, rfl⟩
    refine (hd 2 s2 _ (by omega) (by omega)).imp ?_
    rintro d m ⟨w, s4, rfl, hw, hx4, rfl⟩
    refine (hlt z s4 _ (by omega) (by omega)).imp ?_
    rintro d m ⟨l2, s3, rfl, hl3, hx3, rfl⟩
    simp only [wp_ok]
    refine ⟨?_, by rw [sizeLine_eq]; simp; omega, ps ++ [(x, w, l2)], L2, s3, by simp, ?_, by rw [hx3, hx4, hx2, hx1], by simp [hlen], by simp; omega, by simpa using hper2, ?_⟩
    · rw [show r.length + J.length + 3 = (r.length + (J.length + 1)) + 2 by omega, DS.get2, List.getElem?_append_right (by omega)]
      simp
    · rw [show r.length + J.length + 3 = (r.length + (J.length + 1)) + 2 by omega, DS.set2, List.set_append_right _ _ (by omega)]
      simp
    · intro p hp
      rcases List.mem_append.mp hp with h | h
      · exact hps p h
      · rw [List.mem_singleton.mp h]; exact ⟨hw, hl3⟩
  · rintro acc m ⟨ps, L', s1, rfl, rfl, hx1, hlen, hlen2, hper, hps⟩
    exact ⟨ps, L', s1, rfl, rfl, hx1, by simpa using hlen, by simpa using hlen2, hper, hps⟩
def GotNetP (P : List Str) (s : DS) (r : Mem) (i g a o c : Nat) (d : D) (m : Mem) : Prop :=
  ∃ (N : NetV) (s' : DS), d = N.d ∧ ((∀ (k : Nat) p, N.pairs[k]? = some p → p.1 < 2 * (N.first + k) ∧ p.2 < 2 * (N.first + k)) ∧ (∀ p ∈ N.rows, p.2.1 < 2 ∧ p.2.2 < 2 * N.size) ∧ (∀ p ∈ N.shown, p.2 < 2 * N.size) ∧ (∀ p ∈ N.asked, p.2 < 2 * N.size) ∧ N.names.Nodup ∧ ∀ x ∈ N.names, x ∈ P) ∧ N.given.length = i ∧ N.rows.length = g ∧ N.pairs.length = a ∧ N.shown.length = o ∧ N.asked.length = c ∧ s'.xs = s.xs ∧ m = s'.mem r
def GotNet (s : DS) (r : Mem) (i g a o c : Nat) (d : D) (m : Mem) : Prop :=
  ∃ (N : NetV) (s' : DS), d = N.d ∧ N.Ok ∧ N.given.length = i ∧ N.rows.length = g ∧ N.pairs.length = a ∧ N.shown.length = o ∧ N.asked.length = c ∧ s'.xs = s.xs ∧ m = s'.mem r
theorem gc_names {s s' : DS} {r J j : Mem} {L L' : List Str} {d : D} (hx : s'.xs = s.xs) (hb : below (r.length + J.length + 3) d = true) :
    gcD (s.mem (r ++ .lst (L.map .str) :: J)) d (s'.mem (r ++ .lst (L'.map .str) :: (J ++ j))) = .ok d (s'.mem (r ++ .lst (L'.map .str) :: J)) := by
  have e : r ++ MO.lst (L'.map .str) :: (J ++ j) = (r ++ MO.lst (L'.map .str) :: J) ++ j := by simp
  rw [e]
  refine gc_dsG hx (by simp) ?_ (by simpa [Nat.add_assoc, Nat.add_comm, Nat.add_left_comm] using hb)
  intro i o h
  rcases Nat.lt_trichotomy i r.length with hi | rfl | hi
  · rw [List.getElem?_append_left hi] at h ⊢
    exact .inl h
  · simp at h
    subst h
    exact .inr (by simp)
  · refine .inl ?_
    rw [List.getElem?_append_right (by omega)] at h ⊢
    obtain ⟨q, hq⟩ : ∃ q, i - r.length = q + 1 := ⟨i - r.length - 1, by omega⟩
    rw [hq] at h ⊢
    simpa using h
theorem net_okP (hd : DrawG Γ) (hl : LitG Γ) (hp : PopG Γ) {P : List Str} (hP : P.length = 61) (hN : P.Nodup) (hpool : ∀ m, Γ "_law_pool" [] m = .ok (.ref m.length) (m ++ [.lst (P.map .str)])) {s : DS} {r : Mem} {i g a o c : Nat} (h : i + g + o + c ≤ 61) (ha : a < 100000) :
    (fin (s.mem r) (dSs Γ G cNet [some (.ref 1), some (natD i), some (natD g), some (natD a), some (natD o), some (natD c), none, none, none, none, none, none, none, none, none] (s.mem r))).wp (GotNetP P s r i g a o c) := by
  have hi : i < 2 ^ 62 := by omega
  have hg : g < 2 ^ 62 := by omega
  have ho : o < 2 ^ 62 := by omega
  have hc : c < 2 ^ 62 := by omega
  have ha' : a < 2 ^ 62 := by omega
  have e0 := hpool (s.mem r)
  simp at e0
  rw [wp_fin]
  refine step ?_
  simp [-dSs_cons, e0]
  refine step ?_
  simp [-dSs_cons]
  refine step ?_
  simp [-dSs_cons, ha', rng_nat]
  refine (comp_pairs hl (s := s) (r := r ++ [.lst (P.map .str)]) (f := 1 + i + g) (n := a) (by omega) (by omega) (by simp) (by simp) (fun k m => by simp)).imp ?_
  rintro d m ⟨ps, s1, rfl, rfl, hx1, hps1, hps2⟩
  refine step ?_
  simp [-dSs_cons]
  refine step ?_
  simp [-dSs_cons, hi, rng_nat]
  refine (comp_given hp (s := s1) (r := r) (J := [.lst (ps.map pairD)]) (n := i) (used := []) (L := P) hP (by omega) (by simp) (by simp) (by simp) (fun k m => by simp)).imp ?_
  rintro d m ⟨gs, L1, s2, rfl, rfl, hx2, hgl, hL1, hp1⟩
  have g1 := gc_names (s := s1) (s' := s2) (r := r) (J := [.lst (ps.map pairD)]) (j := [.lst (gs.map .str)]) (L := P) (L' := L1) (d := .tup (gs.map .str)) hx2 (by simp)
  simp at g1
  simp [-dSs_cons, g1]
  refine step ?_
  simp [-dSs_cons, hg, rng_nat]
  refine (comp_rows hp hd hl (s := s2) (r := r) (J := [.lst (ps.map pairD)]) (n := g) (z := 1 + i + g + a) (used := [] ++ gs) (L := L1) (by omega) (by omega) hP (by omega) hp1 (by simp) (by simp) (fun k m => by simp)).imp ?_
  rintro d m ⟨rs, L2, s3, rfl, rfl, hx3, hrl, hL2, hp2, hrs⟩
  simp [-dSs_cons]
  refine step ?_
  simp [-dSs_cons, ho, rng_nat]
  refine (comp_named hp hl (s := s3) (r := r) (J := [.lst (ps.map pairD), .lst (rs.map rowD)]) (n := o) (z := 1 + i + g + a) (L := L2) (by omega) (by omega) hP (by omega) hp2 (by simp) (by simp) (fun k m => by simp)).imp ?_
  rintro d m ⟨os, L3, s4, rfl, rfl, hx4, hol, hL3, hp3, hos⟩
  simp [-dSs_cons]
  refine step ?_
  simp [-dSs_cons, hc, rng_nat]
  refine (comp_named hp hl (s := s4) (r := r) (J := [.lst (ps.map pairD), .lst (rs.map rowD), .lst (os.map outD)]) (n := c) (z := 1 + i + g + a) (L := L3) (by omega) (by omega) hP (by omega) hp3 (by simp) (by simp) (fun k m => by simp)).imp ?_
  rintro d m ⟨as, L4, s5, rfl, rfl, hx5, hal, hL4, hp4, has⟩
  have hx : s5.xs = s.xs := by rw [hx5, hx4, hx3, hx2, hx1]
  have hsub : ((gs ++ rs.map (·.1)) ++ os.map (·.1)) ++ as.map (·.1) = NetV.names ⟨gs, rs, ps, os, as⟩ := rfl
  simp only [List.nil_append, hsub] at hp4
  have hnd : (NetV.names ⟨gs, rs, ps, os, as⟩).Nodup := (List.nodup_append.mp (hp4.nodup_iff.mpr hN)).1
  have hmem : ∀ x ∈ NetV.names ⟨gs, rs, ps, os, as⟩, x ∈ P := fun x hx => hp4.subset (List.mem_append_left _ hx)
  simp
  rw [gc_ds hx (by simp)]
  simp only [wp_ok]
  refine ⟨⟨gs, rs, ps, os, as⟩, s5, rfl, ⟨?_, ?_, ?_, ?_, hnd, hmem⟩, hgl, hrl, hps1, hol, hal, hx, rfl⟩
  · intro k p hk
    have := hps2 k p hk
    simp only [NetV.first, hgl, hrl]
    exact this
  · intro p hp
    have := hrs p hp
    simp only [NetV.size, NetV.first, hgl, hrl, hps1]
    exact this
  · intro p hp
    have := hos p hp
    simp only [NetV.size, NetV.first, hgl, hrl, hps1]
    exact this
  · intro p hp
    have := has p hp
    simp only [NetV.size, NetV.first, hgl, hrl, hps1]
    exact this
theorem net_ok (hd : DrawG Γ) (hl : LitG Γ) (hp : PopG Γ) (hpool : PoolG Γ) {s : DS} {r : Mem} {i g a o c : Nat} (h : i + g + o + c ≤ 61) (ha : a < 100000) :
    (fin (s.mem r) (dSs Γ G cNet [some (.ref 1), some (natD i), some (natD g), some (natD a), some (natD o), some (natD c), none, none, none, none, none, none, none, none, none] (s.mem r))).wp (GotNet s r i g a o c) := by
  refine (net_okP hd hl hp pool_len pool_nodup hpool h ha).imp ?_
  rintro d m ⟨N, s', h0, ⟨h1, h2, h3, h4, h5, h6⟩, h7⟩
  exact ⟨N, s', h0, ⟨h1, h2, h3, h4, h5, h6⟩, h7⟩
end
end PC

/-! PMask: words of bits for all rows of inputs, as the laws' own tables of nets are. -/
namespace PC
open PySem L2 Classical
/-- the word of a literal -/
def lm (W : Nat) (ms : List Nat) (l : Nat) : Nat := if l % 2 = 1 then ms.getD (l / 2) 0 ^^^ W else ms.getD (l / 2) 0
def stepM (W : Nat) (ms : List Nat) (p : Nat × Nat) : List Nat := ms ++ [lm W ms p.1 &&& lm W ms p.2]
def masksF (W : Nat) (ms : List Nat) (ps : List (Nat × Nat)) : List Nat := ps.foldl (stepM W) ms
def wholeN (n : Nat) : Nat := 2 ^ (2 ^ n) - 1
def patN (n j : Nat) : Nat := wholeN n / (2 ^ (2 * 2 ^ j) - 1) * ((2 ^ (2 ^ j) - 1) * 2 ^ (2 ^ j))
def patsF (n : Nat) : List Nat := (List.range n).map (patN n)
theorem whole_bit (n i : Nat) : (wholeN n).testBit i = decide (i < 2 ^ n) := by
  unfold wholeN
  exact Nat.testBit_two_pow_sub_one _ _
theorem patN_le (n j : Nat) : patN n j ≤ wholeN n := by
  unfold patN
  have h1 : (2 ^ (2 ^ j) - 1) * 2 ^ (2 ^ j) ≤ 2 ^ (2 * 2 ^ j) - 1 := by
    have e : 2 ^ (2 * 2 ^ j) = 2 ^ (2 ^ j) * 2 ^ (2 ^ j) := by rw [← Nat.pow_add]; congr 1; omega
    rw [e]
    have := Nat.one_le_two_pow (n := 2 ^ j)
    generalize 2 ^ (2 ^ j) = a at *
    obtain ⟨b, rfl⟩ : ∃ b, a = b + 1 := ⟨a - 1, by omega⟩
    simp only [Nat.add_sub_cancel, Nat.mul_add, Nat.add_mul]
    omega
  calc wholeN n / (2 ^ (2 * 2 ^ j) - 1) * ((2 ^ (2 ^ j) - 1) * 2 ^ (2 ^ j)) ≤ wholeN n / (2 ^ (2 * 2 ^ j) - 1) * (2 ^ (2 * 2 ^ j) - 1) := Nat.mul_le_mul_left _ h1
    _ ≤ wholeN n := Nat.div_mul_le_self _ _
theorem lm_bit {n : Nat} {ms : List Nat} {l i : Nat} (hi : i < 2 ^ n) : (lm (wholeN n) ms l).testBit i = ((ms.getD (l / 2) 0).testBit i ^^ decide (l % 2 = 1)) := by
  unfold lm
  by_cases h : l % 2 = 1
  · rw [if_pos h, Nat.testBit_xor, whole_bit]
    simp [h, hi]
  · rw [if_neg h]; simp [h]
theorem masksF_len (W : Nat) : ∀ (ps : List (Nat × Nat)) (ms : List Nat), (masksF W ms ps).length = ms.length + ps.length
  | [], ms => rfl
  | p :: ps, ms => by
    show (masksF W (stepM W ms p) ps).length = _
    rw [masksF_len W ps]; simp [stepM]; omega
theorem masksF_pre (W : Nat) : ∀ (ps : List (Nat × Nat)) (ms : List Nat), ms <+: masksF W ms ps
  | [], ms => List.prefix_refl _
  | p :: ps, ms => (List.prefix_append ms _).trans (masksF_pre W ps (stepM W ms p))
theorem getD_pre {a b : List Nat} (h : a <+: b) {i : Nat} (hi : i < a.length) : b.getD i 0 = a.getD i 0 := by
  obtain ⟨t, rfl⟩ := h
  simp [List.getD_eq_getElem?_getD, List.getElem?_append_left hi]
theorem lm_pre {W : Nat} {a b : List Nat} (h : a <+: b) {l : Nat} (hl : l / 2 < a.length) : lm W b l = lm W a l := by
  unfold lm
  rw [getD_pre h hl]
/-- each and's word -/
theorem masksF_get (W : Nat) : ∀ (ps : List (Nat × Nat)) (ms : List Nat), (∀ (k : Nat) p, ps[k]? = some p → p.1 < 2 * (ms.length + k) ∧ p.2 < 2 * (ms.length + k)) →
    ∀ (k : Nat) p, ps[k]? = some p → (masksF W ms ps).getD (ms.length + k) 0 = lm W (masksF W ms ps) p.1 &&& lm W (masksF W ms ps) p.2
  | [], ms, _, k, p, h => by simp at h
  | q :: ps, ms, hok, 0, p, h => by
    simp at h; subst h
    have h0 := hok 0 q rfl
    have hpre : stepM W ms q <+: masksF W (stepM W ms q) ps := masksF_pre W ps _
    have hp2 : ms <+: masksF W (stepM W ms q) ps := (List.prefix_append ms _).trans hpre
    show (masksF W (stepM W ms q) ps).getD (ms.length + 0) 0 = lm W (masksF W (stepM W ms q) ps) q.1 &&& lm W (masksF W (stepM W ms q) ps) q.2
    rw [getD_pre hpre (by simp [stepM]), lm_pre hp2 (by omega), lm_pre hp2 (by omega)]
    simp [stepM, List.getD_eq_getElem?_getD]
  | q :: ps, ms, hok, k + 1, p, h => by
    have := masksF_get W ps (stepM W ms q) (fun j p hj => by
      have := hok (j + 1) p (by simpa using hj)
      simp only [stepM, List.length_append, List.length_singleton]
      omega) k p (by simpa using h)
    show (masksF W (stepM W ms q) ps).getD (ms.length + (k + 1)) 0 = _
    rw [show ms.length + (k + 1) = (stepM W ms q).length + k by simp [stepM]; omega]
    exact this
def allTrue (W : Nat) (ms : List Nat) (cs : List (List Nat)) : Nat := cs.foldl (fun r c => r &&& c.foldl (fun s l => s ||| lm W ms l) 0) W
theorem or_bit (W : Nat) (ms : List Nat) (i : Nat) : ∀ (c : List Nat) (s : Nat), (c.foldl (fun s l => s ||| lm W ms l) s).testBit i = (s.testBit i || c.any fun l => (lm W ms l).testBit i)
  | [], s => by simp
  | l :: c, s => by
    simp only [List.foldl_cons, or_bit W ms i c, Nat.testBit_or, List.any_cons, Bool.or_assoc]
theorem all_bit_ (W : Nat) (ms : List Nat) (i : Nat) : ∀ (cs : List (List Nat)) (r : Nat), (cs.foldl (fun r c => r &&& c.foldl (fun s l => s ||| lm W ms l) 0) r).testBit i = (r.testBit i && cs.all fun c => c.any fun l => (lm W ms l).testBit i)
  | [], r => by simp
  | c :: cs, r => by
    simp only [List.foldl_cons, all_bit_ W ms i cs, Nat.testBit_and, or_bit, List.all_cons, Bool.and_assoc, Nat.zero_testBit, Bool.false_or]
theorem all_bit (W : Nat) (ms : List Nat) (cs : List (List Nat)) (i : Nat) : (allTrue W ms cs).testBit i = (W.testBit i && cs.all fun c => c.any fun l => (lm W ms l).testBit i) := all_bit_ W ms i cs W
/-- the clauses of the ands -/
def clsF (node : Nat) : List (Nat × Nat) → List (List Nat)
  | [] => []
  | p :: ps => [2 * node + 1, p.1] :: [2 * node + 1, p.2] :: [2 * node, p.1 ^^^ 1, p.2 ^^^ 1] :: clsF (node + 1) ps
theorem clsF_mem : ∀ (ps : List (Nat × Nat)) (node : Nat) (c : List Nat), c ∈ clsF node ps → ∃ (k : Nat) (p : Nat × Nat), ps[k]? = some p ∧ (c = [2 * (node + k) + 1, p.1] ∨ c = [2 * (node + k) + 1, p.2] ∨ c = [2 * (node + k), p.1 ^^^ 1, p.2 ^^^ 1])
  | [], _, c, h => by simp [clsF] at h
  | p :: ps, node, c, h => by
    simp only [clsF, List.mem_cons] at h
    rcases h with h | h | h | h
    · exact ⟨0, p, rfl, .inl h⟩
    · exact ⟨0, p, rfl, .inr (.inl h)⟩
    · exact ⟨0, p, rfl, .inr (.inr h)⟩
    · obtain ⟨k, q, h1, h2⟩ := clsF_mem ps (node + 1) c h
      refine ⟨k + 1, q, by simpa using h1, ?_⟩
      rw [show node + (k + 1) = node + 1 + k by omega]; exact h2
theorem clsF_has : ∀ (ps : List (Nat × Nat)) (node k : Nat) (p : Nat × Nat), ps[k]? = some p → [2 * (node + k) + 1, p.1] ∈ clsF node ps ∧ [2 * (node + k) + 1, p.2] ∈ clsF node ps ∧ [2 * (node + k), p.1 ^^^ 1, p.2 ^^^ 1] ∈ clsF node ps
  | [], _, k, p, h => by simp at h
  | q :: ps, node, 0, p, h => by simp at h; subst h; simp [clsF]
  | q :: ps, node, k + 1, p, h => by
    obtain ⟨h1, h2, h3⟩ := clsF_has ps (node + 1) k p (by simpa using h)
    rw [show node + (k + 1) = node + 1 + k by omega]
    simp only [clsF, List.mem_cons]
    exact ⟨.inr (.inr (.inr h1)), .inr (.inr (.inr h2)), .inr (.inr (.inr h3))⟩
theorem xor1_mod (l : Nat) : (l ^^^ 1) % 2 = 1 - l % 2 := by
  have h := Nat.testBit_xor l 1 0
  simp only [Nat.testBit_zero] at h
  rcases Nat.mod_two_eq_zero_or_one l with e | e <;> rcases Nat.mod_two_eq_zero_or_one (l ^^^ 1) with e2 | e2 <;> simp [e, e2] at h ⊢
theorem xor1_div (l : Nat) : (l ^^^ 1) / 2 = l / 2 := by
  rw [Nat.xor_div_two]; simp
theorem lm_xor1 {n : Nat} {ms : List Nat} {l i : Nat} (hi : i < 2 ^ n) : (lm (wholeN n) ms (l ^^^ 1)).testBit i = !(lm (wholeN n) ms l).testBit i := by
  rw [lm_bit hi, lm_bit hi, xor1_div, xor1_mod]
  rcases Nat.mod_two_eq_zero_or_one l with e | e <;> simp [e]
section
variable {n : Nat} {base : List Nat} {ps : List (Nat × Nat)}
abbrev OkP (f : Nat) (ps : List (Nat × Nat)) : Prop := ∀ (k : Nat) p, ps[k]? = some p → p.1 < 2 * (f + k) ∧ p.2 < 2 * (f + k)
theorem node_bit {ms : List Nat} {v i : Nat} (hi : i < 2 ^ n) : (lm (wholeN n) ms (2 * v)).testBit i = (ms.getD v 0).testBit i ∧ (lm (wholeN n) ms (2 * v + 1)).testBit i = !(ms.getD v 0).testBit i := by
  rw [lm_bit hi, lm_bit hi]
  have h1 : 2 * v / 2 = v := by omega
  have h2 : (2 * v + 1) / 2 = v := by omega
  have h3 : 2 * v % 2 = 0 := by omega
  have h4 : (2 * v + 1) % 2 = 1 := by omega
  simp [h1, h2, h3, h4]
theorem true_all (h0 : base.getD 0 0 = 0) (hb : 0 < base.length) (hok : OkP base.length ps) :
    allTrue (wholeN n) (masksF (wholeN n) base ps) ([1] :: clsF base.length ps) = wholeN n := by
  apply Nat.eq_of_testBit_eq
  intro i
  rw [all_bit, whole_bit]
  by_cases hi : i < 2 ^ n
  · simp only [hi, decide_true, Bool.true_and, List.all_eq_true]
    intro c hc
    rcases List.mem_cons.mp hc with rfl | hc
    · have := (node_bit (n := n) (ms := masksF (wholeN n) base ps) (v := 0) hi).2
      rw [getD_pre (masksF_pre _ _ _) hb, h0] at this
      simpa using this
    · obtain ⟨k, p, hk, hcc⟩ := clsF_mem ps _ c hc
      have hn := node_bit (n := n) (ms := masksF (wholeN n) base ps) (v := base.length + k) hi
      rw [masksF_get _ _ _ hok k p hk] at hn
      rw [Nat.testBit_and] at hn
      have x1 := lm_xor1 (n := n) (ms := masksF (wholeN n) base ps) (l := p.1) hi
      have x2 := lm_xor1 (n := n) (ms := masksF (wholeN n) base ps) (l := p.2) hi
      rcases hcc with rfl | rfl | rfl
      · simp only [List.any_cons, List.any_nil, hn.2]
        cases (lm (wholeN n) (masksF (wholeN n) base ps) p.1).testBit i <;> simp
      · simp only [List.any_cons, List.any_nil, hn.2]
        cases (lm (wholeN n) (masksF (wholeN n) base ps) p.2).testBit i <;> simp
      · simp only [List.any_cons, List.any_nil, hn.1, x1, x2]
        cases (lm (wholeN n) (masksF (wholeN n) base ps) p.1).testBit i <;> cases (lm (wholeN n) (masksF (wholeN n) base ps) p.2).testBit i <;> simp
  · simp [hi]
theorem getD_set_ne {ms : List Nat} {v j x : Nat} (h : v ≠ j) : (ms.set v x).getD j 0 = ms.getD j 0 := by
  simp [List.getD_eq_getElem?_getD, List.getElem?_set_ne h]
theorem getD_set_eq {ms : List Nat} {v x : Nat} (h : v < ms.length) : (ms.set v x).getD v 0 = x := by
  simp [List.getD_eq_getElem?_getD, List.getElem?_set, h]
theorem lm_set {W : Nat} {ms : List Nat} {v l x : Nat} (h : v ≠ l / 2) : lm W (ms.set v x) l = lm W ms l := by
  unfold lm
  rw [getD_set_ne h]
theorem false_all (h0 : base.getD 0 0 = 0) (hb : 0 < base.length) (hok : OkP base.length ps) {v : Nat} (hv : v = 0 ∨ ∃ k, v = base.length + k ∧ k < ps.length) :
    allTrue (wholeN n) ((masksF (wholeN n) base ps).set v ((masksF (wholeN n) base ps).getD v 0 ^^^ wholeN n)) ([1] :: clsF base.length ps) = 0 := by
  have hlen := masksF_len (wholeN n) ps base
  apply Nat.eq_of_testBit_eq
  intro i
  rw [all_bit, whole_bit, Nat.zero_testBit]
  by_cases hi : i < 2 ^ n
  · simp only [hi, decide_true, Bool.true_and]
    rw [Bool.eq_false_iff]
    intro h
    rw [List.all_eq_true] at h
    have hX : ((masksF (wholeN n) base ps).getD v 0 ^^^ wholeN n).testBit i = !((masksF (wholeN n) base ps).getD v 0).testBit i := by
      rw [Nat.testBit_xor, whole_bit]; simp [hi]
    generalize ((masksF (wholeN n) base ps).getD v 0 ^^^ wholeN n) = X at h hX
    rcases hv with rfl | ⟨k, rfl, hk⟩
    · have h1 := h [1] List.mem_cons_self
      have := (node_bit (n := n) (ms := (masksF (wholeN n) base ps).set 0 X) (v := 0) hi).2
      rw [getD_set_eq (by omega), hX, getD_pre (masksF_pre _ _ _) hb, h0] at this
      simp only [Nat.mul_zero, Nat.zero_add, Nat.zero_testBit, Bool.not_false, Bool.not_true] at this
      simp only [List.any_cons, List.any_nil, this] at h1
      exact absurd h1 (by decide)
    · have hk2 : ps[k]? = some ps[k] := List.getElem?_eq_getElem hk
      generalize ps[k] = p at hk2
      have ho := hok k p hk2
      obtain ⟨m1, m2, m3⟩ := clsF_has ps base.length k p hk2
      have h1 := h _ (List.mem_cons_of_mem _ m1)
      have h2 := h _ (List.mem_cons_of_mem _ m2)
      have h3 := h _ (List.mem_cons_of_mem _ m3)
      have hn := node_bit (n := n) (ms := (masksF (wholeN n) base ps).set (base.length + k) X) (v := base.length + k) hi
      rw [getD_set_eq (by omega), hX, masksF_get _ _ _ hok k p hk2, Nat.testBit_and] at hn
      simp only [List.any_cons, List.any_nil, hn.1, hn.2, lm_xor1 hi, lm_set (show base.length + k ≠ p.1 / 2 by omega), lm_set (show base.length + k ≠ p.2 / 2 by omega)] at h1 h2 h3
      revert h1 h2 h3
      cases (lm (wholeN n) (masksF (wholeN n) base ps) p.1).testBit i <;> cases (lm (wholeN n) (masksF (wholeN n) base ps) p.2).testBit i <;> simp
  · simp [hi]
end
end PC

/-! PNetW: the laws' own tables of nets, walked. -/
namespace PC
open PySem L2 Classical
def cMask : CSs :=
  .cons (.ite (.val (.bin .BitAnd (.var 1) (.lit (.int 1)))) (.cons (.ret (.bin .BitXor (.idx (.var 0) (.bin .RShift (.var 1) (.lit (.int 1)))) (.var 2))) .nil) .nil) <|
  .cons (.ret (.idx (.var 0) (.bin .RShift (.var 1) (.lit (.int 1))))) <|
  .nil
def cPatterns : CSs :=
  .cons (.asg (.name 1) (.bin .Sub (.bin .LShift (.lit (.int 1)) (.bin .LShift (.lit (.int 1)) (.var 0))) (.lit (.int 1)))) <|
  .cons (.asg (.name 2) (.lst .nil)) <|
  .cons (.fr (.name 3) (.rng1 (.var 0)) (.cons (.asg (.name 4) (.bin .LShift (.lit (.int 1)) (.var 3))) (.cons (.expr (.meth .append (.var 2) (.cons (.bin .Mult (.bin .FloorDiv (.var 1) (.bin .Sub (.bin .LShift (.lit (.int 1)) (.bin .Mult (.lit (.int 2)) (.var 4))) (.lit (.int 1)))) (.bin .LShift (.bin .Sub (.bin .LShift (.lit (.int 1)) (.var 4)) (.lit (.int 1))) (.var 4))) .nil))) .nil))) <|
  .cons (.ret (.var 2)) <|
  .nil
def cMasks : CSs :=
  .cons (.asg (.name 1) (.bin .Add (.bi .len (.cons (.idx (.var 0) (.lit (.int 1))) .nil)) (.bi .len (.cons (.idx (.var 0) (.lit (.int 2))) .nil)))) <|
  .cons (.asg (.name 2) (.bin .Sub (.bin .LShift (.lit (.int 1)) (.bin .LShift (.lit (.int 1)) (.var 1))) (.lit (.int 1)))) <|
  .cons (.asg (.name 3) (.bin .Add (.lst (.cons (.lit (.int 0)) .nil)) (.call "_law_patterns" (.cons (.var 1) .nil)))) <|
  .cons (.fr (.tup (.cons (.name 4) (.cons (.name 5) .nil))) (.plain (.idx (.var 0) (.lit (.int 3)))) (.cons (.expr (.meth .append (.var 3) (.cons (.bin .BitAnd (.call "_law_mask" (.cons (.var 3) (.cons (.var 4) (.cons (.var 2) .nil)))) (.call "_law_mask" (.cons (.var 3) (.cons (.var 5) (.cons (.var 2) .nil))))) .nil))) .nil)) <|
  .cons (.ret (.var 3)) <|
  .nil
section
variable {Γ : Fn} {G : Str → Option D} {m : Mem}
theorem shl1 {n : Nat} (h : n ≤ 1000000) : opB .LShift (natD 1) (natD n) m = .ok (natD (2 ^ n)) m := by
  rw [opB_shl (by omega) (by omega) (by decide)]
  simp [natD]
theorem shlN {a n : Nat} (h : n ≤ 1000000) (ha : a < 2 ^ 64) : opB .LShift (natD a) (natD n) m = .ok (natD (a * 2 ^ n)) m := by
  rw [opB_shl (by omega) (by omega) (by simpa using ha)]
  simp [natD]
theorem subN {a b : Nat} (h : b ≤ a) : opB .Sub (natD a) (natD b) m = .ok (natD (a - b)) m := by
  rw [opB_sub, ← Int.ofNat_sub h]
theorem addN {a b : Nat} : opB .Add (natD a) (natD b) m = .ok (natD (a + b)) m := rfl
theorem divN {a b : Nat} (h : 0 < b) (h2 : b.log2 < 9000) : opB .FloorDiv (natD a) (natD b) m = .ok (natD (a / b)) m := by
  rw [opB_divW (by omega) (by simpa using h2)]; rfl
theorem mulN {a b : Nat} (h : a.log2 + b.log2 < 1000000) : opB .Mult (natD a) (natD b) m = .ok (natD (a * b)) m := by
  rw [opB_mulW (by simpa using h)]; rfl
theorem natD_1 : D.int 1 = natD 1 := rfl
theorem natD_2 : D.int 2 = natD 2 := rfl
theorem natD_0 : D.int 0 = natD 0 := rfl
theorem log2_lt {a k : Nat} (h : a < 2 ^ k) (hk : 0 < k) : a.log2 < k := by
  by_cases h0 : a = 0
  · subst h0; simpa using hk
  · exact (Nat.log2_lt h0).mpr h
theorem natD_getD {ms : List Nat} {i : Nat} (h : i < ms.length) : (ms.map natD)[i]? = some (natD (ms.getD i 0)) := by
  simp [List.getD_eq_getElem?_getD, h]
theorem bxN (a b : Nat) : Builtin.bitXor (a : Int) (b : Int) = ((a ^^^ b : Nat) : Int) := by
  rw [Bits.bitXor_pp (Int.natCast_nonneg a) (Int.natCast_nonneg b), Int.toNat_natCast, Int.toNat_natCast]
theorem borN (a b : Nat) : Builtin.bitOr (a : Int) (b : Int) = ((a ||| b : Nat) : Int) := by
  rw [Bits.bitOr_pp (Int.natCast_nonneg a) (Int.natCast_nonneg b), Int.toNat_natCast, Int.toNat_natCast]
theorem bandN (a b : Nat) : Builtin.bitAnd (a : Int) (b : Int) = ((a &&& b : Nat) : Int) := PySem.W.os_band a b
theorem band1N (a : Nat) : Builtin.bitAnd (a : Int) 1 = ((a % 2 : Nat) : Int) := by
  rw [PyProof.Rows.bitAnd_m1]; omega
theorem atI_half {α : Type} {xs : List α} {l : Nat} : atI xs ((l : Int) / 2) = xs[l / 2]? := by
  rw [show (l : Int) / 2 = ((l / 2 : Nat) : Int) by omega, atI_natC]
theorem mask_ok {a l W : Nat} {ms : List Nat} (h : m[a]? = some (.lst (ms.map natD))) (hl : l / 2 < ms.length) : fin m (dSs Γ G cMask [some (.ref a), some (natD l), some (natD W)] m) = .ok (natD (lm W ms l)) m := by
  have e := natD_getD hl
  simp only [natD] at e h
  unfold lm
  by_cases q : l % 2 = 1
  · have q2 : ((l : Int) % 2 != 0) = true := by simp; omega
    simp [cMask, band1N, h, atI_half, q, e, bxN]
  · have q0 : l % 2 = 0 := by omega
    simp [cMask, band1N, h, atI_half, q0, e]
def IPat (n : Nat) (m : Mem) (done : List Nat) (σ : Loc) (m' : Mem) : Prop :=
  ∃ x y, σ = [some (natD n), some (natD (wholeN n)), some (.ref m.length), x, y] ∧ m' = m ++ [.lst (done.map fun j => natD (patN n j))]
theorem app_N {xs : List D} {d : D} {n : Nat} (h : m[n]? = some (.lst xs)) (hl : xs.length < sizeLine) : mtD .append (.ref n) [d] m = .ok .none (m.set n (.lst (xs ++ [d]))) := by
  rw [mt_app, h]; simp only [if_lo hl]
theorem preApp {xs : List D} {n : Nat} (h : m[n]? = some (.lst xs)) : mtPre .append (.ref n) m = true := by
  rw [pre_app, h]
theorem pow_le7 {n : Nat} (hn : n ≤ 7) : 2 ^ n ≤ 128 := by
  have := Nat.pow_le_pow_right (show 0 < 2 by omega) hn
  simpa using this
theorem pow_le6 {n : Nat} (hn : n < 7) : 2 ^ n ≤ 64 := by
  have := Nat.pow_le_pow_right (show 0 < 2 by omega) (show n ≤ 6 by omega)
  simpa using this
theorem patterns_ok {n : Nat} (hn : n ≤ 7) : fin m (dSs Γ G cPatterns [some (natD n), none, none, none, none] m) = .ok (.ref m.length) (m ++ [.lst ((patsF n).map natD)]) := by
  refine wp_eq ?_
  have h7 := pow_le7 hn
  have r0 : rngOk (n : Int) := rngOk_nat (by omega)
  have w1 : opB .Sub (natD (2 ^ (2 ^ n))) (natD 1) m = .ok (natD (wholeN n)) m := subN (Nat.one_le_two_pow)
  rw [cPatterns, wp_fin]
  refine step ?_
  simp only [dE_var, dE_lit, dE_bin, dE_neg, dE_inv, dE_cmp, dE_chain, dE_and, dE_or, dE_not, dE_ife, dE_tup, dE_lst, dE_idx, dE_slc, dE_call, dE_bi, dE_isin, dE_meth, dE_comp, dE_gc, dE_lrng1, dE_lrng2, dEs_nil, dEs_cons, dO_none, dO_some, dB_and, dB_or, dB_not, dB_val, dBO_none, dBO_some, dI_plain, dI_rng1, dI_rng2, dI_zip, dI_enum, dI_rev, dT_name, dT_tup, dT_sub, dTs_nil, dTs_cons, dS_asg, dS_aug, dS_augS, dS_par3, dS_expr, dS_ret, dS_retN, dS_pass, dS_brk, dS_cont, dS_ite, dS_whl, dS_fr, dSs_nil, Res.ok_bind, Res.bad_bind, Res.ok_to, Res.bad_to, SR.nx_seq, SR.rt_seq, SR.bk_seq, SR.ct_seq, wp_ok, wp_bind, wp_to, swp_nx, swp_rt, swp_bk, swp_ct, swp_seq, wp_fin, fin_rt, fin_nx, wipe_nil, wipe_cons, List.getElem?_cons_zero, List.getElem?_cons_succ, List.set_cons_zero, List.set_cons_succ, List.getElem?_nil, newL_eq, seq_tup, seq_kl, iterD_tup, iterD_kl, iterS_tup, iterS_kl, truR_bool, if_true, Bool.false_eq_true, if_false, Bool.not_true, Bool.not_false, natD_1, shl1 (show n ≤ 1000000 by omega), shl1 (show 2 ^ n ≤ 1000000 by omega), w1]
  refine step ?_
  simp only [dE_var, dE_lit, dE_bin, dE_neg, dE_inv, dE_cmp, dE_chain, dE_and, dE_or, dE_not, dE_ife, dE_tup, dE_lst, dE_idx, dE_slc, dE_call, dE_bi, dE_isin, dE_meth, dE_comp, dE_gc, dE_lrng1, dE_lrng2, dEs_nil, dEs_cons, dO_none, dO_some, dB_and, dB_or, dB_not, dB_val, dBO_none, dBO_some, dI_plain, dI_rng1, dI_rng2, dI_zip, dI_enum, dI_rev, dT_name, dT_tup, dT_sub, dTs_nil, dTs_cons, dS_asg, dS_aug, dS_augS, dS_par3, dS_expr, dS_ret, dS_retN, dS_pass, dS_brk, dS_cont, dS_ite, dS_whl, dS_fr, dSs_nil, Res.ok_bind, Res.bad_bind, Res.ok_to, Res.bad_to, SR.nx_seq, SR.rt_seq, SR.bk_seq, SR.ct_seq, wp_ok, wp_bind, wp_to, swp_nx, swp_rt, swp_bk, swp_ct, swp_seq, wp_fin, fin_rt, fin_nx, wipe_nil, wipe_cons, List.getElem?_cons_zero, List.getElem?_cons_succ, List.set_cons_zero, List.set_cons_succ, List.getElem?_nil, newL_eq, seq_tup, seq_kl, iterD_tup, iterD_kl, iterS_tup, iterS_kl, truR_bool, if_true, Bool.false_eq_true, if_false, Bool.not_true, Bool.not_false]
  refine step ?_
  simp only [dE_var, dE_lit, dE_bin, dE_neg, dE_inv, dE_cmp, dE_chain, dE_and, dE_or, dE_not, dE_ife, dE_tup, dE_lst, dE_idx, dE_slc, dE_call, dE_bi, dE_isin, dE_meth, dE_comp, dE_gc, dE_lrng1, dE_lrng2, dEs_nil, dEs_cons, dO_none, dO_some, dB_and, dB_or, dB_not, dB_val, dBO_none, dBO_some, dI_plain, dI_rng1, dI_rng2, dI_zip, dI_enum, dI_rev, dT_name, dT_tup, dT_sub, dTs_nil, dTs_cons, dS_asg, dS_aug, dS_augS, dS_par3, dS_expr, dS_ret, dS_retN, dS_pass, dS_brk, dS_cont, dS_ite, dS_whl, dS_fr, dSs_nil, Res.ok_bind, Res.bad_bind, Res.ok_to, Res.bad_to, SR.nx_seq, SR.rt_seq, SR.bk_seq, SR.ct_seq, wp_ok, wp_bind, wp_to, swp_nx, swp_rt, swp_bk, swp_ct, swp_seq, wp_fin, fin_rt, fin_nx, wipe_nil, wipe_cons, List.getElem?_cons_zero, List.getElem?_cons_succ, List.set_cons_zero, List.set_cons_succ, List.getElem?_nil, newL_eq, seq_tup, seq_kl, iterD_tup, iterD_kl, iterS_tup, iterS_kl, truR_bool, if_true, Bool.false_eq_true, if_false, Bool.not_true, Bool.not_false, if_pos r0, rng_nat]
  refine for_wpL (IPat n m) ⟨_, _, rfl, by simp⟩ (fun _ _ _ _ => by simp) ?_ ?_
  · rintro done j σ m' hj hpre ⟨x, y, rfl, rfl⟩
    have hjn : j < n := by simpa using hj
    have h6 := pow_le6 (show j < 7 by omega)
    have hdl : done.length < n := by have := hpre.length_le; simp at this; omega
    have hp : mtPre .append (.ref m.length) (m ++ [.lst (done.map fun j => natD (patN n j))]) = true := preApp (xs := done.map fun j => natD (patN n j)) (by simp)
    have ha := fun d => app_N (m := m ++ [.lst (done.map fun j => natD (patN n j))]) (n := m.length) (d := d) (xs := done.map fun j => natD (patN n j)) (by simp) (by rw [sizeLine_eq]; simp; omega)
    have e2 : ∀ m : Mem, opB .Mult (natD 2) (natD (2 ^ j)) m = .ok (natD (2 * 2 ^ j)) m := fun m => mulN (by have h1 := log2_lt (a := 2 ^ j) (k := 7) (by omega) (by omega); have h2 := log2_lt (a := 2) (k := 3) (by omega) (by omega); omega)
    have e3 : ∀ (m : Mem) (b : Nat), opB .Sub (natD (2 ^ b)) (natD 1) m = .ok (natD (2 ^ b - 1)) m := fun m b => subN (Nat.one_le_two_pow)
    have hb : 2 ^ (2 * 2 ^ j) < 2 ^ 129 := Nat.pow_lt_pow_right (by omega) (by omega)
    have hb1 : 1 < 2 ^ (2 * 2 ^ j) := Nat.one_lt_two_pow (by have := Nat.one_le_two_pow (n := j); omega)
    have e4 : ∀ m : Mem, opB .FloorDiv (natD (wholeN n)) (natD (2 ^ (2 * 2 ^ j) - 1)) m = .ok (natD (wholeN n / (2 ^ (2 * 2 ^ j) - 1))) m := fun m => divN (by omega) (by have := log2_lt (a := 2 ^ (2 * 2 ^ j) - 1) (k := 129) (by omega) (by omega); omega)
    have hb2 : 2 ^ (2 ^ j) ≤ 2 ^ 64 := Nat.pow_le_pow_right (by omega) h6
    have hb3 : 2 ^ (2 ^ j) - 1 < 2 ^ 64 := by have := Nat.one_le_two_pow (n := 2 ^ j); omega
    have e5 : ∀ m : Mem, opB .LShift (natD (2 ^ (2 ^ j) - 1)) (natD (2 ^ j)) m = .ok (natD ((2 ^ (2 ^ j) - 1) * 2 ^ (2 ^ j))) m := fun m => shlN (by omega) hb3
    have hW : wholeN n < 2 ^ 128 := by
      have h1 : 2 ^ (2 ^ n) ≤ 2 ^ 128 := Nat.pow_le_pow_right (by omega) h7
      have h2 := Nat.one_le_two_pow (n := 2 ^ n)
      unfold wholeN; omega
    have e6 : ∀ m : Mem, opB .Mult (natD (wholeN n / (2 ^ (2 * 2 ^ j) - 1))) (natD ((2 ^ (2 ^ j) - 1) * 2 ^ (2 ^ j))) m = .ok (natD (patN n j)) m := fun m => mulN (by
      have h1 := log2_lt (a := wholeN n / (2 ^ (2 * 2 ^ j) - 1)) (k := 128) (Nat.lt_of_le_of_lt (Nat.div_le_self _ _) hW) (by omega)
      have h3 : (2 ^ (2 ^ j) - 1) * 2 ^ (2 ^ j) < 2 ^ 128 := by
        have h4 : (2 ^ (2 ^ j) - 1) * 2 ^ (2 ^ j) ≤ (2 ^ 64 - 1) * 2 ^ 64 := Nat.mul_le_mul (by omega) hb2
        omega
      have h2 := log2_lt (a := (2 ^ (2 ^ j) - 1) * 2 ^ (2 ^ j)) (k := 128) h3 (by omega)
      omega)
    refine step ?_
    simp only [dE_var, dE_lit, dE_bin, dE_neg, dE_inv, dE_cmp, dE_chain, dE_and, dE_or, dE_not, dE_ife, dE_tup, dE_lst, dE_idx, dE_slc, dE_call, dE_bi, dE_isin, dE_meth, dE_comp, dE_gc, dE_lrng1, dE_lrng2, dEs_nil, dEs_cons, dO_none, dO_some, dB_and, dB_or, dB_not, dB_val, dBO_none, dBO_some, dI_plain, dI_rng1, dI_rng2, dI_zip, dI_enum, dI_rev, dT_name, dT_tup, dT_sub, dTs_nil, dTs_cons, dS_asg, dS_aug, dS_augS, dS_par3, dS_expr, dS_ret, dS_retN, dS_pass, dS_brk, dS_cont, dS_ite, dS_whl, dS_fr, dSs_nil, Res.ok_bind, Res.bad_bind, Res.ok_to, Res.bad_to, SR.nx_seq, SR.rt_seq, SR.bk_seq, SR.ct_seq, wp_ok, wp_bind, wp_to, swp_nx, swp_rt, swp_bk, swp_ct, swp_seq, wp_fin, fin_rt, fin_nx, wipe_nil, wipe_cons, List.getElem?_cons_zero, List.getElem?_cons_succ, List.set_cons_zero, List.set_cons_succ, List.getElem?_nil, newL_eq, seq_tup, seq_kl, iterD_tup, iterD_kl, iterS_tup, iterS_kl, truR_bool, if_true, Bool.false_eq_true, if_false, Bool.not_true, Bool.not_false, natD_1, shl1 (show j ≤ 1000000 by omega)]
    refine step ?_
    simp only [dE_var, dE_lit, dE_bin, dE_neg, dE_inv, dE_cmp, dE_chain, dE_and, dE_or, dE_not, dE_ife, dE_tup, dE_lst, dE_idx, dE_slc, dE_call, dE_bi, dE_isin, dE_meth, dE_comp, dE_gc, dE_lrng1, dE_lrng2, dEs_nil, dEs_cons, dO_none, dO_some, dB_and, dB_or, dB_not, dB_val, dBO_none, dBO_some, dI_plain, dI_rng1, dI_rng2, dI_zip, dI_enum, dI_rev, dT_name, dT_tup, dT_sub, dTs_nil, dTs_cons, dS_asg, dS_aug, dS_augS, dS_par3, dS_expr, dS_ret, dS_retN, dS_pass, dS_brk, dS_cont, dS_ite, dS_whl, dS_fr, dSs_nil, Res.ok_bind, Res.bad_bind, Res.ok_to, Res.bad_to, SR.nx_seq, SR.rt_seq, SR.bk_seq, SR.ct_seq, wp_ok, wp_bind, wp_to, swp_nx, swp_rt, swp_bk, swp_ct, swp_seq, wp_fin, fin_rt, fin_nx, wipe_nil, wipe_cons, List.getElem?_cons_zero, List.getElem?_cons_succ, List.set_cons_zero, List.set_cons_succ, List.getElem?_nil, newL_eq, seq_tup, seq_kl, iterD_tup, iterD_kl, iterS_tup, iterS_kl, truR_bool, if_true, Bool.false_eq_true, if_false, Bool.not_true, Bool.not_false, hp, natD_1, natD_2, e2, shl1 (show 2 * 2 ^ j ≤ 1000000 by omega), e3, e4, shl1 (show 2 ^ j ≤ 1000000 by omega), e5, e6, ha]
    exact ⟨_, _, rfl, by simp⟩
  · rintro σ m' ⟨x, y, rfl, rfl⟩
    refine step ?_
    simp only [dE_var, dE_lit, dE_bin, dE_neg, dE_inv, dE_cmp, dE_chain, dE_and, dE_or, dE_not, dE_ife, dE_tup, dE_lst, dE_idx, dE_slc, dE_call, dE_bi, dE_isin, dE_meth, dE_comp, dE_gc, dE_lrng1, dE_lrng2, dEs_nil, dEs_cons, dO_none, dO_some, dB_and, dB_or, dB_not, dB_val, dBO_none, dBO_some, dI_plain, dI_rng1, dI_rng2, dI_zip, dI_enum, dI_rev, dT_name, dT_tup, dT_sub, dTs_nil, dTs_cons, dS_asg, dS_aug, dS_augS, dS_par3, dS_expr, dS_ret, dS_retN, dS_pass, dS_brk, dS_cont, dS_ite, dS_whl, dS_fr, dSs_nil, Res.ok_bind, Res.bad_bind, Res.ok_to, Res.bad_to, SR.nx_seq, SR.rt_seq, SR.bk_seq, SR.ct_seq, wp_ok, wp_bind, wp_to, swp_nx, swp_rt, swp_bk, swp_ct, swp_seq, wp_fin, fin_rt, fin_nx, wipe_nil, wipe_cons, List.getElem?_cons_zero, List.getElem?_cons_succ, List.set_cons_zero, List.set_cons_succ, List.getElem?_nil, newL_eq, seq_tup, seq_kl, iterD_tup, iterD_kl, iterS_tup, iterS_kl, truR_bool, if_true, Bool.false_eq_true, if_false, Bool.not_true, Bool.not_false]
    rw [gc_new (by simp)]
    simp [patsF]
theorem N_1 {N : NetV} : idxD N.d (.int 1) m = .ok (.tup (N.given.map .str)) m := rfl
theorem N_2 {N : NetV} : idxD N.d (.int 2) m = .ok (.tup (N.rows.map rowD)) m := rfl
theorem N_3 {N : NetV} : idxD N.d (.int 3) m = .ok (.tup (N.pairs.map pairD)) m := rfl
theorem N_4 {N : NetV} : idxD N.d (.int 4) m = .ok (.tup (N.shown.map outD)) m := rfl
theorem N_5 {N : NetV} : idxD N.d (.int 5) m = .ok (.tup (N.asked.map outD)) m := rfl
theorem N_1n {N : NetV} : idxD N.d (natD 1) m = .ok (.tup (N.given.map .str)) m := rfl
theorem N_2n {N : NetV} : idxD N.d (natD 2) m = .ok (.tup (N.rows.map rowD)) m := rfl
theorem preEnd {A : List D} : mtPre .append (.ref m.length) (m ++ [.lst A]) = true := preApp (xs := A) (by simp)
theorem appEnd {A : List D} {d : D} (h : A.length < sizeLine) : mtD .append (.ref m.length) [d] (m ++ [.lst A]) = .ok .none (m ++ [.lst (A ++ [d])]) := by
  rw [app_N (xs := A) (by simp) h]; simp
theorem mul2N {v : Nat} : opB .Mult (natD 2) (natD v) m = .ok (natD (2 * v)) m := by
  rw [opB_mul (.inl ⟨by decide, by decide⟩)]; rfl
theorem extL {n q : Nat} {xs ys : List D} (h1 : m[n]? = some (.lst xs)) (h2 : m[q]? = some (.lst ys)) (h : xs.length + ys.length ≤ sizeLine) : mtD .extend (.ref n) [.ref q] m = .ok .none (m.set n (.lst (xs ++ ys))) := by
  rw [mt_ext, h1, h2]; simp only [if_lo h]
theorem preExt {n : Nat} {xs : List D} (h1 : m[n]? = some (.lst xs)) : mtPre .extend (.ref n) m = true := by
  rw [pre_ext, h1]
theorem lenT {xs : List D} : biD .len [.tup xs] m = .ok (natD xs.length) m := rfl
theorem addL {a b : Nat} {xs ys : List D} (h1 : m[a]? = some (.lst xs)) (h2 : m[b]? = some (.lst ys)) (h : xs.length + ys.length ≤ sizeLine) : opB .Add (.ref a) (.ref b) m = .ok (.ref m.length) (m ++ [.lst (xs ++ ys)]) := by
  rw [opB_addL, h1, h2]; simp only [if_lo h, newL_eq]
theorem pre_at {α : Type} {done ys : List α} {y : α} (h : done ++ [y] <+: ys) : ys[done.length]? = some y := by
  obtain ⟨t, rfl⟩ := h
  simp
theorem masksF_snoc {W : Nat} {ms : List Nat} {ps : List (Nat × Nat)} {p : Nat × Nat} : masksF W ms (ps ++ [p]) = stepM W (masksF W ms ps) p := by
  simp [masksF]
def PatG (Γ : Fn) : Prop := ∀ (n : Nat) m, n ≤ 7 → Γ "_law_patterns" [natD n] m = .ok (.ref m.length) (m ++ [.lst ((patsF n).map natD)])
def MaskG (Γ : Fn) : Prop := ∀ (a l W : Nat) (ms : List Nat) m, m[a]? = some (.lst (ms.map natD)) → l / 2 < ms.length → Γ "_law_mask" [.ref a, natD l, natD W] m = .ok (natD (lm W ms l)) m
def IMask (N : NetV) (n : Nat) (m : Mem) (done : List (Nat × Nat)) (σ : Loc) (m' : Mem) : Prop :=
  ∃ x y, σ = [some N.d, some (natD n), some (natD (wholeN n)), some (.ref (m.length + 2)), x, y] ∧ m' = m ++ [.lst [natD 0], .lst ((patsF n).map natD), .lst ((masksF (wholeN n) (0 :: patsF n) done).map natD)]
def NetV.masks (N : NetV) : List Nat := masksF (wholeN (N.given.length + N.rows.length)) (0 :: patsF (N.given.length + N.rows.length)) N.pairs
theorem masks_okG (hpat : PatG Γ) (hmask : MaskG Γ) {N : NetV} (hN : OkP N.first N.pairs) (hn : N.given.length + N.rows.length ≤ 7) (hp : N.pairs.length ≤ 10000) :
    fin m (dSs Γ G cMasks [some N.d, none, none, none, none, none] m) = .ok (.ref m.length) (m ++ [.lst (N.masks.map natD)]) := by
  refine wp_eq ?_
  generalize hk : N.given.length + N.rows.length = n at hn
  have hfirst : N.first = n + 1 := by simp [NetV.first]; omega
  have h7 := pow_le7 hn
  have w1 : opB .Sub (natD (2 ^ (2 ^ n))) (natD 1) m = .ok (natD (wholeN n)) m := subN (Nat.one_le_two_pow)
  rw [cMasks, wp_fin]
  refine step ?_
  simp only [dE_var, dE_lit, dE_bin, dE_neg, dE_inv, dE_cmp, dE_chain, dE_and, dE_or, dE_not, dE_ife, dE_tup, dE_lst, dE_idx, dE_slc, dE_call, dE_bi, dE_isin, dE_meth, dE_comp, dE_gc, dE_lrng1, dE_lrng2, dEs_nil, dEs_cons, dO_none, dO_some, dB_and, dB_or, dB_not, dB_val, dBO_none, dBO_some, dI_plain, dI_rng1, dI_rng2, dI_zip, dI_enum, dI_rev, dT_name, dT_tup, dT_sub, dTs_nil, dTs_cons, dS_asg, dS_aug, dS_augS, dS_par3, dS_expr, dS_ret, dS_retN, dS_pass, dS_brk, dS_cont, dS_ite, dS_whl, dS_fr, dSs_nil, Res.ok_bind, Res.bad_bind, Res.ok_to, Res.bad_to, SR.nx_seq, SR.rt_seq, SR.bk_seq, SR.ct_seq, wp_ok, wp_bind, wp_to, swp_nx, swp_rt, swp_bk, swp_ct, swp_seq, wp_fin, fin_rt, fin_nx, wipe_nil, wipe_cons, List.getElem?_cons_zero, List.getElem?_cons_succ, List.set_cons_zero, List.set_cons_succ, List.getElem?_nil, newL_eq, seq_tup, seq_kl, iterD_tup, iterD_kl, iterS_tup, iterS_kl, truR_bool, if_true, Bool.false_eq_true, if_false, Bool.not_true, Bool.not_false, N_1, N_2, lenT, List.length_map, addN, hk]
  refine step ?_
  simp only [dE_var, dE_lit, dE_bin, dE_neg, dE_inv, dE_cmp, dE_chain, dE_and, dE_or, dE_not, dE_ife, dE_tup, dE_lst, dE_idx, dE_slc, dE_call, dE_bi, dE_isin, dE_meth, dE_comp, dE_gc, dE_lrng1, dE_lrng2, dEs_nil, dEs_cons, dO_none, dO_some, dB_and, dB_or, dB_not, dB_val, dBO_none, dBO_some, dI_plain, dI_rng1, dI_rng2, dI_zip, dI_enum, dI_rev, dT_name, dT_tup, dT_sub, dTs_nil, dTs_cons, dS_asg, dS_aug, dS_augS, dS_par3, dS_expr, dS_ret, dS_retN, dS_pass, dS_brk, dS_cont, dS_ite, dS_whl, dS_fr, dSs_nil, Res.ok_bind, Res.bad_bind, Res.ok_to, Res.bad_to, SR.nx_seq, SR.rt_seq, SR.bk_seq, SR.ct_seq, wp_ok, wp_bind, wp_to, swp_nx, swp_rt, swp_bk, swp_ct, swp_seq, wp_fin, fin_rt, fin_nx, wipe_nil, wipe_cons, List.getElem?_cons_zero, List.getElem?_cons_succ, List.set_cons_zero, List.set_cons_succ, List.getElem?_nil, newL_eq, seq_tup, seq_kl, iterD_tup, iterD_kl, iterS_tup, iterS_kl, truR_bool, if_true, Bool.false_eq_true, if_false, Bool.not_true, Bool.not_false, natD_1, shl1 (show n ≤ 1000000 by omega), shl1 (show 2 ^ n ≤ 1000000 by omega), w1]
  refine step ?_
  simp only [dE_var, dE_lit, dE_bin, dE_neg, dE_inv, dE_cmp, dE_chain, dE_and, dE_or, dE_not, dE_ife, dE_tup, dE_lst, dE_idx, dE_slc, dE_call, dE_bi, dE_isin, dE_meth, dE_comp, dE_gc, dE_lrng1, dE_lrng2, dEs_nil, dEs_cons, dO_none, dO_some, dB_and, dB_or, dB_not, dB_val, dBO_none, dBO_some, dI_plain, dI_rng1, dI_rng2, dI_zip, dI_enum, dI_rev, dT_name, dT_tup, dT_sub, dTs_nil, dTs_cons, dS_asg, dS_aug, dS_augS, dS_par3, dS_expr, dS_ret, dS_retN, dS_pass, dS_brk, dS_cont, dS_ite, dS_whl, dS_fr, dSs_nil, Res.ok_bind, Res.bad_bind, Res.ok_to, Res.bad_to, SR.nx_seq, SR.rt_seq, SR.bk_seq, SR.ct_seq, wp_ok, wp_bind, wp_to, swp_nx, swp_rt, swp_bk, swp_ct, swp_seq, wp_fin, fin_rt, fin_nx, wipe_nil, wipe_cons, List.getElem?_cons_zero, List.getElem?_cons_succ, List.set_cons_zero, List.set_cons_succ, List.getElem?_nil, newL_eq, seq_tup, seq_kl, iterD_tup, iterD_kl, iterS_tup, iterS_kl, truR_bool, if_true, Bool.false_eq_true, if_false, Bool.not_true, Bool.not_false, natD_0, hpat n _ hn, List.append_assoc, List.cons_append, List.nil_append, List.length_append, List.length_cons, List.length_nil]
  rw [addL (xs := [natD 0]) (ys := (patsF n).map natD) (by simp) (by simp) (by rw [sizeLine_eq]; simp [patsF]; omega)]
  simp only [dE_var, dE_lit, dE_bin, dE_neg, dE_inv, dE_cmp, dE_chain, dE_and, dE_or, dE_not, dE_ife, dE_tup, dE_lst, dE_idx, dE_slc, dE_call, dE_bi, dE_isin, dE_meth, dE_comp, dE_gc, dE_lrng1, dE_lrng2, dEs_nil, dEs_cons, dO_none, dO_some, dB_and, dB_or, dB_not, dB_val, dBO_none, dBO_some, dI_plain, dI_rng1, dI_rng2, dI_zip, dI_enum, dI_rev, dT_name, dT_tup, dT_sub, dTs_nil, dTs_cons, dS_asg, dS_aug, dS_augS, dS_par3, dS_expr, dS_ret, dS_retN, dS_pass, dS_brk, dS_cont, dS_ite, dS_whl, dS_fr, dSs_nil, Res.ok_bind, Res.bad_bind, Res.ok_to, Res.bad_to, SR.nx_seq, SR.rt_seq, SR.bk_seq, SR.ct_seq, wp_ok, wp_bind, wp_to, swp_nx, swp_rt, swp_bk, swp_ct, swp_seq, wp_fin, fin_rt, fin_nx, wipe_nil, wipe_cons, List.getElem?_cons_zero, List.getElem?_cons_succ, List.set_cons_zero, List.set_cons_succ, List.getElem?_nil, newL_eq, seq_tup, seq_kl, iterD_tup, iterD_kl, iterS_tup, iterS_kl, truR_bool, if_true, Bool.false_eq_true, if_false, Bool.not_true, Bool.not_false, List.append_assoc, List.cons_append, List.nil_append, List.length_append, List.length_cons, List.length_nil]
  refine step ?_
  simp only [dE_var, dE_lit, dE_bin, dE_neg, dE_inv, dE_cmp, dE_chain, dE_and, dE_or, dE_not, dE_ife, dE_tup, dE_lst, dE_idx, dE_slc, dE_call, dE_bi, dE_isin, dE_meth, dE_comp, dE_gc, dE_lrng1, dE_lrng2, dEs_nil, dEs_cons, dO_none, dO_some, dB_and, dB_or, dB_not, dB_val, dBO_none, dBO_some, dI_plain, dI_rng1, dI_rng2, dI_zip, dI_enum, dI_rev, dT_name, dT_tup, dT_sub, dTs_nil, dTs_cons, dS_asg, dS_aug, dS_augS, dS_par3, dS_expr, dS_ret, dS_retN, dS_pass, dS_brk, dS_cont, dS_ite, dS_whl, dS_fr, dSs_nil, Res.ok_bind, Res.bad_bind, Res.ok_to, Res.bad_to, SR.nx_seq, SR.rt_seq, SR.bk_seq, SR.ct_seq, wp_ok, wp_bind, wp_to, swp_nx, swp_rt, swp_bk, swp_ct, swp_seq, wp_fin, fin_rt, fin_nx, wipe_nil, wipe_cons, List.getElem?_cons_zero, List.getElem?_cons_succ, List.set_cons_zero, List.set_cons_succ, List.getElem?_nil, newL_eq, seq_tup, seq_kl, iterD_tup, iterD_kl, iterS_tup, iterS_kl, truR_bool, if_true, Bool.false_eq_true, if_false, Bool.not_true, Bool.not_false, N_3]
  refine for_wpL (IMask N n m) ⟨none, none, by simp, by simp [masksF]⟩ (fun _ _ _ _ => by simp) ?_ ?_
  · rintro done p σ m' hp2 hpre ⟨x, y, rfl, rfl⟩
    have hat := pre_at hpre
    have hb := hN _ _ hat
    have hdl : done.length < N.pairs.length := (List.getElem?_eq_some_iff.mp hat).1
    have hlen : (masksF (wholeN n) (0 :: patsF n) done).length = n + 1 + done.length := by rw [masksF_len]; simp [patsF]
    generalize hM : m ++ [MO.lst [natD 0], MO.lst ((patsF n).map natD), MO.lst ((masksF (wholeN n) (0 :: patsF n) done).map natD)] = M
    have hget : M[m.length + 2]? = some (.lst ((masksF (wholeN n) (0 :: patsF n) done).map natD)) := by rw [← hM]; simp
    have q1 := hmask (m.length + 2) p.1 (wholeN n) _ M hget (by omega)
    have q2 := hmask (m.length + 2) p.2 (wholeN n) _ M hget (by omega)
    simp only [dE_var, dE_lit, dE_bin, dE_neg, dE_inv, dE_cmp, dE_chain, dE_and, dE_or, dE_not, dE_ife, dE_tup, dE_lst, dE_idx, dE_slc, dE_call, dE_bi, dE_isin, dE_meth, dE_comp, dE_gc, dE_lrng1, dE_lrng2, dEs_nil, dEs_cons, dO_none, dO_some, dB_and, dB_or, dB_not, dB_val, dBO_none, dBO_some, dI_plain, dI_rng1, dI_rng2, dI_zip, dI_enum, dI_rev, dT_name, dT_tup, dT_sub, dTs_nil, dTs_cons, dS_asg, dS_aug, dS_augS, dS_par3, dS_expr, dS_ret, dS_retN, dS_pass, dS_brk, dS_cont, dS_ite, dS_whl, dS_fr, dSs_nil, Res.ok_bind, Res.bad_bind, Res.ok_to, Res.bad_to, SR.nx_seq, SR.rt_seq, SR.bk_seq, SR.ct_seq, wp_ok, wp_bind, wp_to, swp_nx, swp_rt, swp_bk, swp_ct, swp_seq, wp_fin, fin_rt, fin_nx, wipe_nil, wipe_cons, List.getElem?_cons_zero, List.getElem?_cons_succ, List.set_cons_zero, List.set_cons_succ, List.getElem?_nil, newL_eq, seq_tup, seq_kl, iterD_tup, iterD_kl, iterS_tup, iterS_kl, truR_bool, if_true, Bool.false_eq_true, if_false, Bool.not_true, Bool.not_false]
    refine step ?_
    simp only [dE_var, dE_lit, dE_bin, dE_neg, dE_inv, dE_cmp, dE_chain, dE_and, dE_or, dE_not, dE_ife, dE_tup, dE_lst, dE_idx, dE_slc, dE_call, dE_bi, dE_isin, dE_meth, dE_comp, dE_gc, dE_lrng1, dE_lrng2, dEs_nil, dEs_cons, dO_none, dO_some, dB_and, dB_or, dB_not, dB_val, dBO_none, dBO_some, dI_plain, dI_rng1, dI_rng2, dI_zip, dI_enum, dI_rev, dT_name, dT_tup, dT_sub, dTs_nil, dTs_cons, dS_asg, dS_aug, dS_augS, dS_par3, dS_expr, dS_ret, dS_retN, dS_pass, dS_brk, dS_cont, dS_ite, dS_whl, dS_fr, dSs_nil, Res.ok_bind, Res.bad_bind, Res.ok_to, Res.bad_to, SR.nx_seq, SR.rt_seq, SR.bk_seq, SR.ct_seq, wp_ok, wp_bind, wp_to, swp_nx, swp_rt, swp_bk, swp_ct, swp_seq, wp_fin, fin_rt, fin_nx, wipe_nil, wipe_cons, List.getElem?_cons_zero, List.getElem?_cons_succ, List.set_cons_zero, List.set_cons_succ, List.getElem?_nil, newL_eq, seq_tup, seq_kl, iterD_tup, iterD_kl, iterS_tup, iterS_kl, truR_bool, if_true, Bool.false_eq_true, if_false, Bool.not_true, Bool.not_false, preApp hget, q1, q2, opB_band, bandN, app_N hget (by rw [sizeLine_eq]; simp; omega)]
    refine ⟨_, _, rfl, ?_⟩
    rw [masksF_snoc, stepM, ← hM]
    simp
  · rintro σ m' ⟨x, y, rfl, rfl⟩
    refine step ?_
    simp only [dE_var, dE_lit, dE_bin, dE_neg, dE_inv, dE_cmp, dE_chain, dE_and, dE_or, dE_not, dE_ife, dE_tup, dE_lst, dE_idx, dE_slc, dE_call, dE_bi, dE_isin, dE_meth, dE_comp, dE_gc, dE_lrng1, dE_lrng2, dEs_nil, dEs_cons, dO_none, dO_some, dB_and, dB_or, dB_not, dB_val, dBO_none, dBO_some, dI_plain, dI_rng1, dI_rng2, dI_zip, dI_enum, dI_rev, dT_name, dT_tup, dT_sub, dTs_nil, dTs_cons, dS_asg, dS_aug, dS_augS, dS_par3, dS_expr, dS_ret, dS_retN, dS_pass, dS_brk, dS_cont, dS_ite, dS_whl, dS_fr, dSs_nil, Res.ok_bind, Res.bad_bind, Res.ok_to, Res.bad_to, SR.nx_seq, SR.rt_seq, SR.bk_seq, SR.ct_seq, wp_ok, wp_bind, wp_to, swp_nx, swp_rt, swp_bk, swp_ct, swp_seq, wp_fin, fin_rt, fin_nx, wipe_nil, wipe_cons, List.getElem?_cons_zero, List.getElem?_cons_succ, List.set_cons_zero, List.set_cons_succ, List.getElem?_nil, newL_eq, seq_tup, seq_kl, iterD_tup, iterD_kl, iterS_tup, iterS_kl, truR_bool, if_true, Bool.false_eq_true, if_false, Bool.not_true, Bool.not_false]
    rw [gc_new2 (o := .lst ((masksF (wholeN n) (0 :: patsF n) N.pairs).map natD)) (by simp) (by omega) (by simp)]
    simp [NetV.masks, hk]
end
end PC

namespace PC.K01
open PySem L2 Classical
def topS (i : Nat) : Stmt := PySem.Challenge.pw_beatfabric_k01_word_operations.main.body.getD i (.Pass ⟨0, 0, 0, 0⟩)
/-- result -/
def c_result : CSs :=
  .cons (.asg (.name 5) (.bin .Sub (.bin .LShift (.lit (.int 1)) (.var 1)) (.lit (.int 1)))) <|
  .cons (.ite (.val (.cmp .Eq (.bi .len (.cons (.var 3) .nil)) (.lit (.int 1)))) (.cons (.ret (.bin .BitAnd (.call "of_one" (.cons (.var 0) (.cons (.var 1) (.cons (.idx (.var 2) (.lit (.int 0))) (.cons (.idx (.var 3) (.lit (.int 0))) (.cons (.var 4) .nil)))))) (.var 5))) .nil) .nil) <|
  .cons (.ite (.val (.cmp .Eq (.var 0) (.lit (.str "pick")))) (.cons (.ret (.ife (.val (.cmp .Eq (.idx (.var 3) (.lit (.int 0))) (.lit (.int 1)))) (.idx (.var 3) (.lit (.int 1))) (.idx (.var 3) (.lit (.int 2))))) .nil) .nil) <|
  .cons (.asg (.tup (.cons (.name 6) (.cons (.name 7) .nil))) (.var 3)) <|
  .cons (.ite (.val (.cmp .Eq (.var 0) (.lit (.str "join")))) (.cons (.ret (.bin .BitOr (.bin .LShift (.var 6) (.idx (.var 2) (.lit (.int 1)))) (.var 7))) .nil) .nil) <|
  .cons (.ite (.val (.cmp .In (.var 0) (.tup (.cons (.lit (.str "lt")) (.cons (.lit (.str "le")) (.cons (.lit (.str "eq")) (.cons (.lit (.str "ne")) .nil))))))) (.cons (.ret (.call "compared_words" (.cons (.var 0) (.cons (.var 6) (.cons (.var 7) .nil))))) .nil) .nil) <|
  .cons (.ret (.bin .BitAnd (.call "of_two" (.cons (.var 0) (.cons (.var 6) (.cons (.var 7) .nil)))) (.var 5))) <|
  .nil
abbrev s_result : Stmt := topS 1
def f_result : FD := ⟨"result", s_result, ["op", "width", "widths", "words", "low", "room", "left", "right"], ["op", "width", "widths", "words", "low"], 60, c_result, [(.int (0))]⟩
theorem k_result : FD.okB f_result = true := by decide +kernel
/-- of_one -/
def c_of_one : CSs :=
  .cons (.ite (.val (.cmp .Eq (.var 0) (.lit (.str "not")))) (.cons (.ret (.bin .Sub (.bin .Sub (.bin .LShift (.lit (.int 1)) (.var 2)) (.lit (.int 1))) (.var 3))) .nil) .nil) <|
  .cons (.ite (.val (.cmp .Eq (.var 0) (.lit (.str "neg")))) (.cons (.ret (.bin .Sub (.bin .LShift (.lit (.int 1)) (.var 2)) (.var 3))) .nil) .nil) <|
  .cons (.ite (.val (.cmp .Eq (.var 0) (.lit (.str "bits")))) (.cons (.ret (.bin .RShift (.var 3) (.var 4))) .nil) .nil) <|
  .cons (.ite (.val (.cmp .Eq (.var 0) (.lit (.str "wide")))) (.cons (.ret (.var 3)) .nil) .nil) <|
  .cons (.ite (.val (.cmp .Eq (.var 0) (.lit (.str "sign")))) (.cons (.ite (.val (.cmp .Eq (.bin .RShift (.var 3) (.bin .Sub (.var 2) (.lit (.int 1)))) (.lit (.int 0)))) (.cons (.ret (.var 3)) .nil) .nil) (.cons (.ret (.bin .Sub (.bin .Add (.var 3) (.bin .LShift (.lit (.int 1)) (.var 1))) (.bin .LShift (.lit (.int 1)) (.var 2)))) .nil)) .nil) <|
  .cons (.ite (.val (.cmp .Eq (.var 0) (.lit (.str "any")))) (.cons (.ret (.ife (.val (.cmp .Gt (.var 3) (.lit (.int 0)))) (.lit (.int 1)) (.lit (.int 0)))) .nil) .nil) <|
  .cons (.ite (.val (.cmp .Eq (.var 0) (.lit (.str "all")))) (.cons (.ret (.ife (.val (.cmp .Eq (.var 3) (.bin .Sub (.bin .LShift (.lit (.int 1)) (.var 2)) (.lit (.int 1))))) (.lit (.int 1)) (.lit (.int 0)))) .nil) .nil) <|
  .cons (.ret (.bin .BitAnd (.call "ones_of" (.cons (.var 3) .nil)) (.lit (.int 1)))) <|
  .nil
abbrev s_of_one : Stmt := topS 2
def f_of_one : FD := ⟨"of_one", s_of_one, ["op", "width", "wide", "word", "low"], ["op", "width", "wide", "word", "low"], 60, c_of_one, []⟩
theorem k_of_one : FD.okB f_of_one = true := by decide +kernel
/-- of_two -/
def c_of_two : CSs :=
  .cons (.ite (.val (.cmp .Eq (.var 0) (.lit (.str "add")))) (.cons (.ret (.bin .Add (.var 1) (.var 2))) .nil) .nil) <|
  .cons (.ite (.val (.cmp .Eq (.var 0) (.lit (.str "sub")))) (.cons (.ret (.bin .Sub (.var 1) (.var 2))) .nil) .nil) <|
  .cons (.ite (.val (.cmp .Eq (.var 0) (.lit (.str "mul")))) (.cons (.ret (.bin .Mult (.var 1) (.var 2))) .nil) .nil) <|
  .cons (.ite (.val (.cmp .Eq (.var 0) (.lit (.str "and")))) (.cons (.ret (.bin .BitAnd (.var 1) (.var 2))) .nil) .nil) <|
  .cons (.ite (.val (.cmp .Eq (.var 0) (.lit (.str "or")))) (.cons (.ret (.bin .BitOr (.var 1) (.var 2))) .nil) .nil) <|
  .cons (.ite (.val (.cmp .Eq (.var 0) (.lit (.str "xor")))) (.cons (.ret (.bin .BitXor (.var 1) (.var 2))) .nil) .nil) <|
  .cons (.ite (.val (.cmp .Eq (.var 0) (.lit (.str "shl")))) (.cons (.ret (.bin .LShift (.var 1) (.bi .min2 (.cons (.var 2) (.cons (.lit (.int 8)) .nil))))) .nil) .nil) <|
  .cons (.ret (.bin .RShift (.var 1) (.var 2))) <|
  .nil
abbrev s_of_two : Stmt := topS 3
def f_of_two : FD := ⟨"of_two", s_of_two, ["op", "left", "right"], ["op", "left", "right"], 60, c_of_two, []⟩
theorem k_of_two : FD.okB f_of_two = true := by decide +kernel
/-- compared_words -/
def c_compared_words : CSs :=
  .cons (.ite (.val (.cmp .Eq (.var 0) (.lit (.str "lt")))) (.cons (.asg (.name 3) (.cmp .Lt (.var 1) (.var 2))) .nil) (.cons (.ite (.val (.cmp .Eq (.var 0) (.lit (.str "le")))) (.cons (.asg (.name 3) (.cmp .LtE (.var 1) (.var 2))) .nil) (.cons (.ite (.val (.cmp .Eq (.var 0) (.lit (.str "eq")))) (.cons (.asg (.name 3) (.cmp .Eq (.var 1) (.var 2))) .nil) (.cons (.asg (.name 3) (.cmp .NotEq (.var 1) (.var 2))) .nil)) .nil)) .nil)) <|
  .cons (.ret (.ife (.val (.var 3)) (.lit (.int 1)) (.lit (.int 0)))) <|
  .nil
abbrev s_compared_words : Stmt := topS 4
def f_compared_words : FD := ⟨"compared_words", s_compared_words, ["op", "left", "right", "holds"], ["op", "left", "right"], 60, c_compared_words, []⟩
theorem k_compared_words : FD.okB f_compared_words = true := by decide +kernel
/-- ones_of -/
def c_ones_of : CSs :=
  .cons (.asg (.name 1) (.lit (.int 0))) <|
  .cons (.whl (.val (.cmp .Gt (.var 0) (.lit (.int 0)))) (.cons (.aug 1 .Add (.bin .BitAnd (.var 0) (.lit (.int 1)))) (.cons (.asg (.name 0) (.bin .RShift (.var 0) (.lit (.int 1)))) .nil))) <|
  .cons (.ret (.var 1)) <|
  .nil
abbrev s_ones_of : Stmt := topS 5
def f_ones_of : FD := ⟨"ones_of", s_ones_of, ["word", "many"], ["word"], 60, c_ones_of, []⟩
theorem k_ones_of : FD.okB f_ones_of = true := by decide +kernel
/-- _law_begin -/
abbrev c_l_begin : CSs := cBegin
abbrev s_l_begin : Stmt := topS 7
def f_l_begin : FD := ⟨"_law_begin", s_l_begin, ["_law_script", "_law_cell"], ["_law_script"], 60, c_l_begin, []⟩
theorem k_l_begin : FD.okB f_l_begin = true := by decide +kernel
/-- _law_draw -/
abbrev c_l_draw : CSs := cDraw
abbrev s_l_draw : Stmt := topS 8
def f_l_draw : FD := ⟨"_law_draw", s_l_draw, ["_law_d", "_law_many", "_law_found", "_law_size", "_law_cell"], ["_law_d", "_law_many"], 60, c_l_draw, []⟩
theorem k_l_draw : FD.okB f_l_draw = true := by decide +kernel
/-- _law_pop -/
abbrev c_l_pop : CSs := cPop
abbrev s_l_pop : Stmt := topS 9
def f_l_pop : FD := ⟨"_law_pop", s_l_pop, ["_law_d", "_law_row"], ["_law_d", "_law_row"], 60, c_l_pop, []⟩
theorem k_l_pop : FD.okB f_l_pop = true := by decide +kernel
/-- _law_is_int -/
abbrev c_l_is_int : CSs := cIsInt
abbrev s_l_is_int : Stmt := topS 10
def f_l_is_int : FD := ⟨"_law_is_int", s_l_is_int, ["_law_thing"], ["_law_thing"], 60, c_l_is_int, []⟩
theorem k_l_is_int : FD.okB f_l_is_int = true := by decide +kernel
/-- _law_word -/
def c_l_word : CSs :=
  .cons (.asg (.name 5) (.bin .LShift (.lit (.int 1)) (.var 1))) <|
  .cons (.asg (.name 6) (.idx (.var 3) (.lit (.int 0)))) <|
  .cons (.ite (.val (.cmp .Eq (.var 0) (.lit (.str "not")))) (.cons (.ret (.bin .Sub (.bin .Sub (.bin .LShift (.lit (.int 1)) (.idx (.var 2) (.lit (.int 0)))) (.lit (.int 1))) (.var 6))) .nil) .nil) <|
  .cons (.ite (.val (.cmp .Eq (.var 0) (.lit (.str "neg")))) (.cons (.ret (.bin .BitAnd (.bin .Sub (.bin .LShift (.lit (.int 1)) (.idx (.var 2) (.lit (.int 0)))) (.var 6)) (.bin .Sub (.var 5) (.lit (.int 1))))) .nil) .nil) <|
  .cons (.ite (.val (.cmp .In (.var 0) (.tup (.cons (.lit (.str "wide")) (.cons (.lit (.str "bits")) .nil))))) (.cons (.ret (.bin .BitAnd (.bin .RShift (.var 6) (.var 4)) (.bin .Sub (.var 5) (.lit (.int 1))))) .nil) .nil) <|
  .cons (.ite (.val (.cmp .Eq (.var 0) (.lit (.str "sign")))) (.cons (.ite (.val (.bin .RShift (.var 6) (.bin .Sub (.idx (.var 2) (.lit (.int 0))) (.lit (.int 1))))) (.cons (.ret (.bin .Sub (.bin .Add (.var 6) (.var 5)) (.bin .LShift (.lit (.int 1)) (.idx (.var 2) (.lit (.int 0)))))) .nil) .nil) (.cons (.ret (.var 6)) .nil)) .nil) <|
  .cons (.ite (.val (.cmp .Eq (.var 0) (.lit (.str "any")))) (.cons (.ret (.bi .int (.cons (.cmp .NotEq (.var 6) (.lit (.int 0))) .nil))) .nil) .nil) <|
  .cons (.ite (.val (.cmp .Eq (.var 0) (.lit (.str "all")))) (.cons (.ret (.bi .int (.cons (.cmp .Eq (.var 6) (.bin .Sub (.bin .LShift (.lit (.int 1)) (.idx (.var 2) (.lit (.int 0)))) (.lit (.int 1)))) .nil))) .nil) .nil) <|
  .cons (.ite (.val (.cmp .Eq (.var 0) (.lit (.str "odd")))) (.cons (.ret (.bin .BitAnd (.gc (.bi .sum (.cons (.comp [8] (.name 8) (.rng1 (.lit (.int 8))) .none (.bin .BitAnd (.bin .RShift (.var 6) (.var 8)) (.lit (.int 1)))) .nil))) (.lit (.int 1)))) .nil) .nil) <|
  .cons (.ite (.val (.cmp .Eq (.var 0) (.lit (.str "pick")))) (.cons (.ret (.ife (.val (.cmp .Eq (.var 6) (.lit (.int 1)))) (.idx (.var 3) (.lit (.int 1))) (.idx (.var 3) (.lit (.int 2))))) .nil) .nil) <|
  .cons (.asg (.name 7) (.idx (.var 3) (.lit (.int 1)))) <|
  .cons (.ite (.val (.cmp .Eq (.var 0) (.lit (.str "join")))) (.cons (.ret (.bin .Add (.bin .Mult (.var 6) (.bin .LShift (.lit (.int 1)) (.idx (.var 2) (.lit (.int 1))))) (.var 7))) .nil) .nil) <|
  .cons (.ite (.val (.cmp .In (.var 0) (.tup (.cons (.lit (.str "lt")) (.cons (.lit (.str "le")) (.cons (.lit (.str "eq")) (.cons (.lit (.str "ne")) .nil))))))) (.cons (.ret (.bi .int (.cons (.or (.and (.cmp .Eq (.var 0) (.lit (.str "lt"))) (.cmp .Lt (.var 6) (.var 7))) (.or (.and (.cmp .Eq (.var 0) (.lit (.str "le"))) (.cmp .LtE (.var 6) (.var 7))) (.or (.and (.cmp .Eq (.var 0) (.lit (.str "eq"))) (.cmp .Eq (.var 6) (.var 7))) (.and (.cmp .Eq (.var 0) (.lit (.str "ne"))) (.cmp .NotEq (.var 6) (.var 7)))))) .nil))) .nil) .nil) <|
  .cons (.ite (.val (.cmp .Eq (.var 0) (.lit (.str "add")))) (.cons (.ret (.bin .BitAnd (.bin .Add (.var 6) (.var 7)) (.bin .Sub (.var 5) (.lit (.int 1))))) .nil) .nil) <|
  .cons (.ite (.val (.cmp .Eq (.var 0) (.lit (.str "sub")))) (.cons (.ret (.bin .BitAnd (.bin .Sub (.bin .Add (.var 6) (.var 5)) (.var 7)) (.bin .Sub (.var 5) (.lit (.int 1))))) .nil) .nil) <|
  .cons (.ite (.val (.cmp .Eq (.var 0) (.lit (.str "mul")))) (.cons (.ret (.bin .BitAnd (.bin .Mult (.var 6) (.var 7)) (.bin .Sub (.var 5) (.lit (.int 1))))) .nil) .nil) <|
  .cons (.ite (.val (.cmp .Eq (.var 0) (.lit (.str "and")))) (.cons (.ret (.bin .BitAnd (.var 6) (.var 7))) .nil) .nil) <|
  .cons (.ite (.val (.cmp .Eq (.var 0) (.lit (.str "or")))) (.cons (.ret (.bin .BitOr (.var 6) (.var 7))) .nil) .nil) <|
  .cons (.ite (.val (.cmp .Eq (.var 0) (.lit (.str "xor")))) (.cons (.ret (.bin .BitXor (.var 6) (.var 7))) .nil) .nil) <|
  .cons (.ite (.val (.cmp .GtE (.var 7) (.var 1))) (.cons (.ret (.lit (.int 0))) .nil) .nil) <|
  .cons (.ite (.val (.cmp .Eq (.var 0) (.lit (.str "shl")))) (.cons (.ret (.bin .BitAnd (.bin .LShift (.var 6) (.var 7)) (.bin .Sub (.var 5) (.lit (.int 1))))) .nil) .nil) <|
  .cons (.ret (.bin .RShift (.var 6) (.var 7))) <|
  .nil
abbrev s_l_word : Stmt := topS 11
def f_l_word : FD := ⟨"_law_word", s_l_word, ["_law_op", "_law_width", "_law_wides", "_law_words", "_law_low", "_law_room", "_law_first", "_law_second", "_law_k"], ["_law_op", "_law_width", "_law_wides", "_law_words", "_law_low"], 60, c_l_word, []⟩
theorem k_l_word : FD.okB f_l_word = true := by decide +kernel
/-- _law_shape -/
def c_l_shape : CSs :=
  .cons (.asg (.name 3) (.bin .Add (.lit (.int 1)) (.call "_law_draw" (.cons (.var 0) (.cons (.var 2) .nil))))) <|
  .cons (.asg (.name 4) (.bin .Add (.lit (.int 1)) (.call "_law_draw" (.cons (.var 0) (.cons (.var 2) .nil))))) <|
  .cons (.ite (.val (.cmp .In (.var 1) (.tup (.cons (.lit (.str "not")) (.cons (.lit (.str "neg")) .nil))))) (.cons (.ret (.tup (.cons (.var 3) (.cons (.lst (.cons (.var 3) .nil)) (.cons (.lit (.int 0)) .nil))))) .nil) .nil) <|
  .cons (.ite (.val (.cmp .In (.var 1) (.tup (.cons (.lit (.str "any")) (.cons (.lit (.str "all")) (.cons (.lit (.str "odd")) .nil)))))) (.cons (.ret (.tup (.cons (.lit (.int 1)) (.cons (.lst (.cons (.var 3) .nil)) (.cons (.lit (.int 0)) .nil))))) .nil) .nil) <|
  .cons (.ite (.val (.cmp .Eq (.var 1) (.lit (.str "wide")))) (.cons (.ret (.tup (.cons (.var 4) (.cons (.lst (.cons (.var 3) .nil)) (.cons (.lit (.int 0)) .nil))))) .nil) .nil) <|
  .cons (.ite (.val (.cmp .Eq (.var 1) (.lit (.str "sign")))) (.cons (.ret (.tup (.cons (.bi .max2 (.cons (.var 3) (.cons (.var 4) .nil))) (.cons (.lst (.cons (.bi .min2 (.cons (.var 3) (.cons (.var 4) .nil))) .nil)) (.cons (.lit (.int 0)) .nil))))) .nil) .nil) <|
  .cons (.ite (.val (.cmp .Eq (.var 1) (.lit (.str "bits")))) (.cons (.asg (.name 5) (.call "_law_draw" (.cons (.var 0) (.cons (.var 3) .nil)))) (.cons (.ret (.tup (.cons (.bin .Add (.lit (.int 1)) (.call "_law_draw" (.cons (.var 0) (.cons (.bin .Sub (.var 3) (.var 5)) .nil)))) (.cons (.lst (.cons (.var 3) .nil)) (.cons (.var 5) .nil))))) .nil)) .nil) <|
  .cons (.ite (.val (.cmp .In (.var 1) (.tup (.cons (.lit (.str "shl")) (.cons (.lit (.str "shr")) .nil))))) (.cons (.ret (.tup (.cons (.var 3) (.cons (.lst (.cons (.var 3) (.cons (.var 4) .nil))) (.cons (.lit (.int 0)) .nil))))) .nil) .nil) <|
  .cons (.ite (.val (.cmp .In (.var 1) (.tup (.cons (.lit (.str "lt")) (.cons (.lit (.str "le")) (.cons (.lit (.str "eq")) (.cons (.lit (.str "ne")) .nil))))))) (.cons (.ret (.tup (.cons (.lit (.int 1)) (.cons (.lst (.cons (.var 3) (.cons (.var 3) .nil))) (.cons (.lit (.int 0)) .nil))))) .nil) .nil) <|
  .cons (.ite (.val (.cmp .Eq (.var 1) (.lit (.str "pick")))) (.cons (.ret (.tup (.cons (.var 3) (.cons (.lst (.cons (.lit (.int 1)) (.cons (.var 3) (.cons (.var 3) .nil)))) (.cons (.lit (.int 0)) .nil))))) .nil) .nil) <|
  .cons (.ite (.val (.cmp .Eq (.var 1) (.lit (.str "join")))) (.cons (.asg (.tup (.cons (.name 3) (.cons (.name 4) .nil))) (.tup (.cons (.bi .min2 (.cons (.var 3) (.cons (.lit (.int 4)) .nil))) (.cons (.bi .min2 (.cons (.var 4) (.cons (.lit (.int 4)) .nil))) .nil)))) (.cons (.ret (.tup (.cons (.bin .Add (.var 3) (.var 4)) (.cons (.lst (.cons (.var 3) (.cons (.var 4) .nil))) (.cons (.lit (.int 0)) .nil))))) .nil)) .nil) <|
  .cons (.ret (.tup (.cons (.var 3) (.cons (.lst (.cons (.var 3) (.cons (.var 3) .nil))) (.cons (.lit (.int 0)) .nil))))) <|
  .nil
abbrev s_l_shape : Stmt := topS 12
def f_l_shape : FD := ⟨"_law_shape", s_l_shape, ["_law_d", "_law_op", "_law_most", "_law_wide", "_law_other", "_law_low"], ["_law_d", "_law_op", "_law_most"], 60, c_l_shape, []⟩
theorem k_l_shape : FD.okB f_l_shape = true := by decide +kernel
/-- _law_rows -/
def c_l_rows : CSs :=
  .cons (.asg (.name 2) (.bi .sum (.cons (.var 1) .nil))) <|
  .cons (.asg (.name 3) (.lst .nil)) <|
  .cons (.ite (.val (.cmp .LtE (.var 2) (.lit (.int 6)))) (.cons (.fr (.name 4) (.rng1 (.bin .LShift (.lit (.int 1)) (.var 2))) (.cons (.asg (.name 5) (.lst .nil)) (.cons (.fr (.name 6) (.plain (.var 1)) (.cons (.expr (.meth .append (.var 5) (.cons (.bin .BitAnd (.var 4) (.bin .Sub (.bin .LShift (.lit (.int 1)) (.var 6)) (.lit (.int 1)))) .nil))) (.cons (.asg (.name 4) (.bin .RShift (.var 4) (.var 6))) .nil))) (.cons (.expr (.meth .append (.var 3) (.cons (.bi .tuple (.cons (.var 5) .nil)) .nil))) .nil)))) (.cons (.ret (.var 3)) .nil)) .nil) <|
  .cons (.fr (.name 7) (.rng1 (.lit (.int 40))) (.cons (.asg (.name 5) (.lst .nil)) (.cons (.fr (.name 6) (.plain (.var 1)) (.cons (.asg (.name 8) (.call "_law_draw" (.cons (.var 0) (.cons (.lit (.int 5)) .nil)))) (.cons (.expr (.meth .append (.var 5) (.cons (.ife (.val (.cmp .Lt (.var 8) (.lit (.int 3)))) (.gc (.idx (.lst (.cons (.lit (.int 0)) (.cons (.bin .Sub (.bin .LShift (.lit (.int 1)) (.var 6)) (.lit (.int 1))) (.cons (.bin .LShift (.lit (.int 1)) (.bin .Sub (.var 6) (.lit (.int 1)))) .nil)))) (.var 8))) (.call "_law_draw" (.cons (.var 0) (.cons (.bin .LShift (.lit (.int 1)) (.var 6)) .nil)))) .nil))) .nil))) (.cons (.expr (.meth .append (.var 3) (.cons (.bi .tuple (.cons (.var 5) .nil)) .nil))) .nil)))) <|
  .cons (.ret (.var 3)) <|
  .nil
abbrev s_l_rows : Stmt := topS 13
def f_l_rows : FD := ⟨"_law_rows", s_l_rows, ["_law_d", "_law_wides", "_law_many", "_law_rows_here", "_law_number", "_law_row", "_law_wide", "_law_k", "_law_edge"], ["_law_d", "_law_wides"], 60, c_l_rows, []⟩
theorem k_l_rows : FD.okB f_l_rows = true := by decide +kernel
/-- law -/
def c_law : CSs :=
  .cons (.asg (.name 1) (.call "_law_begin" (.cons (.var 0) .nil))) <|
  .cons (.asg (.name 2) (.meth .split (.lit (.str "not neg add sub mul and or xor shl shr lt le eq ne pick bits join wide sign any all odd")) (.cons (.lit (.str " ")) .nil))) <|
  .cons (.asg (.name 3) (.ife (.val (.cmp .Eq (.call "_law_draw" (.cons (.var 1) (.cons (.lit (.int 2)) .nil))) (.lit (.int 0)))) (.lit (.int 3)) (.lit (.int 8)))) <|
  .cons (.fr (.name 4) (.rng1 (.lit (.int 4))) (.cons (.asg (.name 5) (.call "_law_pop" (.cons (.var 1) (.cons (.var 2) .nil)))) (.cons (.asg (.tup (.cons (.name 6) (.cons (.name 7) (.cons (.name 8) .nil)))) (.call "_law_shape" (.cons (.var 1) (.cons (.var 5) (.cons (.var 3) .nil))))) (.cons (.fr (.name 9) (.plain (.call "_law_rows" (.cons (.var 1) (.cons (.var 7) .nil)))) (.cons (.asg (.name 10) (.call "_law_word" (.cons (.var 5) (.cons (.var 6) (.cons (.var 7) (.cons (.bi .list (.cons (.var 9) .nil)) (.cons (.var 8) .nil))))))) (.cons (.ite (.val (.cmp .Eq (.var 5) (.lit (.str "bits")))) (.cons (.asg (.name 11) (.call "result" (.cons (.var 5) (.cons (.var 6) (.cons (.bi .tuple (.cons (.var 7) .nil)) (.cons (.var 9) (.cons (.var 8) .nil))))))) .nil) (.cons (.asg (.name 11) (.call "result" (.cons (.var 5) (.cons (.var 6) (.cons (.bi .tuple (.cons (.var 7) .nil)) (.cons (.var 9) .nil)))))) .nil)) (.cons (.ite (.or (.not (.val (.call "_law_is_int" (.cons (.var 11) .nil)))) (.val (.cmp .NotEq (.var 11) (.var 10)))) (.cons (.ret (.lit (.bool false))) .nil) .nil) .nil)))) .nil)))) <|
  .cons (.ret (.lit (.bool true))) <|
  .nil
abbrev s_law : Stmt := topS 14
def f_law : FD := ⟨"law", s_law, ["_law_script", "_law_d", "_law_ops", "_law_most", "_law_k", "_law_op", "_law_width", "_law_wides", "_law_low", "_law_row", "_law_due", "_law_told"], ["_law_script"], 60, c_law, []⟩
theorem k_law : FD.okB f_law = true := by decide +kernel
def G0 : Str → Option PC.D := fun x => none
def tab : List FD := [f_result, f_of_one, f_of_two, f_compared_words, f_ones_of, f_l_begin, f_l_draw, f_l_pop, f_l_is_int, f_l_word, f_l_shape, f_l_rows, f_law]
theorem tab_all : tab.all FD.okB = true := by
  simp only [tab, List.all_cons, List.all_nil, k_result, k_of_one, k_of_two, k_compared_words, k_ones_of, k_l_begin, k_l_draw, k_l_pop, k_l_is_int, k_l_word, k_l_shape, k_l_rows, k_law, Bool.and_self]
theorem u_result {G : Str → Option PC.D} {k : Nat} {x0 x1 x2 x3 x4 : PC.D} {m : Mem} : runF (tabP tab) G (k + 1) "result" [x0, x1, x2, x3, x4] m = fin m (dSs (runF (tabP tab) G k) G c_result [some x0, some x1, some x2, some x3, some x4, none, none, none] m) := rfl
theorem u1_result {G : Str → Option PC.D} {k : Nat} {x0 x1 x2 x3 : PC.D} {m : Mem} : runF (tabP tab) G (k + 1) "result" [x0, x1, x2, x3] m = fin m (dSs (runF (tabP tab) G k) G c_result [some x0, some x1, some x2, some x3, some (.int (0)), none, none, none] m) := rfl
theorem u_of_one {G : Str → Option PC.D} {k : Nat} {x0 x1 x2 x3 x4 : PC.D} {m : Mem} : runF (tabP tab) G (k + 1) "of_one" [x0, x1, x2, x3, x4] m = fin m (dSs (runF (tabP tab) G k) G c_of_one [some x0, some x1, some x2, some x3, some x4] m) := rfl
theorem u_of_two {G : Str → Option PC.D} {k : Nat} {x0 x1 x2 : PC.D} {m : Mem} : runF (tabP tab) G (k + 1) "of_two" [x0, x1, x2] m = fin m (dSs (runF (tabP tab) G k) G c_of_two [some x0, some x1, some x2] m) := rfl
theorem u_compared_words {G : Str → Option PC.D} {k : Nat} {x0 x1 x2 : PC.D} {m : Mem} : runF (tabP tab) G (k + 1) "compared_words" [x0, x1, x2] m = fin m (dSs (runF (tabP tab) G k) G c_compared_words [some x0, some x1, some x2, none] m) := rfl
theorem u_ones_of {G : Str → Option PC.D} {k : Nat} {x0 : PC.D} {m : Mem} : runF (tabP tab) G (k + 1) "ones_of" [x0] m = fin m (dSs (runF (tabP tab) G k) G c_ones_of [some x0, none] m) := rfl
theorem u_l_begin {G : Str → Option PC.D} {k : Nat} {x0 : PC.D} {m : Mem} : runF (tabP tab) G (k + 1) "_law_begin" [x0] m = fin m (dSs (runF (tabP tab) G k) G c_l_begin [some x0, none] m) := rfl
theorem u_l_draw {G : Str → Option PC.D} {k : Nat} {x0 x1 : PC.D} {m : Mem} : runF (tabP tab) G (k + 1) "_law_draw" [x0, x1] m = fin m (dSs (runF (tabP tab) G k) G c_l_draw [some x0, some x1, none, none, none] m) := rfl
theorem u_l_pop {G : Str → Option PC.D} {k : Nat} {x0 x1 : PC.D} {m : Mem} : runF (tabP tab) G (k + 1) "_law_pop" [x0, x1] m = fin m (dSs (runF (tabP tab) G k) G c_l_pop [some x0, some x1] m) := rfl
theorem u_l_is_int {G : Str → Option PC.D} {k : Nat} {x0 : PC.D} {m : Mem} : runF (tabP tab) G (k + 1) "_law_is_int" [x0] m = fin m (dSs (runF (tabP tab) G k) G c_l_is_int [some x0] m) := rfl
theorem u_l_word {G : Str → Option PC.D} {k : Nat} {x0 x1 x2 x3 x4 : PC.D} {m : Mem} : runF (tabP tab) G (k + 1) "_law_word" [x0, x1, x2, x3, x4] m = fin m (dSs (runF (tabP tab) G k) G c_l_word [some x0, some x1, some x2, some x3, some x4, none, none, none, none] m) := rfl
theorem u_l_shape {G : Str → Option PC.D} {k : Nat} {x0 x1 x2 : PC.D} {m : Mem} : runF (tabP tab) G (k + 1) "_law_shape" [x0, x1, x2] m = fin m (dSs (runF (tabP tab) G k) G c_l_shape [some x0, some x1, some x2, none, none, none] m) := rfl
theorem u_l_rows {G : Str → Option PC.D} {k : Nat} {x0 x1 : PC.D} {m : Mem} : runF (tabP tab) G (k + 1) "_law_rows" [x0, x1] m = fin m (dSs (runF (tabP tab) G k) G c_l_rows [some x0, some x1, none, none, none, none, none, none, none] m) := rfl
theorem u_law {G : Str → Option PC.D} {k : Nat} {x0 : PC.D} {m : Mem} : runF (tabP tab) G (k + 1) "law" [x0] m = fin m (dSs (runF (tabP tab) G k) G c_law [some x0, none, none, none, none, none, none, none, none, none, none, none] m) := rfl
end PC.K01

/-! PGen: more rules of general use. -/
namespace PC
open PySem L2 Classical
instance : Enc Nat where
  enc n := .int (n : Nat)
  py n := .int (n : Nat)
  dp := 0
  ok _ _ := rfl
  dep _ := Nat.le_refl _
  eqv a b := by simp only [PyData.eqv, decide_eq_true_eq, beq_iff_eq, Int.ofNat_inj]
  bel _ _ := rfl
section
variable {m : Mem}
theorem py_ref {α : Type} [E : Enc α] {n : Nat} {xs : List α} (h : m[n]? = some (.lst (xs.map E.enc))) : pyOf m (.ref n) = some (.list (xs.map E.py)) := by
  show pyR m 20 n = _
  simp only [pyR, h, pyDs_enc, Option.map_some]
theorem eq_refs {α : Type} [E : Enc α] {a b : Nat} {xs ys : List α} [Decidable (xs = ys)] (h1 : m[a]? = some (.lst (xs.map E.enc))) (h2 : m[b]? = some (.lst (ys.map E.enc))) (h : E.dp + 1 ≤ 150 := by decide) :
    eqD m (.ref a) (.ref b) = some (decide (xs = ys)) := by
  unfold eqD
  rw [py_ref h1, py_ref h2]
  have hd : min (PyData.list (xs.map E.py)).depth (PyData.list (ys.map E.py)).depth ≤ 150 := by
    refine Nat.le_trans (Nat.min_le_left _ _) (Nat.le_trans ?_ h)
    simp only [PyData.depth]
    exact Nat.add_le_add_right (depAll_enc xs) 1
  simp only [if_lo hd]
  congr 1
  refine bool_dec ?_
  simp only [PyData.eqv, eqvAll_enc]
theorem eqN {a b : Nat} : eqD m (natD a) (natD b) = some (decide (a = b)) := eq_enc (α := Nat) a b
theorem cut_take {α : Type} {xs : List α} {v : Nat} : cutD xs none (some (v : Int)) = xs.take v := by
  unfold cutD
  rw [HT.sIx_none, HT.sIx_nat, List.drop_zero, Nat.sub_zero]
  rcases Nat.le_total v xs.length with h | h
  · rw [Nat.min_eq_left h]
  · rw [Nat.min_eq_right h, List.take_of_length_le (Nat.le_refl _), List.take_of_length_le h]
theorem cut_drop {α : Type} {xs : List α} {v : Nat} : cutD xs (some (v : Int)) none = xs.drop v := by
  unfold cutD
  rw [HT.sIx_none, HT.sIx_nat]
  rcases Nat.le_total v xs.length with h | h
  · rw [Nat.min_eq_left h]
    exact List.take_of_length_le (by simp)
  · rw [Nat.min_eq_right h, List.drop_of_length_le (Nat.le_refl _), List.drop_of_length_le h]; simp
theorem slcL {n : Nat} {xs : List D} {lo hi : Option Int} (h : m[n]? = some (.lst xs)) : slcD (.ref n) lo hi m = .ok (.ref m.length) (m ++ [.lst (cutD xs lo hi)]) := by
  show (match seqOf m (.ref n) with | some xs => newL (cutD xs lo hi) m | none => Res.bad) = _
  rw [seq_refE, h]; rfl
theorem idxL {n j : Nat} {xs : List D} {d : D} (h : m[n]? = some (.lst xs)) (hd : xs[j]? = some d) : idxD (.ref n) (natD j) m = .ok d m := by
  rw [idx_ref, h]
  simp only [atI_natC, hd]
theorem seqL {n : Nat} {xs : List D} (h : m[n]? = some (.lst xs)) : seqOf m (.ref n) = some xs := seq_ref h
theorem listOf {d : D} {xs : List D} (h : seqOf m d = some xs) : biD .list [d] m = .ok (.ref m.length) (m ++ [.lst xs]) := by
  rw [bi_list, h]; rfl
theorem lenL {n : Nat} {xs : List D} (h : m[n]? = some (.lst xs)) : biD .len [.ref n] m = .ok (natD xs.length) m := by
  rw [len_ref, h]
theorem iterL {n : Nat} {xs : List D} (h : m[n]? = some (.lst xs)) : iterD m (.ref n) = some (xs, [(n, xs)]) := by
  rw [iterD_ref, h]
end
end PC

/-! PLL: lists of lists, behind the script's two things. -/
namespace PC
open PySem L2 Classical
inductive F2 {α β : Type} (p : α → β → Prop) : List α → List β → Prop where
  | nil : F2 p [] []
  | cons {a b l k} : p a b → F2 p l k → F2 p (a :: l) (b :: k)
theorem F2.imp {α β : Type} {p r : α → β → Prop} (h : ∀ a b, p a b → r a b) : ∀ {l : List α} {k : List β}, F2 p l k → F2 r l k
  | _, _, .nil => .nil
  | _, _, .cons e t => .cons (h _ _ e) (F2.imp h t)
abbrev rf (i : Nat) : D := .ref (i + 2)
/-- at q stands a list of lists; its parts stand behind base -/
structure LL (base : Nat) (R : Mem) (q : Nat) (refs : List Nat) (Ps : List (List D)) : Prop where
  at_ : R[q]? = some (.lst (refs.map rf))
  all : F2 (fun i P => R[i]? = some (.lst P)) refs Ps
  ne : ∀ i ∈ refs, i ≠ q ∧ base ≤ i
  bq : base ≤ q
theorem LL.mono {base q : Nat} {R j : Mem} {refs : List Nat} {Ps : List (List D)} (h : LL base R q refs Ps) : LL base (R ++ j) q refs Ps :=
  ⟨pre_get (List.prefix_append _ _) h.at_, h.all.imp fun _ _ e => pre_get (List.prefix_append _ _) e, h.ne, h.bq⟩
theorem f2_lt {R : Mem} : ∀ {refs : List Nat} {Ps : List (List D)}, F2 (fun i P => R[i]? = some (.lst P)) refs Ps → ∀ i ∈ refs, i < R.length
  | _, _, .nil, i, h => by simp at h
  | _, _, .cons e t, i, h => by
    rcases List.mem_cons.mp h with rfl | h
    · exact (List.getElem?_eq_some_iff.mp e).1
    · exact f2_lt t i h
theorem LL.lt {base q : Nat} {R : Mem} {refs : List Nat} {Ps : List (List D)} (h : LL base R q refs Ps) : ∀ i ∈ refs, i < R.length := f2_lt h.all
theorem LL.qlt {base q : Nat} {R : Mem} {refs : List Nat} {Ps : List (List D)} (h : LL base R q refs Ps) : q < R.length := (List.getElem?_eq_some_iff.mp h.at_).1
theorem f2_imp {α β : Type} {p r : α → β → Prop} : ∀ {l : List α} {k : List β}, F2 p l k → (∀ i ∈ l, ∀ P, p i P → r i P) → F2 r l k
  | _, _, .nil, _ => .nil
  | _, _, .cons e t, h => .cons (h _ (by simp) _ e) (f2_imp t fun i hi => h i (by simp [hi]))
theorem f2_len {α β : Type} {p : α → β → Prop} : ∀ {l : List α} {k : List β}, F2 p l k → l.length = k.length
  | _, _, .nil => rfl
  | _, _, .cons _ t => by simp [f2_len t]
theorem f2_app {α β : Type} {p : α → β → Prop} : ∀ {l l' : List α} {k k' : List β}, F2 p l k → F2 p l' k' → F2 p (l ++ l') (k ++ k')
  | _, _, _, _, .nil, h => h
  | _, _, _, _, .cons e t, h => .cons e (f2_app t h)
theorem f2_zip {α β : Type} {p : α → β → Prop} : ∀ {l : List α} {k : List β}, F2 p l k → ∀ x ∈ l.zip k, p x.1 x.2 ∧ x.2 ∈ k
  | _, _, .nil, x, h => by simp at h
  | _, _, .cons e t, x, h => by
    rcases List.mem_cons.mp h with rfl | h
    · exact ⟨e, by simp⟩
    · have := f2_zip t x h; exact ⟨this.1, by simp [this.2]⟩
theorem f2_map {α β γ : Type} {p : α → β → Prop} {f : α → γ} : ∀ {l : List α} {k : List β}, F2 p l k → l.map f = (l.zip k).map fun x => f x.1
  | _, _, .nil => rfl
  | _, _, .cons e t => by simp [f2_map (f := f) t]
/-- one more part, the last thing of the memory -/
theorem LL.push {base q : Nat} {R : Mem} {refs : List Nat} {Ps : List (List D)} {P : List D} (h : LL base R q refs Ps) (hb : base ≤ R.length) : LL base ((R ++ [MO.lst P]).set q (.lst (refs.map rf ++ [rf R.length]))) q (refs ++ [R.length]) (Ps ++ [P]) := by
  have hq := h.qlt
  refine ⟨by rw [List.getElem?_set_self (by simp; omega)]; simp, f2_app (f2_imp h.all fun i hi P e => ?_) (.cons ?_ .nil), ?_, h.bq⟩
  · have := (h.ne i hi).1
    rw [List.getElem?_set_ne (by omega)]
    exact pre_get (List.prefix_append _ _) e
  · rw [List.getElem?_set_ne (by omega)]; simp
  · intro i hi
    rcases List.mem_append.mp hi with hi | hi
    · exact h.ne i hi
    · rw [List.mem_singleton.mp hi]; exact ⟨by omega, hb⟩
theorem LL.cat {base q q2 : Nat} {R : Mem} {refs refs2 : List Nat} {Ps Ps2 : List (List D)} (h : LL base R q refs Ps) (h2 : LL base R q2 refs2 Ps2) : LL base (R ++ [.lst (refs.map rf ++ refs2.map rf)]) R.length (refs ++ refs2) (Ps ++ Ps2) := by
  refine ⟨by simp, (f2_app h.all h2.all).imp fun _ _ e => pre_get (List.prefix_append _ _) e, fun i hi => ?_, by have := h.qlt; have := h.bq; omega⟩
  rcases List.mem_append.mp hi with hi | hi
  · exact ⟨by have := h.lt i hi; omega, (h.ne i hi).2⟩
  · exact ⟨by have := h2.lt i hi; omega, (h2.ne i hi).2⟩
theorem LL.empty {R : Mem} {base : Nat} (h : base ≤ R.length) : LL base (R ++ [.lst []]) R.length [] [] := ⟨by simp, .nil, by simp, h⟩
theorem pre_set {α : Type} {l R : List α} {q : Nat} {o : α} (h : l <+: R) (hq : l.length ≤ q) : l <+: R.set q o := by
  obtain ⟨t, rfl⟩ := h
  rw [List.set_append_right _ _ hq]
  exact List.prefix_append _ _
/-- what is returned stays whole, where a part of it is new -/
theorem gc_keep {s s' : DS} {r R : Mem} {q : Nat} {refs : List Nat} (hq : r.length ≤ q) (h : R[q]? = some (.lst (refs.map rf))) (hr : ∃ i ∈ refs, r.length ≤ i) : gcD (s.mem r) (rf q) (s'.mem R) = .ok (rf q) (s'.mem R) := by
  unfold gcD
  split
  · rw [if_neg (by simp [rf]; omega)]
    simp only [rf, DS.get2, h]
    rw [if_neg]
    obtain ⟨i, hi, hl⟩ := hr
    intro hb
    have hb2 : belows (s.mem r).length (refs.map rf) = true := hb
    rw [belows_map, List.all_eq_true] at hb2
    have := hb2 i hi
    simp [rf] at this
    omega
  · rfl
theorem comp_draws {Γ : Fn} (hd : DrawG Γ) {s : DS} {r : Mem} {n a z : Nat} {body : D → Mem → Res (Option D)} {M0 : Mem} (hz : 0 < z) (hz2 : z < 1073741824) (hn : n ≤ 100000) (ha : a = r.length + 2) (hM : M0 = s.mem (r ++ [.lst []]))
    (hb : ∀ (k : Nat) m, body (.int (k : Nat)) m = (Γ "_law_draw" [.ref 1, natD z] m).bind fun x m1 => .ok (some x) m1) :
    (compD [] a body ((List.range n).map fun i => .int (i : Nat)) M0).wp fun d m => ∃ (bs : List Nat) (s' : DS), d = .ref a ∧ m = s'.mem (r ++ [.lst (bs.map natD)]) ∧ s'.xs = s.xs ∧ bs.length = n ∧ ∀ b ∈ bs, b < z := by
  subst ha
  subst hM
  refine comp_wpL (fun done acc m => ∃ (bs : List Nat) (s' : DS), acc = bs.map natD ∧ m = s'.mem (r ++ [.lst acc]) ∧ s'.xs = s.xs ∧ bs.length = done.length ∧ ∀ b ∈ bs, b < z) ⟨[], s, rfl, rfl, rfl, rfl, by simp⟩ (fun _ _ _ _ => by simp) ?_ ?_
  · rintro done y acc m hy hpre ⟨bs, s1, rfl, rfl, hx1, hlen, hbs⟩
    have hdn : done.length < n := by have := hpre.length_le; simp at this; omega
    rw [hb]
    simp only [wp_bind]
    refine (hd z s1 _ hz hz2).imp ?_
    rintro d m ⟨w, s2, rfl, hw, hx2, rfl⟩
    simp only [wp_ok]
    refine ⟨by simp, by rw [sizeLine_eq]; simp; omega, bs ++ [w], s2, by simp, by simp, by rw [hx2, hx1], by simp [hlen], ?_⟩
    intro b h
    rcases List.mem_append.mp h with h | h
    · exact hbs b h
    · rw [List.mem_singleton.mp h]; exact hw
  · rintro acc m ⟨bs, s1, rfl, rfl, hx1, hlen, hbs⟩
    exact ⟨bs, s1, rfl, rfl, hx1, by simpa using hlen, hbs⟩
end PC

namespace PC.K01
open PySem L2 Classical
theorem ofS_inj {a b : String} : (Str.ofString a = Str.ofString b) = (a = b) := by
  apply propext
  constructor
  · intro h
    rw [PySem.Str.ofString_eq_toList, PySem.Str.ofString_eq_toList] at h
    have h2 : a.toList.map Char.toNat = b.toList.map Char.toNat := by
      have := congrArg (fun z : Str => z.cps.toList) h
      simpa using this
    have h3 : a.toList = b.toList := by
      have inj : ∀ (x y : List Char), x.map Char.toNat = y.map Char.toNat → x = y := by
        intro x
        induction x with
        | nil => intro y h; cases y with
          | nil => rfl
          | cons _ _ => simp at h
        | cons c x ih => intro y h; cases y with
          | nil => simp at h
          | cons d y =>
            simp only [List.map_cons, List.cons.injEq] at h
            have : c = d := Char.ext (UInt32.toNat_inj.mp h.1)
            rw [this, ih y h.2]
      exact inj _ _ h2
    exact String.toList_inj.mp h3
  · rintro rfl; rfl
section
variable {G : Str → Option PC.D} {k : Nat}
/-- what both functions give for an operation -/
def P (op : String) (w : Nat) (ws xs : List Nat) (low : Nat) : Prop := ∃ v : Int, ∀ (G : Str → Option PC.D) (k a b : Nat) (m : Mem), m[a]? = some (.lst (ws.map natD)) → m[b]? = some (.lst (xs.map natD)) →
  runF (tabP tab) G (k + 3) "_law_word" [.str op, natD w, .ref a, .ref b, natD low] m = .ok (.int v) m ∧
  runF (tabP tab) G (k + 3) "result" [.str op, natD w, .tup (ws.map natD), .tup (xs.map natD), natD low] m = .ok (.int v) m
theorem i_in {s : String} {ss : List String} {m : Mem} : inD m (.str s) (ss.map fun x => D.str (Str.ofString x)) = some (decide (s ∈ ss)) := by
  have := in_enc (m := m) (α := Str) (Str.ofString s) (ss.map Str.ofString)
  rw [List.map_map] at this
  refine this.trans ?_
  congr 1
  apply decide_eq_decide.mpr
  rw [List.mem_map]
  constructor
  · rintro ⟨x, hx, e⟩
    rw [ofS_inj] at e; rw [← e]; exact hx
  · intro h; exact ⟨s, h, rfl⟩
theorem inS2 {s a b : String} {m : Mem} : inD m (.str s) [.str a, .str b] = some (s == a || s == b) := by
  refine (i_in (ss := [a, b])).trans ?_
  congr 1
  rw [Bool.eq_iff_iff]; simp
theorem inS3 {s a b c : String} {m : Mem} : inD m (.str s) [.str a, .str b, .str c] = some (s == a || (s == b || s == c)) := by
  refine (i_in (ss := [a, b, c])).trans ?_
  congr 1
  rw [Bool.eq_iff_iff]; simp
theorem inS4 {s a b c d : String} {m : Mem} : inD m (.str s) [.str a, .str b, .str c, .str d] = some (s == a || (s == b || (s == c || s == d))) := by
  refine (i_in (ss := [a, b, c, d])).trans ?_
  congr 1
  rw [Bool.eq_iff_iff]; simp
theorem eqS {a b : String} {m : Mem} : eqD m (.str a) (.str b) = some (a == b) := by
  rw [eq_str]
  congr 1
  rw [Bool.eq_iff_iff, decide_eq_true_eq, ofS_inj]; simp
theorem opC_inS {x : Str} {ys : List PC.D} {m : Mem} : opC .In (.str x) (.tup ys) m = ofB (inD m (.str x) ys) m := rfl
theorem and_low (x : Int) (w : Nat) : Builtin.bitAnd x (2 ^ w - 1) = x % 2 ^ w := PySem.W.kbt_mask x w
theorem sh (n : Nat) (h : n ≤ 1000) {m : Mem} : opB .LShift (.int 1) (natD n) m = .ok (.int (2 ^ n)) m := by
  rw [opB_shl (by omega) (by omega) (by decide)]; simp
theorem shrS {x a : Nat} (h : 0 < a) {m : Mem} : opB .RShift (natD x) (.int ((a : Int) - 1)) m = .ok (.int ((x / 2 ^ (a - 1) : Nat) : Int)) m := by
  rw [opB_shr (by omega), show ((a : Int) - 1).toNat = a - 1 by omega]; simp [natD]
theorem shrN {a n : Nat} {m : Mem} : opB .RShift (natD a) (natD n) m = .ok (.int ((a / 2 ^ n : Nat) : Int)) m := by
  rw [opB_shr (by omega)]; simp [natD]
end
end PC.K01

namespace PC.K01
open PySem L2 Classical

theorem p_not {a x : Nat} (ha : a ≤ 8) (h0 : 0 < a) (hx : x < 2 ^ a) : P "not" a [a] [x] 0 := by
  have hx2 : (x : Int) < 2 ^ a := by exact_mod_cast hx
  refine ⟨2 ^ a - 1 - x, fun G k ra rb m h1 h2 => ⟨?_, ?_⟩⟩
  · rw [u_l_word, c_l_word]
    have w0 : idxD (.ref ra) (.int 0) m = .ok (natD (a)) m := idxL (j := 0) h1 rfl
    have x0 : idxD (.ref rb) (.int 0) m = .ok (natD (x)) m := idxL (j := 0) h2 rfl
    refine wp_eq ?_
    rw [wp_fin]
    repeat (refine step ?_; simp only [dE_var, dE_lit, dE_bin, dE_neg, dE_inv, dE_cmp, dE_chain, dE_and, dE_or, dE_not, dE_ife, dE_tup, dE_lst, dE_idx, dE_slc, dE_call, dE_bi, dE_isin, dE_meth, dE_comp, dE_gc, dE_lrng1, dE_lrng2, dEs_nil, dEs_cons, dO_none, dO_some, dB_and, dB_or, dB_not, dB_val, dBO_none, dBO_some, dI_plain, dI_rng1, dI_rng2, dI_zip, dI_enum, dI_rev, dT_name, dT_tup, dT_sub, dTs_nil, dTs_cons, dS_asg, dS_aug, dS_augS, dS_par3, dS_expr, dS_ret, dS_retN, dS_pass, dS_brk, dS_cont, dS_ite, dS_whl, dS_fr, dSs_nil, Res.ok_bind, Res.bad_bind, Res.ok_to, Res.bad_to, SR.nx_seq, SR.rt_seq, SR.bk_seq, SR.ct_seq, wp_ok, wp_bind, wp_to, swp_nx, swp_rt, swp_bk, swp_ct, swp_seq, wp_fin, fin_rt, fin_nx, wipe_nil, wipe_cons, List.getElem?_cons_zero, List.getElem?_cons_succ, List.set_cons_zero, List.set_cons_succ, List.getElem?_nil, newL_eq, seq_tup, seq_kl, iterD_tup, iterD_kl, iterS_tup, iterS_kl, truR_bool, if_true, Bool.false_eq_true, if_false, Bool.not_true, Bool.not_false, opC_eq, eqS, ofB_some, ofNB_some, opC_inS, inS2, inS3, inS4, String.reduceBEq, Bool.or_false, Bool.or_true, Bool.false_or, Bool.true_or, opB_sub, opB_add, opB_band, opB_bor, opB_bxor, opC_lt, opC_le, opC_gt, opC_ge, opC_ne, truR_int, tru_bool, and_low, lenT, List.length_map, List.length_cons, List.length_nil, w0, x0, sh a (by omega)])
    rw [gc_id (by simp)]
    exact ⟨rfl, rfl⟩
  · rw [u_result, c_result]
    have w0 : ∀ m : Mem, idxD (.tup [natD (a)]) (.int 0) m = .ok (natD (a)) m := fun m => rfl
    have x0 : ∀ m : Mem, idxD (.tup [natD (x)]) (.int 0) m = .ok (natD (x)) m := fun m => rfl
    have hi : runF (tabP tab) G (k + 2) "of_one" [.str "not", natD (a), natD (a), natD (x), natD (0)] m = .ok (.int (2 ^ a - 1 - x)) m := by
      rw [u_of_one, c_of_one]
      refine wp_eq ?_
      rw [wp_fin]
      repeat (refine step ?_; simp only [dE_var, dE_lit, dE_bin, dE_neg, dE_inv, dE_cmp, dE_chain, dE_and, dE_or, dE_not, dE_ife, dE_tup, dE_lst, dE_idx, dE_slc, dE_call, dE_bi, dE_isin, dE_meth, dE_comp, dE_gc, dE_lrng1, dE_lrng2, dEs_nil, dEs_cons, dO_none, dO_some, dB_and, dB_or, dB_not, dB_val, dBO_none, dBO_some, dI_plain, dI_rng1, dI_rng2, dI_zip, dI_enum, dI_rev, dT_name, dT_tup, dT_sub, dTs_nil, dTs_cons, dS_asg, dS_aug, dS_augS, dS_par3, dS_expr, dS_ret, dS_retN, dS_pass, dS_brk, dS_cont, dS_ite, dS_whl, dS_fr, dSs_nil, Res.ok_bind, Res.bad_bind, Res.ok_to, Res.bad_to, SR.nx_seq, SR.rt_seq, SR.bk_seq, SR.ct_seq, wp_ok, wp_bind, wp_to, swp_nx, swp_rt, swp_bk, swp_ct, swp_seq, wp_fin, fin_rt, fin_nx, wipe_nil, wipe_cons, List.getElem?_cons_zero, List.getElem?_cons_succ, List.set_cons_zero, List.set_cons_succ, List.getElem?_nil, newL_eq, seq_tup, seq_kl, iterD_tup, iterD_kl, iterS_tup, iterS_kl, truR_bool, if_true, Bool.false_eq_true, if_false, Bool.not_true, Bool.not_false, opC_eq, eqS, ofB_some, ofNB_some, opC_inS, inS2, inS3, inS4, String.reduceBEq, Bool.or_false, Bool.or_true, Bool.false_or, Bool.true_or, opB_sub, opB_add, opB_band, opB_bor, opB_bxor, opC_lt, opC_le, opC_gt, opC_ge, opC_ne, truR_int, tru_bool, and_low, lenT, List.length_map, List.length_cons, List.length_nil, sh a (by omega)])
      rw [gc_id (by simp)]
      exact ⟨by first | rfl | simp, rfl⟩
    refine wp_eq ?_
    rw [wp_fin]
    repeat (refine step ?_; simp only [dE_var, dE_lit, dE_bin, dE_neg, dE_inv, dE_cmp, dE_chain, dE_and, dE_or, dE_not, dE_ife, dE_tup, dE_lst, dE_idx, dE_slc, dE_call, dE_bi, dE_isin, dE_meth, dE_comp, dE_gc, dE_lrng1, dE_lrng2, dEs_nil, dEs_cons, dO_none, dO_some, dB_and, dB_or, dB_not, dB_val, dBO_none, dBO_some, dI_plain, dI_rng1, dI_rng2, dI_zip, dI_enum, dI_rev, dT_name, dT_tup, dT_sub, dTs_nil, dTs_cons, dS_asg, dS_aug, dS_augS, dS_par3, dS_expr, dS_ret, dS_retN, dS_pass, dS_brk, dS_cont, dS_ite, dS_whl, dS_fr, dSs_nil, Res.ok_bind, Res.bad_bind, Res.ok_to, Res.bad_to, SR.nx_seq, SR.rt_seq, SR.bk_seq, SR.ct_seq, wp_ok, wp_bind, wp_to, swp_nx, swp_rt, swp_bk, swp_ct, swp_seq, wp_fin, fin_rt, fin_nx, wipe_nil, wipe_cons, List.getElem?_cons_zero, List.getElem?_cons_succ, List.set_cons_zero, List.set_cons_succ, List.getElem?_nil, newL_eq, seq_tup, seq_kl, iterD_tup, iterD_kl, iterS_tup, iterS_kl, truR_bool, if_true, Bool.false_eq_true, if_false, Bool.not_true, Bool.not_false, opC_eq, eqS, ofB_some, ofNB_some, opC_inS, inS2, inS3, inS4, String.reduceBEq, Bool.or_false, Bool.or_true, Bool.false_or, Bool.true_or, opB_sub, opB_add, opB_band, opB_bor, opB_bxor, opC_lt, opC_le, opC_gt, opC_ge, opC_ne, truR_int, tru_bool, and_low, lenT, List.length_map, List.length_cons, List.length_nil, List.map_cons, List.map_nil, Int.reduceEq, eq_int, w0, x0, hi, sh (a) (by omega)])
    rw [gc_id (by simp)]
    exact ⟨by rw [Int.emod_eq_of_lt (by omega) (by omega)], rfl⟩
theorem p_neg {a x : Nat} (ha : a ≤ 8) (h0 : 0 < a) (hx : x < 2 ^ a) : P "neg" a [a] [x] 0 := by
  have hx2 : (x : Int) < 2 ^ a := by exact_mod_cast hx
  refine ⟨(2 ^ a - x) % 2 ^ a, fun G k ra rb m h1 h2 => ⟨?_, ?_⟩⟩
  · rw [u_l_word, c_l_word]
    have w0 : idxD (.ref ra) (.int 0) m = .ok (natD (a)) m := idxL (j := 0) h1 rfl
    have x0 : idxD (.ref rb) (.int 0) m = .ok (natD (x)) m := idxL (j := 0) h2 rfl
    refine wp_eq ?_
    rw [wp_fin]
    repeat (refine step ?_; simp only [dE_var, dE_lit, dE_bin, dE_neg, dE_inv, dE_cmp, dE_chain, dE_and, dE_or, dE_not, dE_ife, dE_tup, dE_lst, dE_idx, dE_slc, dE_call, dE_bi, dE_isin, dE_meth, dE_comp, dE_gc, dE_lrng1, dE_lrng2, dEs_nil, dEs_cons, dO_none, dO_some, dB_and, dB_or, dB_not, dB_val, dBO_none, dBO_some, dI_plain, dI_rng1, dI_rng2, dI_zip, dI_enum, dI_rev, dT_name, dT_tup, dT_sub, dTs_nil, dTs_cons, dS_asg, dS_aug, dS_augS, dS_par3, dS_expr, dS_ret, dS_retN, dS_pass, dS_brk, dS_cont, dS_ite, dS_whl, dS_fr, dSs_nil, Res.ok_bind, Res.bad_bind, Res.ok_to, Res.bad_to, SR.nx_seq, SR.rt_seq, SR.bk_seq, SR.ct_seq, wp_ok, wp_bind, wp_to, swp_nx, swp_rt, swp_bk, swp_ct, swp_seq, wp_fin, fin_rt, fin_nx, wipe_nil, wipe_cons, List.getElem?_cons_zero, List.getElem?_cons_succ, List.set_cons_zero, List.set_cons_succ, List.getElem?_nil, newL_eq, seq_tup, seq_kl, iterD_tup, iterD_kl, iterS_tup, iterS_kl, truR_bool, if_true, Bool.false_eq_true, if_false, Bool.not_true, Bool.not_false, opC_eq, eqS, ofB_some, ofNB_some, opC_inS, inS2, inS3, inS4, String.reduceBEq, Bool.or_false, Bool.or_true, Bool.false_or, Bool.true_or, opB_sub, opB_add, opB_band, opB_bor, opB_bxor, opC_lt, opC_le, opC_gt, opC_ge, opC_ne, truR_int, tru_bool, and_low, lenT, List.length_map, List.length_cons, List.length_nil, w0, x0, sh a (by omega)])
    rw [gc_id (by simp)]
    exact ⟨rfl, rfl⟩
  · rw [u_result, c_result]
    have w0 : ∀ m : Mem, idxD (.tup [natD (a)]) (.int 0) m = .ok (natD (a)) m := fun m => rfl
    have x0 : ∀ m : Mem, idxD (.tup [natD (x)]) (.int 0) m = .ok (natD (x)) m := fun m => rfl
    have hi : runF (tabP tab) G (k + 2) "of_one" [.str "neg", natD (a), natD (a), natD (x), natD (0)] m = .ok (.int (2 ^ a - x)) m := by
      rw [u_of_one, c_of_one]
      refine wp_eq ?_
      rw [wp_fin]
      repeat (refine step ?_; simp only [dE_var, dE_lit, dE_bin, dE_neg, dE_inv, dE_cmp, dE_chain, dE_and, dE_or, dE_not, dE_ife, dE_tup, dE_lst, dE_idx, dE_slc, dE_call, dE_bi, dE_isin, dE_meth, dE_comp, dE_gc, dE_lrng1, dE_lrng2, dEs_nil, dEs_cons, dO_none, dO_some, dB_and, dB_or, dB_not, dB_val, dBO_none, dBO_some, dI_plain, dI_rng1, dI_rng2, dI_zip, dI_enum, dI_rev, dT_name, dT_tup, dT_sub, dTs_nil, dTs_cons, dS_asg, dS_aug, dS_augS, dS_par3, dS_expr, dS_ret, dS_retN, dS_pass, dS_brk, dS_cont, dS_ite, dS_whl, dS_fr, dSs_nil, Res.ok_bind, Res.bad_bind, Res.ok_to, Res.bad_to, SR.nx_seq, SR.rt_seq, SR.bk_seq, SR.ct_seq, wp_ok, wp_bind, wp_to, swp_nx, swp_rt, swp_bk, swp_ct, swp_seq, wp_fin, fin_rt, fin_nx, wipe_nil, wipe_cons, List.getElem?_cons_zero, List.getElem?_cons_succ, List.set_cons_zero, List.set_cons_succ, List.getElem?_nil, newL_eq, seq_tup, seq_kl, iterD_tup, iterD_kl, iterS_tup, iterS_kl, truR_bool, if_true, Bool.false_eq_true, if_false, Bool.not_true, Bool.not_false, opC_eq, eqS, ofB_some, ofNB_some, opC_inS, inS2, inS3, inS4, String.reduceBEq, Bool.or_false, Bool.or_true, Bool.false_or, Bool.true_or, opB_sub, opB_add, opB_band, opB_bor, opB_bxor, opC_lt, opC_le, opC_gt, opC_ge, opC_ne, truR_int, tru_bool, and_low, lenT, List.length_map, List.length_cons, List.length_nil, sh a (by omega)])
      rw [gc_id (by simp)]
      exact ⟨by first | rfl | simp, rfl⟩
    refine wp_eq ?_
    rw [wp_fin]
    repeat (refine step ?_; simp only [dE_var, dE_lit, dE_bin, dE_neg, dE_inv, dE_cmp, dE_chain, dE_and, dE_or, dE_not, dE_ife, dE_tup, dE_lst, dE_idx, dE_slc, dE_call, dE_bi, dE_isin, dE_meth, dE_comp, dE_gc, dE_lrng1, dE_lrng2, dEs_nil, dEs_cons, dO_none, dO_some, dB_and, dB_or, dB_not, dB_val, dBO_none, dBO_some, dI_plain, dI_rng1, dI_rng2, dI_zip, dI_enum, dI_rev, dT_name, dT_tup, dT_sub, dTs_nil, dTs_cons, dS_asg, dS_aug, dS_augS, dS_par3, dS_expr, dS_ret, dS_retN, dS_pass, dS_brk, dS_cont, dS_ite, dS_whl, dS_fr, dSs_nil, Res.ok_bind, Res.bad_bind, Res.ok_to, Res.bad_to, SR.nx_seq, SR.rt_seq, SR.bk_seq, SR.ct_seq, wp_ok, wp_bind, wp_to, swp_nx, swp_rt, swp_bk, swp_ct, swp_seq, wp_fin, fin_rt, fin_nx, wipe_nil, wipe_cons, List.getElem?_cons_zero, List.getElem?_cons_succ, List.set_cons_zero, List.set_cons_succ, List.getElem?_nil, newL_eq, seq_tup, seq_kl, iterD_tup, iterD_kl, iterS_tup, iterS_kl, truR_bool, if_true, Bool.false_eq_true, if_false, Bool.not_true, Bool.not_false, opC_eq, eqS, ofB_some, ofNB_some, opC_inS, inS2, inS3, inS4, String.reduceBEq, Bool.or_false, Bool.or_true, Bool.false_or, Bool.true_or, opB_sub, opB_add, opB_band, opB_bor, opB_bxor, opC_lt, opC_le, opC_gt, opC_ge, opC_ne, truR_int, tru_bool, and_low, lenT, List.length_map, List.length_cons, List.length_nil, List.map_cons, List.map_nil, Int.reduceEq, eq_int, w0, x0, hi, sh (a) (by omega)])
    rw [gc_id (by simp)]
    exact ⟨rfl, rfl⟩
theorem p_bits {a x w l : Nat} (ha : a ≤ 8) (h0 : 0 < a) (hw : w ≤ 8) (hx : x < 2 ^ a) : P "bits" w [a] [x] l := by
  refine ⟨((x / 2 ^ l : Nat) : Int) % 2 ^ w, fun G k ra rb m h1 h2 => ⟨?_, ?_⟩⟩
  · rw [u_l_word, c_l_word]
    have w0 : idxD (.ref ra) (.int 0) m = .ok (natD (a)) m := idxL (j := 0) h1 rfl
    have x0 : idxD (.ref rb) (.int 0) m = .ok (natD (x)) m := idxL (j := 0) h2 rfl
    refine wp_eq ?_
    rw [wp_fin]
    repeat (refine step ?_; simp only [dE_var, dE_lit, dE_bin, dE_neg, dE_inv, dE_cmp, dE_chain, dE_and, dE_or, dE_not, dE_ife, dE_tup, dE_lst, dE_idx, dE_slc, dE_call, dE_bi, dE_isin, dE_meth, dE_comp, dE_gc, dE_lrng1, dE_lrng2, dEs_nil, dEs_cons, dO_none, dO_some, dB_and, dB_or, dB_not, dB_val, dBO_none, dBO_some, dI_plain, dI_rng1, dI_rng2, dI_zip, dI_enum, dI_rev, dT_name, dT_tup, dT_sub, dTs_nil, dTs_cons, dS_asg, dS_aug, dS_augS, dS_par3, dS_expr, dS_ret, dS_retN, dS_pass, dS_brk, dS_cont, dS_ite, dS_whl, dS_fr, dSs_nil, Res.ok_bind, Res.bad_bind, Res.ok_to, Res.bad_to, SR.nx_seq, SR.rt_seq, SR.bk_seq, SR.ct_seq, wp_ok, wp_bind, wp_to, swp_nx, swp_rt, swp_bk, swp_ct, swp_seq, wp_fin, fin_rt, fin_nx, wipe_nil, wipe_cons, List.getElem?_cons_zero, List.getElem?_cons_succ, List.set_cons_zero, List.set_cons_succ, List.getElem?_nil, newL_eq, seq_tup, seq_kl, iterD_tup, iterD_kl, iterS_tup, iterS_kl, truR_bool, if_true, Bool.false_eq_true, if_false, Bool.not_true, Bool.not_false, opC_eq, eqS, ofB_some, ofNB_some, opC_inS, inS2, inS3, inS4, String.reduceBEq, Bool.or_false, Bool.or_true, Bool.false_or, Bool.true_or, opB_sub, opB_add, opB_band, opB_bor, opB_bxor, opC_lt, opC_le, opC_gt, opC_ge, opC_ne, truR_int, tru_bool, and_low, lenT, List.length_map, List.length_cons, List.length_nil, w0, x0, sh w (by omega), shrN])
    rw [gc_id (by simp)]
    exact ⟨rfl, rfl⟩
  · rw [u_result, c_result]
    have w0 : ∀ m : Mem, idxD (.tup [natD (a)]) (.int 0) m = .ok (natD (a)) m := fun m => rfl
    have x0 : ∀ m : Mem, idxD (.tup [natD (x)]) (.int 0) m = .ok (natD (x)) m := fun m => rfl
    have hi : runF (tabP tab) G (k + 2) "of_one" [.str "bits", natD (w), natD (a), natD (x), natD (l)] m = .ok (.int (((x / 2 ^ l : Nat) : Int))) m := by
      rw [u_of_one, c_of_one]
      refine wp_eq ?_
      rw [wp_fin]
      repeat (refine step ?_; simp only [dE_var, dE_lit, dE_bin, dE_neg, dE_inv, dE_cmp, dE_chain, dE_and, dE_or, dE_not, dE_ife, dE_tup, dE_lst, dE_idx, dE_slc, dE_call, dE_bi, dE_isin, dE_meth, dE_comp, dE_gc, dE_lrng1, dE_lrng2, dEs_nil, dEs_cons, dO_none, dO_some, dB_and, dB_or, dB_not, dB_val, dBO_none, dBO_some, dI_plain, dI_rng1, dI_rng2, dI_zip, dI_enum, dI_rev, dT_name, dT_tup, dT_sub, dTs_nil, dTs_cons, dS_asg, dS_aug, dS_augS, dS_par3, dS_expr, dS_ret, dS_retN, dS_pass, dS_brk, dS_cont, dS_ite, dS_whl, dS_fr, dSs_nil, Res.ok_bind, Res.bad_bind, Res.ok_to, Res.bad_to, SR.nx_seq, SR.rt_seq, SR.bk_seq, SR.ct_seq, wp_ok, wp_bind, wp_to, swp_nx, swp_rt, swp_bk, swp_ct, swp_seq, wp_fin, fin_rt, fin_nx, wipe_nil, wipe_cons, List.getElem?_cons_zero, List.getElem?_cons_succ, List.set_cons_zero, List.set_cons_succ, List.getElem?_nil, newL_eq, seq_tup, seq_kl, iterD_tup, iterD_kl, iterS_tup, iterS_kl, truR_bool, if_true, Bool.false_eq_true, if_false, Bool.not_true, Bool.not_false, opC_eq, eqS, ofB_some, ofNB_some, opC_inS, inS2, inS3, inS4, String.reduceBEq, Bool.or_false, Bool.or_true, Bool.false_or, Bool.true_or, opB_sub, opB_add, opB_band, opB_bor, opB_bxor, opC_lt, opC_le, opC_gt, opC_ge, opC_ne, truR_int, tru_bool, and_low, lenT, List.length_map, List.length_cons, List.length_nil, shrN])
      rw [gc_id (by simp)]
      exact ⟨by first | rfl | simp, rfl⟩
    refine wp_eq ?_
    rw [wp_fin]
    repeat (refine step ?_; simp only [dE_var, dE_lit, dE_bin, dE_neg, dE_inv, dE_cmp, dE_chain, dE_and, dE_or, dE_not, dE_ife, dE_tup, dE_lst, dE_idx, dE_slc, dE_call, dE_bi, dE_isin, dE_meth, dE_comp, dE_gc, dE_lrng1, dE_lrng2, dEs_nil, dEs_cons, dO_none, dO_some, dB_and, dB_or, dB_not, dB_val, dBO_none, dBO_some, dI_plain, dI_rng1, dI_rng2, dI_zip, dI_enum, dI_rev, dT_name, dT_tup, dT_sub, dTs_nil, dTs_cons, dS_asg, dS_aug, dS_augS, dS_par3, dS_expr, dS_ret, dS_retN, dS_pass, dS_brk, dS_cont, dS_ite, dS_whl, dS_fr, dSs_nil, Res.ok_bind, Res.bad_bind, Res.ok_to, Res.bad_to, SR.nx_seq, SR.rt_seq, SR.bk_seq, SR.ct_seq, wp_ok, wp_bind, wp_to, swp_nx, swp_rt, swp_bk, swp_ct, swp_seq, wp_fin, fin_rt, fin_nx, wipe_nil, wipe_cons, List.getElem?_cons_zero, List.getElem?_cons_succ, List.set_cons_zero, List.set_cons_succ, List.getElem?_nil, newL_eq, seq_tup, seq_kl, iterD_tup, iterD_kl, iterS_tup, iterS_kl, truR_bool, if_true, Bool.false_eq_true, if_false, Bool.not_true, Bool.not_false, opC_eq, eqS, ofB_some, ofNB_some, opC_inS, inS2, inS3, inS4, String.reduceBEq, Bool.or_false, Bool.or_true, Bool.false_or, Bool.true_or, opB_sub, opB_add, opB_band, opB_bor, opB_bxor, opC_lt, opC_le, opC_gt, opC_ge, opC_ne, truR_int, tru_bool, and_low, lenT, List.length_map, List.length_cons, List.length_nil, List.map_cons, List.map_nil, Int.reduceEq, eq_int, w0, x0, hi, sh (w) (by omega)])
    rw [gc_id (by simp)]
    exact ⟨rfl, rfl⟩
theorem p_wide {a x w : Nat} (ha : a ≤ 8) (h0 : 0 < a) (hw : w ≤ 8) (hx : x < 2 ^ a) : P "wide" w [a] [x] 0 := by
  refine ⟨((x / 2 ^ 0 : Nat) : Int) % 2 ^ w, fun G k ra rb m h1 h2 => ⟨?_, ?_⟩⟩
  · rw [u_l_word, c_l_word]
    have w0 : idxD (.ref ra) (.int 0) m = .ok (natD (a)) m := idxL (j := 0) h1 rfl
    have x0 : idxD (.ref rb) (.int 0) m = .ok (natD (x)) m := idxL (j := 0) h2 rfl
    refine wp_eq ?_
    rw [wp_fin]
    repeat (refine step ?_; simp only [dE_var, dE_lit, dE_bin, dE_neg, dE_inv, dE_cmp, dE_chain, dE_and, dE_or, dE_not, dE_ife, dE_tup, dE_lst, dE_idx, dE_slc, dE_call, dE_bi, dE_isin, dE_meth, dE_comp, dE_gc, dE_lrng1, dE_lrng2, dEs_nil, dEs_cons, dO_none, dO_some, dB_and, dB_or, dB_not, dB_val, dBO_none, dBO_some, dI_plain, dI_rng1, dI_rng2, dI_zip, dI_enum, dI_rev, dT_name, dT_tup, dT_sub, dTs_nil, dTs_cons, dS_asg, dS_aug, dS_augS, dS_par3, dS_expr, dS_ret, dS_retN, dS_pass, dS_brk, dS_cont, dS_ite, dS_whl, dS_fr, dSs_nil, Res.ok_bind, Res.bad_bind, Res.ok_to, Res.bad_to, SR.nx_seq, SR.rt_seq, SR.bk_seq, SR.ct_seq, wp_ok, wp_bind, wp_to, swp_nx, swp_rt, swp_bk, swp_ct, swp_seq, wp_fin, fin_rt, fin_nx, wipe_nil, wipe_cons, List.getElem?_cons_zero, List.getElem?_cons_succ, List.set_cons_zero, List.set_cons_succ, List.getElem?_nil, newL_eq, seq_tup, seq_kl, iterD_tup, iterD_kl, iterS_tup, iterS_kl, truR_bool, if_true, Bool.false_eq_true, if_false, Bool.not_true, Bool.not_false, opC_eq, eqS, ofB_some, ofNB_some, opC_inS, inS2, inS3, inS4, String.reduceBEq, Bool.or_false, Bool.or_true, Bool.false_or, Bool.true_or, opB_sub, opB_add, opB_band, opB_bor, opB_bxor, opC_lt, opC_le, opC_gt, opC_ge, opC_ne, truR_int, tru_bool, and_low, lenT, List.length_map, List.length_cons, List.length_nil, w0, x0, sh w (by omega), shrN])
    rw [gc_id (by simp)]
    exact ⟨rfl, rfl⟩
  · rw [u_result, c_result]
    have w0 : ∀ m : Mem, idxD (.tup [natD (a)]) (.int 0) m = .ok (natD (a)) m := fun m => rfl
    have x0 : ∀ m : Mem, idxD (.tup [natD (x)]) (.int 0) m = .ok (natD (x)) m := fun m => rfl
    have hi : runF (tabP tab) G (k + 2) "of_one" [.str "wide", natD (w), natD (a), natD (x), natD (0)] m = .ok (.int ((x : Int))) m := by
      rw [u_of_one, c_of_one]
      refine wp_eq ?_
      rw [wp_fin]
      repeat (refine step ?_; simp only [dE_var, dE_lit, dE_bin, dE_neg, dE_inv, dE_cmp, dE_chain, dE_and, dE_or, dE_not, dE_ife, dE_tup, dE_lst, dE_idx, dE_slc, dE_call, dE_bi, dE_isin, dE_meth, dE_comp, dE_gc, dE_lrng1, dE_lrng2, dEs_nil, dEs_cons, dO_none, dO_some, dB_and, dB_or, dB_not, dB_val, dBO_none, dBO_some, dI_plain, dI_rng1, dI_rng2, dI_zip, dI_enum, dI_rev, dT_name, dT_tup, dT_sub, dTs_nil, dTs_cons, dS_asg, dS_aug, dS_augS, dS_par3, dS_expr, dS_ret, dS_retN, dS_pass, dS_brk, dS_cont, dS_ite, dS_whl, dS_fr, dSs_nil, Res.ok_bind, Res.bad_bind, Res.ok_to, Res.bad_to, SR.nx_seq, SR.rt_seq, SR.bk_seq, SR.ct_seq, wp_ok, wp_bind, wp_to, swp_nx, swp_rt, swp_bk, swp_ct, swp_seq, wp_fin, fin_rt, fin_nx, wipe_nil, wipe_cons, List.getElem?_cons_zero, List.getElem?_cons_succ, List.set_cons_zero, List.set_cons_succ, List.getElem?_nil, newL_eq, seq_tup, seq_kl, iterD_tup, iterD_kl, iterS_tup, iterS_kl, truR_bool, if_true, Bool.false_eq_true, if_false, Bool.not_true, Bool.not_false, opC_eq, eqS, ofB_some, ofNB_some, opC_inS, inS2, inS3, inS4, String.reduceBEq, Bool.or_false, Bool.or_true, Bool.false_or, Bool.true_or, opB_sub, opB_add, opB_band, opB_bor, opB_bxor, opC_lt, opC_le, opC_gt, opC_ge, opC_ne, truR_int, tru_bool, and_low, lenT, List.length_map, List.length_cons, List.length_nil])
      rw [gc_id (by simp)]
      exact ⟨by first | rfl | simp, rfl⟩
    refine wp_eq ?_
    rw [wp_fin]
    repeat (refine step ?_; simp only [dE_var, dE_lit, dE_bin, dE_neg, dE_inv, dE_cmp, dE_chain, dE_and, dE_or, dE_not, dE_ife, dE_tup, dE_lst, dE_idx, dE_slc, dE_call, dE_bi, dE_isin, dE_meth, dE_comp, dE_gc, dE_lrng1, dE_lrng2, dEs_nil, dEs_cons, dO_none, dO_some, dB_and, dB_or, dB_not, dB_val, dBO_none, dBO_some, dI_plain, dI_rng1, dI_rng2, dI_zip, dI_enum, dI_rev, dT_name, dT_tup, dT_sub, dTs_nil, dTs_cons, dS_asg, dS_aug, dS_augS, dS_par3, dS_expr, dS_ret, dS_retN, dS_pass, dS_brk, dS_cont, dS_ite, dS_whl, dS_fr, dSs_nil, Res.ok_bind, Res.bad_bind, Res.ok_to, Res.bad_to, SR.nx_seq, SR.rt_seq, SR.bk_seq, SR.ct_seq, wp_ok, wp_bind, wp_to, swp_nx, swp_rt, swp_bk, swp_ct, swp_seq, wp_fin, fin_rt, fin_nx, wipe_nil, wipe_cons, List.getElem?_cons_zero, List.getElem?_cons_succ, List.set_cons_zero, List.set_cons_succ, List.getElem?_nil, newL_eq, seq_tup, seq_kl, iterD_tup, iterD_kl, iterS_tup, iterS_kl, truR_bool, if_true, Bool.false_eq_true, if_false, Bool.not_true, Bool.not_false, opC_eq, eqS, ofB_some, ofNB_some, opC_inS, inS2, inS3, inS4, String.reduceBEq, Bool.or_false, Bool.or_true, Bool.false_or, Bool.true_or, opB_sub, opB_add, opB_band, opB_bor, opB_bxor, opC_lt, opC_le, opC_gt, opC_ge, opC_ne, truR_int, tru_bool, and_low, lenT, List.length_map, List.length_cons, List.length_nil, List.map_cons, List.map_nil, Int.reduceEq, eq_int, w0, x0, hi, sh (w) (by omega)])
    rw [gc_id (by simp)]
    exact ⟨by simp, rfl⟩
theorem p_sign0 {a x w : Nat} (ha : a ≤ 8) (h0 : 0 < a) (hw0 : a ≤ w) (hw : w ≤ 8) (hx : x < 2 ^ a) (hc : x / 2 ^ (a - 1) = 0) : P "sign" w [a] [x] 0 := by
  have hx2 : (x : Int) < 2 ^ a := by exact_mod_cast hx
  have hn : (((x / 2 ^ (a - 1) : Nat) : Int) != 0) = false := by simp only [bne_iff_ne, ne_eq, bne_eq_false_iff_eq]; omega
  have hd : decide (((x / 2 ^ (a - 1) : Nat) : Int) = 0) = true := by simp only [decide_eq_true_eq, decide_eq_false_iff_not]; omega
  have hp : (2 : Int) ^ a ≤ 2 ^ w := by exact_mod_cast Nat.pow_le_pow_right (by omega) hw0
  refine ⟨(x : Int), fun G k ra rb m h1 h2 => ⟨?_, ?_⟩⟩
  · rw [u_l_word, c_l_word]
    have w0 : idxD (.ref ra) (.int 0) m = .ok (natD (a)) m := idxL (j := 0) h1 rfl
    have x0 : idxD (.ref rb) (.int 0) m = .ok (natD (x)) m := idxL (j := 0) h2 rfl
    refine wp_eq ?_
    rw [wp_fin]
    repeat (refine step ?_; simp only [dE_var, dE_lit, dE_bin, dE_neg, dE_inv, dE_cmp, dE_chain, dE_and, dE_or, dE_not, dE_ife, dE_tup, dE_lst, dE_idx, dE_slc, dE_call, dE_bi, dE_isin, dE_meth, dE_comp, dE_gc, dE_lrng1, dE_lrng2, dEs_nil, dEs_cons, dO_none, dO_some, dB_and, dB_or, dB_not, dB_val, dBO_none, dBO_some, dI_plain, dI_rng1, dI_rng2, dI_zip, dI_enum, dI_rev, dT_name, dT_tup, dT_sub, dTs_nil, dTs_cons, dS_asg, dS_aug, dS_augS, dS_par3, dS_expr, dS_ret, dS_retN, dS_pass, dS_brk, dS_cont, dS_ite, dS_whl, dS_fr, dSs_nil, Res.ok_bind, Res.bad_bind, Res.ok_to, Res.bad_to, SR.nx_seq, SR.rt_seq, SR.bk_seq, SR.ct_seq, wp_ok, wp_bind, wp_to, swp_nx, swp_rt, swp_bk, swp_ct, swp_seq, wp_fin, fin_rt, fin_nx, wipe_nil, wipe_cons, List.getElem?_cons_zero, List.getElem?_cons_succ, List.set_cons_zero, List.set_cons_succ, List.getElem?_nil, newL_eq, seq_tup, seq_kl, iterD_tup, iterD_kl, iterS_tup, iterS_kl, truR_bool, if_true, Bool.false_eq_true, if_false, Bool.not_true, Bool.not_false, opC_eq, eqS, ofB_some, ofNB_some, opC_inS, inS2, inS3, inS4, String.reduceBEq, Bool.or_false, Bool.or_true, Bool.false_or, Bool.true_or, opB_sub, opB_add, opB_band, opB_bor, opB_bxor, opC_lt, opC_le, opC_gt, opC_ge, opC_ne, truR_int, tru_bool, and_low, lenT, List.length_map, List.length_cons, List.length_nil, w0, x0, sh w (by omega), sh a (by omega), shrS h0, hn])
    rw [gc_id (by simp)]
    exact ⟨rfl, rfl⟩
  · rw [u_result, c_result]
    have w0 : ∀ m : Mem, idxD (.tup [natD (a)]) (.int 0) m = .ok (natD (a)) m := fun m => rfl
    have x0 : ∀ m : Mem, idxD (.tup [natD (x)]) (.int 0) m = .ok (natD (x)) m := fun m => rfl
    have hi : runF (tabP tab) G (k + 2) "of_one" [.str "sign", natD (w), natD (a), natD (x), natD (0)] m = .ok (.int ((x : Int))) m := by
      rw [u_of_one, c_of_one]
      refine wp_eq ?_
      rw [wp_fin]
      repeat (refine step ?_; simp only [dE_var, dE_lit, dE_bin, dE_neg, dE_inv, dE_cmp, dE_chain, dE_and, dE_or, dE_not, dE_ife, dE_tup, dE_lst, dE_idx, dE_slc, dE_call, dE_bi, dE_isin, dE_meth, dE_comp, dE_gc, dE_lrng1, dE_lrng2, dEs_nil, dEs_cons, dO_none, dO_some, dB_and, dB_or, dB_not, dB_val, dBO_none, dBO_some, dI_plain, dI_rng1, dI_rng2, dI_zip, dI_enum, dI_rev, dT_name, dT_tup, dT_sub, dTs_nil, dTs_cons, dS_asg, dS_aug, dS_augS, dS_par3, dS_expr, dS_ret, dS_retN, dS_pass, dS_brk, dS_cont, dS_ite, dS_whl, dS_fr, dSs_nil, Res.ok_bind, Res.bad_bind, Res.ok_to, Res.bad_to, SR.nx_seq, SR.rt_seq, SR.bk_seq, SR.ct_seq, wp_ok, wp_bind, wp_to, swp_nx, swp_rt, swp_bk, swp_ct, swp_seq, wp_fin, fin_rt, fin_nx, wipe_nil, wipe_cons, List.getElem?_cons_zero, List.getElem?_cons_succ, List.set_cons_zero, List.set_cons_succ, List.getElem?_nil, newL_eq, seq_tup, seq_kl, iterD_tup, iterD_kl, iterS_tup, iterS_kl, truR_bool, if_true, Bool.false_eq_true, if_false, Bool.not_true, Bool.not_false, opC_eq, eqS, ofB_some, ofNB_some, opC_inS, inS2, inS3, inS4, String.reduceBEq, Bool.or_false, Bool.or_true, Bool.false_or, Bool.true_or, opB_sub, opB_add, opB_band, opB_bor, opB_bxor, opC_lt, opC_le, opC_gt, opC_ge, opC_ne, truR_int, tru_bool, and_low, lenT, List.length_map, List.length_cons, List.length_nil, sh w (by omega), sh a (by omega), shrS h0, eq_int, hd])
      rw [gc_id (by simp)]
      exact ⟨by first | rfl | simp, rfl⟩
    refine wp_eq ?_
    rw [wp_fin]
    repeat (refine step ?_; simp only [dE_var, dE_lit, dE_bin, dE_neg, dE_inv, dE_cmp, dE_chain, dE_and, dE_or, dE_not, dE_ife, dE_tup, dE_lst, dE_idx, dE_slc, dE_call, dE_bi, dE_isin, dE_meth, dE_comp, dE_gc, dE_lrng1, dE_lrng2, dEs_nil, dEs_cons, dO_none, dO_some, dB_and, dB_or, dB_not, dB_val, dBO_none, dBO_some, dI_plain, dI_rng1, dI_rng2, dI_zip, dI_enum, dI_rev, dT_name, dT_tup, dT_sub, dTs_nil, dTs_cons, dS_asg, dS_aug, dS_augS, dS_par3, dS_expr, dS_ret, dS_retN, dS_pass, dS_brk, dS_cont, dS_ite, dS_whl, dS_fr, dSs_nil, Res.ok_bind, Res.bad_bind, Res.ok_to, Res.bad_to, SR.nx_seq, SR.rt_seq, SR.bk_seq, SR.ct_seq, wp_ok, wp_bind, wp_to, swp_nx, swp_rt, swp_bk, swp_ct, swp_seq, wp_fin, fin_rt, fin_nx, wipe_nil, wipe_cons, List.getElem?_cons_zero, List.getElem?_cons_succ, List.set_cons_zero, List.set_cons_succ, List.getElem?_nil, newL_eq, seq_tup, seq_kl, iterD_tup, iterD_kl, iterS_tup, iterS_kl, truR_bool, if_true, Bool.false_eq_true, if_false, Bool.not_true, Bool.not_false, opC_eq, eqS, ofB_some, ofNB_some, opC_inS, inS2, inS3, inS4, String.reduceBEq, Bool.or_false, Bool.or_true, Bool.false_or, Bool.true_or, opB_sub, opB_add, opB_band, opB_bor, opB_bxor, opC_lt, opC_le, opC_gt, opC_ge, opC_ne, truR_int, tru_bool, and_low, lenT, List.length_map, List.length_cons, List.length_nil, List.map_cons, List.map_nil, Int.reduceEq, eq_int, w0, x0, hi, sh (w) (by omega)])
    rw [gc_id (by simp)]
    exact ⟨by rw [Int.emod_eq_of_lt (by omega) (by omega)], rfl⟩
theorem p_sign1 {a x w : Nat} (ha : a ≤ 8) (h0 : 0 < a) (hw0 : a ≤ w) (hw : w ≤ 8) (hx : x < 2 ^ a) (hc : ¬ x / 2 ^ (a - 1) = 0) : P "sign" w [a] [x] 0 := by
  have hx2 : (x : Int) < 2 ^ a := by exact_mod_cast hx
  have hn : (((x / 2 ^ (a - 1) : Nat) : Int) != 0) = true := by simp only [bne_iff_ne, ne_eq, bne_eq_false_iff_eq]; omega
  have hd : decide (((x / 2 ^ (a - 1) : Nat) : Int) = 0) = false := by simp only [decide_eq_true_eq, decide_eq_false_iff_not]; omega
  have hp : (2 : Int) ^ a ≤ 2 ^ w := by exact_mod_cast Nat.pow_le_pow_right (by omega) hw0
  refine ⟨(x : Int) + 2 ^ w - 2 ^ a, fun G k ra rb m h1 h2 => ⟨?_, ?_⟩⟩
  · rw [u_l_word, c_l_word]
    have w0 : idxD (.ref ra) (.int 0) m = .ok (natD (a)) m := idxL (j := 0) h1 rfl
    have x0 : idxD (.ref rb) (.int 0) m = .ok (natD (x)) m := idxL (j := 0) h2 rfl
    refine wp_eq ?_
    rw [wp_fin]
    repeat (refine step ?_; simp only [dE_var, dE_lit, dE_bin, dE_neg, dE_inv, dE_cmp, dE_chain, dE_and, dE_or, dE_not, dE_ife, dE_tup, dE_lst, dE_idx, dE_slc, dE_call, dE_bi, dE_isin, dE_meth, dE_comp, dE_gc, dE_lrng1, dE_lrng2, dEs_nil, dEs_cons, dO_none, dO_some, dB_and, dB_or, dB_not, dB_val, dBO_none, dBO_some, dI_plain, dI_rng1, dI_rng2, dI_zip, dI_enum, dI_rev, dT_name, dT_tup, dT_sub, dTs_nil, dTs_cons, dS_asg, dS_aug, dS_augS, dS_par3, dS_expr, dS_ret, dS_retN, dS_pass, dS_brk, dS_cont, dS_ite, dS_whl, dS_fr, dSs_nil, Res.ok_bind, Res.bad_bind, Res.ok_to, Res.bad_to, SR.nx_seq, SR.rt_seq, SR.bk_seq, SR.ct_seq, wp_ok, wp_bind, wp_to, swp_nx, swp_rt, swp_bk, swp_ct, swp_seq, wp_fin, fin_rt, fin_nx, wipe_nil, wipe_cons, List.getElem?_cons_zero, List.getElem?_cons_succ, List.set_cons_zero, List.set_cons_succ, List.getElem?_nil, newL_eq, seq_tup, seq_kl, iterD_tup, iterD_kl, iterS_tup, iterS_kl, truR_bool, if_true, Bool.false_eq_true, if_false, Bool.not_true, Bool.not_false, opC_eq, eqS, ofB_some, ofNB_some, opC_inS, inS2, inS3, inS4, String.reduceBEq, Bool.or_false, Bool.or_true, Bool.false_or, Bool.true_or, opB_sub, opB_add, opB_band, opB_bor, opB_bxor, opC_lt, opC_le, opC_gt, opC_ge, opC_ne, truR_int, tru_bool, and_low, lenT, List.length_map, List.length_cons, List.length_nil, w0, x0, sh w (by omega), sh a (by omega), shrS h0, hn])
    rw [gc_id (by simp)]
    exact ⟨rfl, rfl⟩
  · rw [u_result, c_result]
    have w0 : ∀ m : Mem, idxD (.tup [natD (a)]) (.int 0) m = .ok (natD (a)) m := fun m => rfl
    have x0 : ∀ m : Mem, idxD (.tup [natD (x)]) (.int 0) m = .ok (natD (x)) m := fun m => rfl
    have hi : runF (tabP tab) G (k + 2) "of_one" [.str "sign", natD (w), natD (a), natD (x), natD (0)] m = .ok (.int ((x : Int) + 2 ^ w - 2 ^ a)) m := by
      rw [u_of_one, c_of_one]
      refine wp_eq ?_
      rw [wp_fin]
      repeat (refine step ?_; simp only [dE_var, dE_lit, dE_bin, dE_neg, dE_inv, dE_cmp, dE_chain, dE_and, dE_or, dE_not, dE_ife, dE_tup, dE_lst, dE_idx, dE_slc, dE_call, dE_bi, dE_isin, dE_meth, dE_comp, dE_gc, dE_lrng1, dE_lrng2, dEs_nil, dEs_cons, dO_none, dO_some, dB_and, dB_or, dB_not, dB_val, dBO_none, dBO_some, dI_plain, dI_rng1, dI_rng2, dI_zip, dI_enum, dI_rev, dT_name, dT_tup, dT_sub, dTs_nil, dTs_cons, dS_asg, dS_aug, dS_augS, dS_par3, dS_expr, dS_ret, dS_retN, dS_pass, dS_brk, dS_cont, dS_ite, dS_whl, dS_fr, dSs_nil, Res.ok_bind, Res.bad_bind, Res.ok_to, Res.bad_to, SR.nx_seq, SR.rt_seq, SR.bk_seq, SR.ct_seq, wp_ok, wp_bind, wp_to, swp_nx, swp_rt, swp_bk, swp_ct, swp_seq, wp_fin, fin_rt, fin_nx, wipe_nil, wipe_cons, List.getElem?_cons_zero, List.getElem?_cons_succ, List.set_cons_zero, List.set_cons_succ, List.getElem?_nil, newL_eq, seq_tup, seq_kl, iterD_tup, iterD_kl, iterS_tup, iterS_kl, truR_bool, if_true, Bool.false_eq_true, if_false, Bool.not_true, Bool.not_false, opC_eq, eqS, ofB_some, ofNB_some, opC_inS, inS2, inS3, inS4, String.reduceBEq, Bool.or_false, Bool.or_true, Bool.false_or, Bool.true_or, opB_sub, opB_add, opB_band, opB_bor, opB_bxor, opC_lt, opC_le, opC_gt, opC_ge, opC_ne, truR_int, tru_bool, and_low, lenT, List.length_map, List.length_cons, List.length_nil, sh w (by omega), sh a (by omega), shrS h0, eq_int, hd])
      rw [gc_id (by simp)]
      exact ⟨by first | rfl | simp, rfl⟩
    refine wp_eq ?_
    rw [wp_fin]
    repeat (refine step ?_; simp only [dE_var, dE_lit, dE_bin, dE_neg, dE_inv, dE_cmp, dE_chain, dE_and, dE_or, dE_not, dE_ife, dE_tup, dE_lst, dE_idx, dE_slc, dE_call, dE_bi, dE_isin, dE_meth, dE_comp, dE_gc, dE_lrng1, dE_lrng2, dEs_nil, dEs_cons, dO_none, dO_some, dB_and, dB_or, dB_not, dB_val, dBO_none, dBO_some, dI_plain, dI_rng1, dI_rng2, dI_zip, dI_enum, dI_rev, dT_name, dT_tup, dT_sub, dTs_nil, dTs_cons, dS_asg, dS_aug, dS_augS, dS_par3, dS_expr, dS_ret, dS_retN, dS_pass, dS_brk, dS_cont, dS_ite, dS_whl, dS_fr, dSs_nil, Res.ok_bind, Res.bad_bind, Res.ok_to, Res.bad_to, SR.nx_seq, SR.rt_seq, SR.bk_seq, SR.ct_seq, wp_ok, wp_bind, wp_to, swp_nx, swp_rt, swp_bk, swp_ct, swp_seq, wp_fin, fin_rt, fin_nx, wipe_nil, wipe_cons, List.getElem?_cons_zero, List.getElem?_cons_succ, List.set_cons_zero, List.set_cons_succ, List.getElem?_nil, newL_eq, seq_tup, seq_kl, iterD_tup, iterD_kl, iterS_tup, iterS_kl, truR_bool, if_true, Bool.false_eq_true, if_false, Bool.not_true, Bool.not_false, opC_eq, eqS, ofB_some, ofNB_some, opC_inS, inS2, inS3, inS4, String.reduceBEq, Bool.or_false, Bool.or_true, Bool.false_or, Bool.true_or, opB_sub, opB_add, opB_band, opB_bor, opB_bxor, opC_lt, opC_le, opC_gt, opC_ge, opC_ne, truR_int, tru_bool, and_low, lenT, List.length_map, List.length_cons, List.length_nil, List.map_cons, List.map_nil, Int.reduceEq, eq_int, w0, x0, hi, sh (w) (by omega)])
    rw [gc_id (by simp)]
    exact ⟨by rw [Int.emod_eq_of_lt (by omega) (by omega)], rfl⟩
theorem p_any0 {a x : Nat} (ha : a ≤ 8) (h0 : 0 < a) (hx : x < 2 ^ a) (hc : x = 0) : P "any" 1 [a] [x] 0 := by
  have hd : decide ((x : Int) = 0) = true := by simp only [decide_eq_true_eq, decide_eq_false_iff_not]; omega
  have hg : decide ((0 : Int) < x) = false := by simp only [decide_eq_true_eq, decide_eq_false_iff_not]; omega
  refine ⟨0, fun G k ra rb m h1 h2 => ⟨?_, ?_⟩⟩
  · rw [u_l_word, c_l_word]
    have w0 : idxD (.ref ra) (.int 0) m = .ok (natD (a)) m := idxL (j := 0) h1 rfl
    have x0 : idxD (.ref rb) (.int 0) m = .ok (natD (x)) m := idxL (j := 0) h2 rfl
    refine wp_eq ?_
    rw [wp_fin]
    repeat (refine step ?_; simp only [dE_var, dE_lit, dE_bin, dE_neg, dE_inv, dE_cmp, dE_chain, dE_and, dE_or, dE_not, dE_ife, dE_tup, dE_lst, dE_idx, dE_slc, dE_call, dE_bi, dE_isin, dE_meth, dE_comp, dE_gc, dE_lrng1, dE_lrng2, dEs_nil, dEs_cons, dO_none, dO_some, dB_and, dB_or, dB_not, dB_val, dBO_none, dBO_some, dI_plain, dI_rng1, dI_rng2, dI_zip, dI_enum, dI_rev, dT_name, dT_tup, dT_sub, dTs_nil, dTs_cons, dS_asg, dS_aug, dS_augS, dS_par3, dS_expr, dS_ret, dS_retN, dS_pass, dS_brk, dS_cont, dS_ite, dS_whl, dS_fr, dSs_nil, Res.ok_bind, Res.bad_bind, Res.ok_to, Res.bad_to, SR.nx_seq, SR.rt_seq, SR.bk_seq, SR.ct_seq, wp_ok, wp_bind, wp_to, swp_nx, swp_rt, swp_bk, swp_ct, swp_seq, wp_fin, fin_rt, fin_nx, wipe_nil, wipe_cons, List.getElem?_cons_zero, List.getElem?_cons_succ, List.set_cons_zero, List.set_cons_succ, List.getElem?_nil, newL_eq, seq_tup, seq_kl, iterD_tup, iterD_kl, iterS_tup, iterS_kl, truR_bool, if_true, Bool.false_eq_true, if_false, Bool.not_true, Bool.not_false, opC_eq, eqS, ofB_some, ofNB_some, opC_inS, inS2, inS3, inS4, String.reduceBEq, Bool.or_false, Bool.or_true, Bool.false_or, Bool.true_or, opB_sub, opB_add, opB_band, opB_bor, opB_bxor, opC_lt, opC_le, opC_gt, opC_ge, opC_ne, truR_int, tru_bool, and_low, lenT, List.length_map, List.length_cons, List.length_nil, w0, x0, sh 1 (by omega), eq_int, hd, bi_intb])
    rw [gc_id (by simp)]
    exact ⟨rfl, rfl⟩
  · rw [u_result, c_result]
    have w0 : ∀ m : Mem, idxD (.tup [natD (a)]) (.int 0) m = .ok (natD (a)) m := fun m => rfl
    have x0 : ∀ m : Mem, idxD (.tup [natD (x)]) (.int 0) m = .ok (natD (x)) m := fun m => rfl
    have hi : runF (tabP tab) G (k + 2) "of_one" [.str "any", natD (1), natD (a), natD (x), natD (0)] m = .ok (.int (0)) m := by
      rw [u_of_one, c_of_one]
      refine wp_eq ?_
      rw [wp_fin]
      repeat (refine step ?_; simp only [dE_var, dE_lit, dE_bin, dE_neg, dE_inv, dE_cmp, dE_chain, dE_and, dE_or, dE_not, dE_ife, dE_tup, dE_lst, dE_idx, dE_slc, dE_call, dE_bi, dE_isin, dE_meth, dE_comp, dE_gc, dE_lrng1, dE_lrng2, dEs_nil, dEs_cons, dO_none, dO_some, dB_and, dB_or, dB_not, dB_val, dBO_none, dBO_some, dI_plain, dI_rng1, dI_rng2, dI_zip, dI_enum, dI_rev, dT_name, dT_tup, dT_sub, dTs_nil, dTs_cons, dS_asg, dS_aug, dS_augS, dS_par3, dS_expr, dS_ret, dS_retN, dS_pass, dS_brk, dS_cont, dS_ite, dS_whl, dS_fr, dSs_nil, Res.ok_bind, Res.bad_bind, Res.ok_to, Res.bad_to, SR.nx_seq, SR.rt_seq, SR.bk_seq, SR.ct_seq, wp_ok, wp_bind, wp_to, swp_nx, swp_rt, swp_bk, swp_ct, swp_seq, wp_fin, fin_rt, fin_nx, wipe_nil, wipe_cons, List.getElem?_cons_zero, List.getElem?_cons_succ, List.set_cons_zero, List.set_cons_succ, List.getElem?_nil, newL_eq, seq_tup, seq_kl, iterD_tup, iterD_kl, iterS_tup, iterS_kl, truR_bool, if_true, Bool.false_eq_true, if_false, Bool.not_true, Bool.not_false, opC_eq, eqS, ofB_some, ofNB_some, opC_inS, inS2, inS3, inS4, String.reduceBEq, Bool.or_false, Bool.or_true, Bool.false_or, Bool.true_or, opB_sub, opB_add, opB_band, opB_bor, opB_bxor, opC_lt, opC_le, opC_gt, opC_ge, opC_ne, truR_int, tru_bool, and_low, lenT, List.length_map, List.length_cons, List.length_nil, hg])
      rw [gc_id (by simp)]
      exact ⟨by first | rfl | simp, rfl⟩
    refine wp_eq ?_
    rw [wp_fin]
    repeat (refine step ?_; simp only [dE_var, dE_lit, dE_bin, dE_neg, dE_inv, dE_cmp, dE_chain, dE_and, dE_or, dE_not, dE_ife, dE_tup, dE_lst, dE_idx, dE_slc, dE_call, dE_bi, dE_isin, dE_meth, dE_comp, dE_gc, dE_lrng1, dE_lrng2, dEs_nil, dEs_cons, dO_none, dO_some, dB_and, dB_or, dB_not, dB_val, dBO_none, dBO_some, dI_plain, dI_rng1, dI_rng2, dI_zip, dI_enum, dI_rev, dT_name, dT_tup, dT_sub, dTs_nil, dTs_cons, dS_asg, dS_aug, dS_augS, dS_par3, dS_expr, dS_ret, dS_retN, dS_pass, dS_brk, dS_cont, dS_ite, dS_whl, dS_fr, dSs_nil, Res.ok_bind, Res.bad_bind, Res.ok_to, Res.bad_to, SR.nx_seq, SR.rt_seq, SR.bk_seq, SR.ct_seq, wp_ok, wp_bind, wp_to, swp_nx, swp_rt, swp_bk, swp_ct, swp_seq, wp_fin, fin_rt, fin_nx, wipe_nil, wipe_cons, List.getElem?_cons_zero, List.getElem?_cons_succ, List.set_cons_zero, List.set_cons_succ, List.getElem?_nil, newL_eq, seq_tup, seq_kl, iterD_tup, iterD_kl, iterS_tup, iterS_kl, truR_bool, if_true, Bool.false_eq_true, if_false, Bool.not_true, Bool.not_false, opC_eq, eqS, ofB_some, ofNB_some, opC_inS, inS2, inS3, inS4, String.reduceBEq, Bool.or_false, Bool.or_true, Bool.false_or, Bool.true_or, opB_sub, opB_add, opB_band, opB_bor, opB_bxor, opC_lt, opC_le, opC_gt, opC_ge, opC_ne, truR_int, tru_bool, and_low, lenT, List.length_map, List.length_cons, List.length_nil, List.map_cons, List.map_nil, Int.reduceEq, eq_int, w0, x0, hi, sh (1) (by omega)])
    rw [gc_id (by simp)]
    exact ⟨by simp, rfl⟩
theorem p_all0 {a x : Nat} (ha : a ≤ 8) (h0 : 0 < a) (hx : x < 2 ^ a) (hc : ¬ (x : Int) = 2 ^ a - 1) : P "all" 1 [a] [x] 0 := by
  have hd : decide ((x : Int) = 2 ^ a - 1) = false := by simp only [decide_eq_true_eq, decide_eq_false_iff_not]; exact hc
  refine ⟨0, fun G k ra rb m h1 h2 => ⟨?_, ?_⟩⟩
  · rw [u_l_word, c_l_word]
    have w0 : idxD (.ref ra) (.int 0) m = .ok (natD (a)) m := idxL (j := 0) h1 rfl
    have x0 : idxD (.ref rb) (.int 0) m = .ok (natD (x)) m := idxL (j := 0) h2 rfl
    refine wp_eq ?_
    rw [wp_fin]
    repeat (refine step ?_; simp only [dE_var, dE_lit, dE_bin, dE_neg, dE_inv, dE_cmp, dE_chain, dE_and, dE_or, dE_not, dE_ife, dE_tup, dE_lst, dE_idx, dE_slc, dE_call, dE_bi, dE_isin, dE_meth, dE_comp, dE_gc, dE_lrng1, dE_lrng2, dEs_nil, dEs_cons, dO_none, dO_some, dB_and, dB_or, dB_not, dB_val, dBO_none, dBO_some, dI_plain, dI_rng1, dI_rng2, dI_zip, dI_enum, dI_rev, dT_name, dT_tup, dT_sub, dTs_nil, dTs_cons, dS_asg, dS_aug, dS_augS, dS_par3, dS_expr, dS_ret, dS_retN, dS_pass, dS_brk, dS_cont, dS_ite, dS_whl, dS_fr, dSs_nil, Res.ok_bind, Res.bad_bind, Res.ok_to, Res.bad_to, SR.nx_seq, SR.rt_seq, SR.bk_seq, SR.ct_seq, wp_ok, wp_bind, wp_to, swp_nx, swp_rt, swp_bk, swp_ct, swp_seq, wp_fin, fin_rt, fin_nx, wipe_nil, wipe_cons, List.getElem?_cons_zero, List.getElem?_cons_succ, List.set_cons_zero, List.set_cons_succ, List.getElem?_nil, newL_eq, seq_tup, seq_kl, iterD_tup, iterD_kl, iterS_tup, iterS_kl, truR_bool, if_true, Bool.false_eq_true, if_false, Bool.not_true, Bool.not_false, opC_eq, eqS, ofB_some, ofNB_some, opC_inS, inS2, inS3, inS4, String.reduceBEq, Bool.or_false, Bool.or_true, Bool.false_or, Bool.true_or, opB_sub, opB_add, opB_band, opB_bor, opB_bxor, opC_lt, opC_le, opC_gt, opC_ge, opC_ne, truR_int, tru_bool, and_low, lenT, List.length_map, List.length_cons, List.length_nil, w0, x0, sh 1 (by omega), sh a (by omega), eq_int, hd, bi_intb])
    rw [gc_id (by simp)]
    exact ⟨rfl, rfl⟩
  · rw [u_result, c_result]
    have w0 : ∀ m : Mem, idxD (.tup [natD (a)]) (.int 0) m = .ok (natD (a)) m := fun m => rfl
    have x0 : ∀ m : Mem, idxD (.tup [natD (x)]) (.int 0) m = .ok (natD (x)) m := fun m => rfl
    have hi : runF (tabP tab) G (k + 2) "of_one" [.str "all", natD (1), natD (a), natD (x), natD (0)] m = .ok (.int (0)) m := by
      rw [u_of_one, c_of_one]
      refine wp_eq ?_
      rw [wp_fin]
      repeat (refine step ?_; simp only [dE_var, dE_lit, dE_bin, dE_neg, dE_inv, dE_cmp, dE_chain, dE_and, dE_or, dE_not, dE_ife, dE_tup, dE_lst, dE_idx, dE_slc, dE_call, dE_bi, dE_isin, dE_meth, dE_comp, dE_gc, dE_lrng1, dE_lrng2, dEs_nil, dEs_cons, dO_none, dO_some, dB_and, dB_or, dB_not, dB_val, dBO_none, dBO_some, dI_plain, dI_rng1, dI_rng2, dI_zip, dI_enum, dI_rev, dT_name, dT_tup, dT_sub, dTs_nil, dTs_cons, dS_asg, dS_aug, dS_augS, dS_par3, dS_expr, dS_ret, dS_retN, dS_pass, dS_brk, dS_cont, dS_ite, dS_whl, dS_fr, dSs_nil, Res.ok_bind, Res.bad_bind, Res.ok_to, Res.bad_to, SR.nx_seq, SR.rt_seq, SR.bk_seq, SR.ct_seq, wp_ok, wp_bind, wp_to, swp_nx, swp_rt, swp_bk, swp_ct, swp_seq, wp_fin, fin_rt, fin_nx, wipe_nil, wipe_cons, List.getElem?_cons_zero, List.getElem?_cons_succ, List.set_cons_zero, List.set_cons_succ, List.getElem?_nil, newL_eq, seq_tup, seq_kl, iterD_tup, iterD_kl, iterS_tup, iterS_kl, truR_bool, if_true, Bool.false_eq_true, if_false, Bool.not_true, Bool.not_false, opC_eq, eqS, ofB_some, ofNB_some, opC_inS, inS2, inS3, inS4, String.reduceBEq, Bool.or_false, Bool.or_true, Bool.false_or, Bool.true_or, opB_sub, opB_add, opB_band, opB_bor, opB_bxor, opC_lt, opC_le, opC_gt, opC_ge, opC_ne, truR_int, tru_bool, and_low, lenT, List.length_map, List.length_cons, List.length_nil, sh a (by omega), eq_int, hd])
      rw [gc_id (by simp)]
      exact ⟨by first | rfl | simp, rfl⟩
    refine wp_eq ?_
    rw [wp_fin]
    repeat (refine step ?_; simp only [dE_var, dE_lit, dE_bin, dE_neg, dE_inv, dE_cmp, dE_chain, dE_and, dE_or, dE_not, dE_ife, dE_tup, dE_lst, dE_idx, dE_slc, dE_call, dE_bi, dE_isin, dE_meth, dE_comp, dE_gc, dE_lrng1, dE_lrng2, dEs_nil, dEs_cons, dO_none, dO_some, dB_and, dB_or, dB_not, dB_val, dBO_none, dBO_some, dI_plain, dI_rng1, dI_rng2, dI_zip, dI_enum, dI_rev, dT_name, dT_tup, dT_sub, dTs_nil, dTs_cons, dS_asg, dS_aug, dS_augS, dS_par3, dS_expr, dS_ret, dS_retN, dS_pass, dS_brk, dS_cont, dS_ite, dS_whl, dS_fr, dSs_nil, Res.ok_bind, Res.bad_bind, Res.ok_to, Res.bad_to, SR.nx_seq, SR.rt_seq, SR.bk_seq, SR.ct_seq, wp_ok, wp_bind, wp_to, swp_nx, swp_rt, swp_bk, swp_ct, swp_seq, wp_fin, fin_rt, fin_nx, wipe_nil, wipe_cons, List.getElem?_cons_zero, List.getElem?_cons_succ, List.set_cons_zero, List.set_cons_succ, List.getElem?_nil, newL_eq, seq_tup, seq_kl, iterD_tup, iterD_kl, iterS_tup, iterS_kl, truR_bool, if_true, Bool.false_eq_true, if_false, Bool.not_true, Bool.not_false, opC_eq, eqS, ofB_some, ofNB_some, opC_inS, inS2, inS3, inS4, String.reduceBEq, Bool.or_false, Bool.or_true, Bool.false_or, Bool.true_or, opB_sub, opB_add, opB_band, opB_bor, opB_bxor, opC_lt, opC_le, opC_gt, opC_ge, opC_ne, truR_int, tru_bool, and_low, lenT, List.length_map, List.length_cons, List.length_nil, List.map_cons, List.map_nil, Int.reduceEq, eq_int, w0, x0, hi, sh (1) (by omega)])
    rw [gc_id (by simp)]
    exact ⟨by simp, rfl⟩
theorem p_pick0 {a x y z : Nat} (ha : a ≤ 8) (h0 : 0 < a) (hc : ¬ x = 1) : P "pick" a [1,a,a] [x,y,z] 0 := by
  have hd : decide ((x : Int) = 1) = false := by simp only [decide_eq_true_eq, decide_eq_false_iff_not]; omega
  refine ⟨(z : Int), fun G k ra rb m h1 h2 => ⟨?_, ?_⟩⟩
  · rw [u_l_word, c_l_word]
    have w0 : idxD (.ref ra) (.int 0) m = .ok (natD (1)) m := idxL (j := 0) h1 rfl
    have w1 : idxD (.ref ra) (.int 1) m = .ok (natD (a)) m := idxL (j := 1) h1 rfl
    have w2 : idxD (.ref ra) (.int 2) m = .ok (natD (a)) m := idxL (j := 2) h1 rfl
    have x0 : idxD (.ref rb) (.int 0) m = .ok (natD (x)) m := idxL (j := 0) h2 rfl
    have x1 : idxD (.ref rb) (.int 1) m = .ok (natD (y)) m := idxL (j := 1) h2 rfl
    have x2 : idxD (.ref rb) (.int 2) m = .ok (natD (z)) m := idxL (j := 2) h2 rfl
    refine wp_eq ?_
    rw [wp_fin]
    repeat (refine step ?_; simp only [dE_var, dE_lit, dE_bin, dE_neg, dE_inv, dE_cmp, dE_chain, dE_and, dE_or, dE_not, dE_ife, dE_tup, dE_lst, dE_idx, dE_slc, dE_call, dE_bi, dE_isin, dE_meth, dE_comp, dE_gc, dE_lrng1, dE_lrng2, dEs_nil, dEs_cons, dO_none, dO_some, dB_and, dB_or, dB_not, dB_val, dBO_none, dBO_some, dI_plain, dI_rng1, dI_rng2, dI_zip, dI_enum, dI_rev, dT_name, dT_tup, dT_sub, dTs_nil, dTs_cons, dS_asg, dS_aug, dS_augS, dS_par3, dS_expr, dS_ret, dS_retN, dS_pass, dS_brk, dS_cont, dS_ite, dS_whl, dS_fr, dSs_nil, Res.ok_bind, Res.bad_bind, Res.ok_to, Res.bad_to, SR.nx_seq, SR.rt_seq, SR.bk_seq, SR.ct_seq, wp_ok, wp_bind, wp_to, swp_nx, swp_rt, swp_bk, swp_ct, swp_seq, wp_fin, fin_rt, fin_nx, wipe_nil, wipe_cons, List.getElem?_cons_zero, List.getElem?_cons_succ, List.set_cons_zero, List.set_cons_succ, List.getElem?_nil, newL_eq, seq_tup, seq_kl, iterD_tup, iterD_kl, iterS_tup, iterS_kl, truR_bool, if_true, Bool.false_eq_true, if_false, Bool.not_true, Bool.not_false, opC_eq, eqS, ofB_some, ofNB_some, opC_inS, inS2, inS3, inS4, String.reduceBEq, Bool.or_false, Bool.or_true, Bool.false_or, Bool.true_or, opB_sub, opB_add, opB_band, opB_bor, opB_bxor, opC_lt, opC_le, opC_gt, opC_ge, opC_ne, truR_int, tru_bool, and_low, lenT, List.length_map, List.length_cons, List.length_nil, w0, w1, w2, x0, x1, x2, sh a (by omega), eq_int, hd])
    rw [gc_id (by simp)]
    exact ⟨rfl, rfl⟩
  · rw [u_result, c_result]
    have w0 : ∀ m : Mem, idxD (.tup [natD (1), natD (a), natD (a)]) (.int 0) m = .ok (natD (1)) m := fun m => rfl
    have w1 : ∀ m : Mem, idxD (.tup [natD (1), natD (a), natD (a)]) (.int 1) m = .ok (natD (a)) m := fun m => rfl
    have w2 : ∀ m : Mem, idxD (.tup [natD (1), natD (a), natD (a)]) (.int 2) m = .ok (natD (a)) m := fun m => rfl
    have x0 : ∀ m : Mem, idxD (.tup [natD (x), natD (y), natD (z)]) (.int 0) m = .ok (natD (x)) m := fun m => rfl
    have x1 : ∀ m : Mem, idxD (.tup [natD (x), natD (y), natD (z)]) (.int 1) m = .ok (natD (y)) m := fun m => rfl
    have x2 : ∀ m : Mem, idxD (.tup [natD (x), natD (y), natD (z)]) (.int 2) m = .ok (natD (z)) m := fun m => rfl
    refine wp_eq ?_
    rw [wp_fin]
    repeat (refine step ?_; simp only [dE_var, dE_lit, dE_bin, dE_neg, dE_inv, dE_cmp, dE_chain, dE_and, dE_or, dE_not, dE_ife, dE_tup, dE_lst, dE_idx, dE_slc, dE_call, dE_bi, dE_isin, dE_meth, dE_comp, dE_gc, dE_lrng1, dE_lrng2, dEs_nil, dEs_cons, dO_none, dO_some, dB_and, dB_or, dB_not, dB_val, dBO_none, dBO_some, dI_plain, dI_rng1, dI_rng2, dI_zip, dI_enum, dI_rev, dT_name, dT_tup, dT_sub, dTs_nil, dTs_cons, dS_asg, dS_aug, dS_augS, dS_par3, dS_expr, dS_ret, dS_retN, dS_pass, dS_brk, dS_cont, dS_ite, dS_whl, dS_fr, dSs_nil, Res.ok_bind, Res.bad_bind, Res.ok_to, Res.bad_to, SR.nx_seq, SR.rt_seq, SR.bk_seq, SR.ct_seq, wp_ok, wp_bind, wp_to, swp_nx, swp_rt, swp_bk, swp_ct, swp_seq, wp_fin, fin_rt, fin_nx, wipe_nil, wipe_cons, List.getElem?_cons_zero, List.getElem?_cons_succ, List.set_cons_zero, List.set_cons_succ, List.getElem?_nil, newL_eq, seq_tup, seq_kl, iterD_tup, iterD_kl, iterS_tup, iterS_kl, truR_bool, if_true, Bool.false_eq_true, if_false, Bool.not_true, Bool.not_false, opC_eq, eqS, ofB_some, ofNB_some, opC_inS, inS2, inS3, inS4, String.reduceBEq, Bool.or_false, Bool.or_true, Bool.false_or, Bool.true_or, opB_sub, opB_add, opB_band, opB_bor, opB_bxor, opC_lt, opC_le, opC_gt, opC_ge, opC_ne, truR_int, tru_bool, and_low, lenT, List.length_map, List.length_cons, List.length_nil, List.map_cons, List.map_nil, Int.reduceEq, eq_int, w0, w1, w2, x0, x1, x2, sh (a) (by omega), hd, eq_int])
    rw [gc_id (by simp)]
    exact ⟨rfl, rfl⟩
theorem p_any1 {a x : Nat} (ha : a ≤ 8) (h0 : 0 < a) (hx : x < 2 ^ a) (hc : ¬ x = 0) : P "any" 1 [a] [x] 0 := by
  have hd : decide ((x : Int) = 0) = false := by simp only [decide_eq_true_eq, decide_eq_false_iff_not]; omega
  have hg : decide ((0 : Int) < x) = true := by simp only [decide_eq_true_eq, decide_eq_false_iff_not]; omega
  refine ⟨1, fun G k ra rb m h1 h2 => ⟨?_, ?_⟩⟩
  · rw [u_l_word, c_l_word]
    have w0 : idxD (.ref ra) (.int 0) m = .ok (natD (a)) m := idxL (j := 0) h1 rfl
    have x0 : idxD (.ref rb) (.int 0) m = .ok (natD (x)) m := idxL (j := 0) h2 rfl
    refine wp_eq ?_
    rw [wp_fin]
    repeat (refine step ?_; simp only [dE_var, dE_lit, dE_bin, dE_neg, dE_inv, dE_cmp, dE_chain, dE_and, dE_or, dE_not, dE_ife, dE_tup, dE_lst, dE_idx, dE_slc, dE_call, dE_bi, dE_isin, dE_meth, dE_comp, dE_gc, dE_lrng1, dE_lrng2, dEs_nil, dEs_cons, dO_none, dO_some, dB_and, dB_or, dB_not, dB_val, dBO_none, dBO_some, dI_plain, dI_rng1, dI_rng2, dI_zip, dI_enum, dI_rev, dT_name, dT_tup, dT_sub, dTs_nil, dTs_cons, dS_asg, dS_aug, dS_augS, dS_par3, dS_expr, dS_ret, dS_retN, dS_pass, dS_brk, dS_cont, dS_ite, dS_whl, dS_fr, dSs_nil, Res.ok_bind, Res.bad_bind, Res.ok_to, Res.bad_to, SR.nx_seq, SR.rt_seq, SR.bk_seq, SR.ct_seq, wp_ok, wp_bind, wp_to, swp_nx, swp_rt, swp_bk, swp_ct, swp_seq, wp_fin, fin_rt, fin_nx, wipe_nil, wipe_cons, List.getElem?_cons_zero, List.getElem?_cons_succ, List.set_cons_zero, List.set_cons_succ, List.getElem?_nil, newL_eq, seq_tup, seq_kl, iterD_tup, iterD_kl, iterS_tup, iterS_kl, truR_bool, if_true, Bool.false_eq_true, if_false, Bool.not_true, Bool.not_false, opC_eq, eqS, ofB_some, ofNB_some, opC_inS, inS2, inS3, inS4, String.reduceBEq, Bool.or_false, Bool.or_true, Bool.false_or, Bool.true_or, opB_sub, opB_add, opB_band, opB_bor, opB_bxor, opC_lt, opC_le, opC_gt, opC_ge, opC_ne, truR_int, tru_bool, and_low, lenT, List.length_map, List.length_cons, List.length_nil, w0, x0, sh 1 (by omega), eq_int, hd, bi_intb])
    rw [gc_id (by simp)]
    exact ⟨rfl, rfl⟩
  · rw [u_result, c_result]
    have w0 : ∀ m : Mem, idxD (.tup [natD (a)]) (.int 0) m = .ok (natD (a)) m := fun m => rfl
    have x0 : ∀ m : Mem, idxD (.tup [natD (x)]) (.int 0) m = .ok (natD (x)) m := fun m => rfl
    have hi : runF (tabP tab) G (k + 2) "of_one" [.str "any", natD (1), natD (a), natD (x), natD (0)] m = .ok (.int (1)) m := by
      rw [u_of_one, c_of_one]
      refine wp_eq ?_
      rw [wp_fin]
      repeat (refine step ?_; simp only [dE_var, dE_lit, dE_bin, dE_neg, dE_inv, dE_cmp, dE_chain, dE_and, dE_or, dE_not, dE_ife, dE_tup, dE_lst, dE_idx, dE_slc, dE_call, dE_bi, dE_isin, dE_meth, dE_comp, dE_gc, dE_lrng1, dE_lrng2, dEs_nil, dEs_cons, dO_none, dO_some, dB_and, dB_or, dB_not, dB_val, dBO_none, dBO_some, dI_plain, dI_rng1, dI_rng2, dI_zip, dI_enum, dI_rev, dT_name, dT_tup, dT_sub, dTs_nil, dTs_cons, dS_asg, dS_aug, dS_augS, dS_par3, dS_expr, dS_ret, dS_retN, dS_pass, dS_brk, dS_cont, dS_ite, dS_whl, dS_fr, dSs_nil, Res.ok_bind, Res.bad_bind, Res.ok_to, Res.bad_to, SR.nx_seq, SR.rt_seq, SR.bk_seq, SR.ct_seq, wp_ok, wp_bind, wp_to, swp_nx, swp_rt, swp_bk, swp_ct, swp_seq, wp_fin, fin_rt, fin_nx, wipe_nil, wipe_cons, List.getElem?_cons_zero, List.getElem?_cons_succ, List.set_cons_zero, List.set_cons_succ, List.getElem?_nil, newL_eq, seq_tup, seq_kl, iterD_tup, iterD_kl, iterS_tup, iterS_kl, truR_bool, if_true, Bool.false_eq_true, if_false, Bool.not_true, Bool.not_false, opC_eq, eqS, ofB_some, ofNB_some, opC_inS, inS2, inS3, inS4, String.reduceBEq, Bool.or_false, Bool.or_true, Bool.false_or, Bool.true_or, opB_sub, opB_add, opB_band, opB_bor, opB_bxor, opC_lt, opC_le, opC_gt, opC_ge, opC_ne, truR_int, tru_bool, and_low, lenT, List.length_map, List.length_cons, List.length_nil, hg])
      rw [gc_id (by simp)]
      exact ⟨by first | rfl | simp, rfl⟩
    refine wp_eq ?_
    rw [wp_fin]
    repeat (refine step ?_; simp only [dE_var, dE_lit, dE_bin, dE_neg, dE_inv, dE_cmp, dE_chain, dE_and, dE_or, dE_not, dE_ife, dE_tup, dE_lst, dE_idx, dE_slc, dE_call, dE_bi, dE_isin, dE_meth, dE_comp, dE_gc, dE_lrng1, dE_lrng2, dEs_nil, dEs_cons, dO_none, dO_some, dB_and, dB_or, dB_not, dB_val, dBO_none, dBO_some, dI_plain, dI_rng1, dI_rng2, dI_zip, dI_enum, dI_rev, dT_name, dT_tup, dT_sub, dTs_nil, dTs_cons, dS_asg, dS_aug, dS_augS, dS_par3, dS_expr, dS_ret, dS_retN, dS_pass, dS_brk, dS_cont, dS_ite, dS_whl, dS_fr, dSs_nil, Res.ok_bind, Res.bad_bind, Res.ok_to, Res.bad_to, SR.nx_seq, SR.rt_seq, SR.bk_seq, SR.ct_seq, wp_ok, wp_bind, wp_to, swp_nx, swp_rt, swp_bk, swp_ct, swp_seq, wp_fin, fin_rt, fin_nx, wipe_nil, wipe_cons, List.getElem?_cons_zero, List.getElem?_cons_succ, List.set_cons_zero, List.set_cons_succ, List.getElem?_nil, newL_eq, seq_tup, seq_kl, iterD_tup, iterD_kl, iterS_tup, iterS_kl, truR_bool, if_true, Bool.false_eq_true, if_false, Bool.not_true, Bool.not_false, opC_eq, eqS, ofB_some, ofNB_some, opC_inS, inS2, inS3, inS4, String.reduceBEq, Bool.or_false, Bool.or_true, Bool.false_or, Bool.true_or, opB_sub, opB_add, opB_band, opB_bor, opB_bxor, opC_lt, opC_le, opC_gt, opC_ge, opC_ne, truR_int, tru_bool, and_low, lenT, List.length_map, List.length_cons, List.length_nil, List.map_cons, List.map_nil, Int.reduceEq, eq_int, w0, x0, hi, sh (1) (by omega)])
    rw [gc_id (by simp)]
    exact ⟨by simp, rfl⟩
theorem p_all1 {a x : Nat} (ha : a ≤ 8) (h0 : 0 < a) (hx : x < 2 ^ a) (hc : (x : Int) = 2 ^ a - 1) : P "all" 1 [a] [x] 0 := by
  have hd : decide ((x : Int) = 2 ^ a - 1) = true := by simp only [decide_eq_true_eq, decide_eq_false_iff_not]; exact hc
  refine ⟨1, fun G k ra rb m h1 h2 => ⟨?_, ?_⟩⟩
  · rw [u_l_word, c_l_word]
    have w0 : idxD (.ref ra) (.int 0) m = .ok (natD (a)) m := idxL (j := 0) h1 rfl
    have x0 : idxD (.ref rb) (.int 0) m = .ok (natD (x)) m := idxL (j := 0) h2 rfl
    refine wp_eq ?_
    rw [wp_fin]
    repeat (refine step ?_; simp only [dE_var, dE_lit, dE_bin, dE_neg, dE_inv, dE_cmp, dE_chain, dE_and, dE_or, dE_not, dE_ife, dE_tup, dE_lst, dE_idx, dE_slc, dE_call, dE_bi, dE_isin, dE_meth, dE_comp, dE_gc, dE_lrng1, dE_lrng2, dEs_nil, dEs_cons, dO_none, dO_some, dB_and, dB_or, dB_not, dB_val, dBO_none, dBO_some, dI_plain, dI_rng1, dI_rng2, dI_zip, dI_enum, dI_rev, dT_name, dT_tup, dT_sub, dTs_nil, dTs_cons, dS_asg, dS_aug, dS_augS, dS_par3, dS_expr, dS_ret, dS_retN, dS_pass, dS_brk, dS_cont, dS_ite, dS_whl, dS_fr, dSs_nil, Res.ok_bind, Res.bad_bind, Res.ok_to, Res.bad_to, SR.nx_seq, SR.rt_seq, SR.bk_seq, SR.ct_seq, wp_ok, wp_bind, wp_to, swp_nx, swp_rt, swp_bk, swp_ct, swp_seq, wp_fin, fin_rt, fin_nx, wipe_nil, wipe_cons, List.getElem?_cons_zero, List.getElem?_cons_succ, List.set_cons_zero, List.set_cons_succ, List.getElem?_nil, newL_eq, seq_tup, seq_kl, iterD_tup, iterD_kl, iterS_tup, iterS_kl, truR_bool, if_true, Bool.false_eq_true, if_false, Bool.not_true, Bool.not_false, opC_eq, eqS, ofB_some, ofNB_some, opC_inS, inS2, inS3, inS4, String.reduceBEq, Bool.or_false, Bool.or_true, Bool.false_or, Bool.true_or, opB_sub, opB_add, opB_band, opB_bor, opB_bxor, opC_lt, opC_le, opC_gt, opC_ge, opC_ne, truR_int, tru_bool, and_low, lenT, List.length_map, List.length_cons, List.length_nil, w0, x0, sh 1 (by omega), sh a (by omega), eq_int, hd, bi_intb])
    rw [gc_id (by simp)]
    exact ⟨rfl, rfl⟩
  · rw [u_result, c_result]
    have w0 : ∀ m : Mem, idxD (.tup [natD (a)]) (.int 0) m = .ok (natD (a)) m := fun m => rfl
    have x0 : ∀ m : Mem, idxD (.tup [natD (x)]) (.int 0) m = .ok (natD (x)) m := fun m => rfl
    have hi : runF (tabP tab) G (k + 2) "of_one" [.str "all", natD (1), natD (a), natD (x), natD (0)] m = .ok (.int (1)) m := by
      rw [u_of_one, c_of_one]
      refine wp_eq ?_
      rw [wp_fin]
      repeat (refine step ?_; simp only [dE_var, dE_lit, dE_bin, dE_neg, dE_inv, dE_cmp, dE_chain, dE_and, dE_or, dE_not, dE_ife, dE_tup, dE_lst, dE_idx, dE_slc, dE_call, dE_bi, dE_isin, dE_meth, dE_comp, dE_gc, dE_lrng1, dE_lrng2, dEs_nil, dEs_cons, dO_none, dO_some, dB_and, dB_or, dB_not, dB_val, dBO_none, dBO_some, dI_plain, dI_rng1, dI_rng2, dI_zip, dI_enum, dI_rev, dT_name, dT_tup, dT_sub, dTs_nil, dTs_cons, dS_asg, dS_aug, dS_augS, dS_par3, dS_expr, dS_ret, dS_retN, dS_pass, dS_brk, dS_cont, dS_ite, dS_whl, dS_fr, dSs_nil, Res.ok_bind, Res.bad_bind, Res.ok_to, Res.bad_to, SR.nx_seq, SR.rt_seq, SR.bk_seq, SR.ct_seq, wp_ok, wp_bind, wp_to, swp_nx, swp_rt, swp_bk, swp_ct, swp_seq, wp_fin, fin_rt, fin_nx, wipe_nil, wipe_cons, List.getElem?_cons_zero, List.getElem?_cons_succ, List.set_cons_zero, List.set_cons_succ, List.getElem?_nil, newL_eq, seq_tup, seq_kl, iterD_tup, iterD_kl, iterS_tup, iterS_kl, truR_bool, if_true, Bool.false_eq_true, if_false, Bool.not_true, Bool.not_false, opC_eq, eqS, ofB_some, ofNB_some, opC_inS, inS2, inS3, inS4, String.reduceBEq, Bool.or_false, Bool.or_true, Bool.false_or, Bool.true_or, opB_sub, opB_add, opB_band, opB_bor, opB_bxor, opC_lt, opC_le, opC_gt, opC_ge, opC_ne, truR_int, tru_bool, and_low, lenT, List.length_map, List.length_cons, List.length_nil, sh a (by omega), eq_int, hd])
      rw [gc_id (by simp)]
      exact ⟨by first | rfl | simp, rfl⟩
    refine wp_eq ?_
    rw [wp_fin]
    repeat (refine step ?_; simp only [dE_var, dE_lit, dE_bin, dE_neg, dE_inv, dE_cmp, dE_chain, dE_and, dE_or, dE_not, dE_ife, dE_tup, dE_lst, dE_idx, dE_slc, dE_call, dE_bi, dE_isin, dE_meth, dE_comp, dE_gc, dE_lrng1, dE_lrng2, dEs_nil, dEs_cons, dO_none, dO_some, dB_and, dB_or, dB_not, dB_val, dBO_none, dBO_some, dI_plain, dI_rng1, dI_rng2, dI_zip, dI_enum, dI_rev, dT_name, dT_tup, dT_sub, dTs_nil, dTs_cons, dS_asg, dS_aug, dS_augS, dS_par3, dS_expr, dS_ret, dS_retN, dS_pass, dS_brk, dS_cont, dS_ite, dS_whl, dS_fr, dSs_nil, Res.ok_bind, Res.bad_bind, Res.ok_to, Res.bad_to, SR.nx_seq, SR.rt_seq, SR.bk_seq, SR.ct_seq, wp_ok, wp_bind, wp_to, swp_nx, swp_rt, swp_bk, swp_ct, swp_seq, wp_fin, fin_rt, fin_nx, wipe_nil, wipe_cons, List.getElem?_cons_zero, List.getElem?_cons_succ, List.set_cons_zero, List.set_cons_succ, List.getElem?_nil, newL_eq, seq_tup, seq_kl, iterD_tup, iterD_kl, iterS_tup, iterS_kl, truR_bool, if_true, Bool.false_eq_true, if_false, Bool.not_true, Bool.not_false, opC_eq, eqS, ofB_some, ofNB_some, opC_inS, inS2, inS3, inS4, String.reduceBEq, Bool.or_false, Bool.or_true, Bool.false_or, Bool.true_or, opB_sub, opB_add, opB_band, opB_bor, opB_bxor, opC_lt, opC_le, opC_gt, opC_ge, opC_ne, truR_int, tru_bool, and_low, lenT, List.length_map, List.length_cons, List.length_nil, List.map_cons, List.map_nil, Int.reduceEq, eq_int, w0, x0, hi, sh (1) (by omega)])
    rw [gc_id (by simp)]
    exact ⟨by simp, rfl⟩
theorem p_pick1 {a x y z : Nat} (ha : a ≤ 8) (h0 : 0 < a) (hc : x = 1) : P "pick" a [1,a,a] [x,y,z] 0 := by
  have hd : decide ((x : Int) = 1) = true := by simp only [decide_eq_true_eq, decide_eq_false_iff_not]; omega
  refine ⟨(y : Int), fun G k ra rb m h1 h2 => ⟨?_, ?_⟩⟩
  · rw [u_l_word, c_l_word]
    have w0 : idxD (.ref ra) (.int 0) m = .ok (natD (1)) m := idxL (j := 0) h1 rfl
    have w1 : idxD (.ref ra) (.int 1) m = .ok (natD (a)) m := idxL (j := 1) h1 rfl
    have w2 : idxD (.ref ra) (.int 2) m = .ok (natD (a)) m := idxL (j := 2) h1 rfl
    have x0 : idxD (.ref rb) (.int 0) m = .ok (natD (x)) m := idxL (j := 0) h2 rfl
    have x1 : idxD (.ref rb) (.int 1) m = .ok (natD (y)) m := idxL (j := 1) h2 rfl
    have x2 : idxD (.ref rb) (.int 2) m = .ok (natD (z)) m := idxL (j := 2) h2 rfl
    refine wp_eq ?_
    rw [wp_fin]
    repeat (refine step ?_; simp only [dE_var, dE_lit, dE_bin, dE_neg, dE_inv, dE_cmp, dE_chain, dE_and, dE_or, dE_not, dE_ife, dE_tup, dE_lst, dE_idx, dE_slc, dE_call, dE_bi, dE_isin, dE_meth, dE_comp, dE_gc, dE_lrng1, dE_lrng2, dEs_nil, dEs_cons, dO_none, dO_some, dB_and, dB_or, dB_not, dB_val, dBO_none, dBO_some, dI_plain, dI_rng1, dI_rng2, dI_zip, dI_enum, dI_rev, dT_name, dT_tup, dT_sub, dTs_nil, dTs_cons, dS_asg, dS_aug, dS_augS, dS_par3, dS_expr, dS_ret, dS_retN, dS_pass, dS_brk, dS_cont, dS_ite, dS_whl, dS_fr, dSs_nil, Res.ok_bind, Res.bad_bind, Res.ok_to, Res.bad_to, SR.nx_seq, SR.rt_seq, SR.bk_seq, SR.ct_seq, wp_ok, wp_bind, wp_to, swp_nx, swp_rt, swp_bk, swp_ct, swp_seq, wp_fin, fin_rt, fin_nx, wipe_nil, wipe_cons, List.getElem?_cons_zero, List.getElem?_cons_succ, List.set_cons_zero, List.set_cons_succ, List.getElem?_nil, newL_eq, seq_tup, seq_kl, iterD_tup, iterD_kl, iterS_tup, iterS_kl, truR_bool, if_true, Bool.false_eq_true, if_false, Bool.not_true, Bool.not_false, opC_eq, eqS, ofB_some, ofNB_some, opC_inS, inS2, inS3, inS4, String.reduceBEq, Bool.or_false, Bool.or_true, Bool.false_or, Bool.true_or, opB_sub, opB_add, opB_band, opB_bor, opB_bxor, opC_lt, opC_le, opC_gt, opC_ge, opC_ne, truR_int, tru_bool, and_low, lenT, List.length_map, List.length_cons, List.length_nil, w0, w1, w2, x0, x1, x2, sh a (by omega), eq_int, hd])
    rw [gc_id (by simp)]
    exact ⟨rfl, rfl⟩
  · rw [u_result, c_result]
    have w0 : ∀ m : Mem, idxD (.tup [natD (1), natD (a), natD (a)]) (.int 0) m = .ok (natD (1)) m := fun m => rfl
    have w1 : ∀ m : Mem, idxD (.tup [natD (1), natD (a), natD (a)]) (.int 1) m = .ok (natD (a)) m := fun m => rfl
    have w2 : ∀ m : Mem, idxD (.tup [natD (1), natD (a), natD (a)]) (.int 2) m = .ok (natD (a)) m := fun m => rfl
    have x0 : ∀ m : Mem, idxD (.tup [natD (x), natD (y), natD (z)]) (.int 0) m = .ok (natD (x)) m := fun m => rfl
    have x1 : ∀ m : Mem, idxD (.tup [natD (x), natD (y), natD (z)]) (.int 1) m = .ok (natD (y)) m := fun m => rfl
    have x2 : ∀ m : Mem, idxD (.tup [natD (x), natD (y), natD (z)]) (.int 2) m = .ok (natD (z)) m := fun m => rfl
    refine wp_eq ?_
    rw [wp_fin]
    repeat (refine step ?_; simp only [dE_var, dE_lit, dE_bin, dE_neg, dE_inv, dE_cmp, dE_chain, dE_and, dE_or, dE_not, dE_ife, dE_tup, dE_lst, dE_idx, dE_slc, dE_call, dE_bi, dE_isin, dE_meth, dE_comp, dE_gc, dE_lrng1, dE_lrng2, dEs_nil, dEs_cons, dO_none, dO_some, dB_and, dB_or, dB_not, dB_val, dBO_none, dBO_some, dI_plain, dI_rng1, dI_rng2, dI_zip, dI_enum, dI_rev, dT_name, dT_tup, dT_sub, dTs_nil, dTs_cons, dS_asg, dS_aug, dS_augS, dS_par3, dS_expr, dS_ret, dS_retN, dS_pass, dS_brk, dS_cont, dS_ite, dS_whl, dS_fr, dSs_nil, Res.ok_bind, Res.bad_bind, Res.ok_to, Res.bad_to, SR.nx_seq, SR.rt_seq, SR.bk_seq, SR.ct_seq, wp_ok, wp_bind, wp_to, swp_nx, swp_rt, swp_bk, swp_ct, swp_seq, wp_fin, fin_rt, fin_nx, wipe_nil, wipe_cons, List.getElem?_cons_zero, List.getElem?_cons_succ, List.set_cons_zero, List.set_cons_succ, List.getElem?_nil, newL_eq, seq_tup, seq_kl, iterD_tup, iterD_kl, iterS_tup, iterS_kl, truR_bool, if_true, Bool.false_eq_true, if_false, Bool.not_true, Bool.not_false, opC_eq, eqS, ofB_some, ofNB_some, opC_inS, inS2, inS3, inS4, String.reduceBEq, Bool.or_false, Bool.or_true, Bool.false_or, Bool.true_or, opB_sub, opB_add, opB_band, opB_bor, opB_bxor, opC_lt, opC_le, opC_gt, opC_ge, opC_ne, truR_int, tru_bool, and_low, lenT, List.length_map, List.length_cons, List.length_nil, List.map_cons, List.map_nil, Int.reduceEq, eq_int, w0, w1, w2, x0, x1, x2, sh (a) (by omega), hd, eq_int])
    rw [gc_id (by simp)]
    exact ⟨rfl, rfl⟩
theorem p_join {a b x y : Nat} (ha : a ≤ 8) (h0 : 0 < a) (hb : b ≤ 8) (hx : x < 2 ^ a) (hy : y < 2 ^ b) : P "join" (a + b) [a,b] [x,y] 0 := by
  have p8 : 2 ^ a ≤ 2 ^ 8 := Nat.pow_le_pow_right (by omega) ha
  have hm : ∀ m : Mem, opB .Mult (natD x) (.int (2 ^ b)) m = .ok (.int ((x : Int) * 2 ^ b)) m := fun m => opB_mul (.inl ⟨by omega, by omega⟩)
  have hs : ∀ m : Mem, opB .LShift (natD x) (natD b) m = .ok (.int ((x : Int) * 2 ^ b)) m := fun m => by rw [opB_shl (by omega) (by omega) (by simp; omega)]; simp
  refine ⟨(x : Int) * 2 ^ b + y, fun G k ra rb m h1 h2 => ⟨?_, ?_⟩⟩
  · rw [u_l_word, c_l_word]
    have w0 : idxD (.ref ra) (.int 0) m = .ok (natD (a)) m := idxL (j := 0) h1 rfl
    have w1 : idxD (.ref ra) (.int 1) m = .ok (natD (b)) m := idxL (j := 1) h1 rfl
    have x0 : idxD (.ref rb) (.int 0) m = .ok (natD (x)) m := idxL (j := 0) h2 rfl
    have x1 : idxD (.ref rb) (.int 1) m = .ok (natD (y)) m := idxL (j := 1) h2 rfl
    refine wp_eq ?_
    rw [wp_fin]
    repeat (refine step ?_; simp only [dE_var, dE_lit, dE_bin, dE_neg, dE_inv, dE_cmp, dE_chain, dE_and, dE_or, dE_not, dE_ife, dE_tup, dE_lst, dE_idx, dE_slc, dE_call, dE_bi, dE_isin, dE_meth, dE_comp, dE_gc, dE_lrng1, dE_lrng2, dEs_nil, dEs_cons, dO_none, dO_some, dB_and, dB_or, dB_not, dB_val, dBO_none, dBO_some, dI_plain, dI_rng1, dI_rng2, dI_zip, dI_enum, dI_rev, dT_name, dT_tup, dT_sub, dTs_nil, dTs_cons, dS_asg, dS_aug, dS_augS, dS_par3, dS_expr, dS_ret, dS_retN, dS_pass, dS_brk, dS_cont, dS_ite, dS_whl, dS_fr, dSs_nil, Res.ok_bind, Res.bad_bind, Res.ok_to, Res.bad_to, SR.nx_seq, SR.rt_seq, SR.bk_seq, SR.ct_seq, wp_ok, wp_bind, wp_to, swp_nx, swp_rt, swp_bk, swp_ct, swp_seq, wp_fin, fin_rt, fin_nx, wipe_nil, wipe_cons, List.getElem?_cons_zero, List.getElem?_cons_succ, List.set_cons_zero, List.set_cons_succ, List.getElem?_nil, newL_eq, seq_tup, seq_kl, iterD_tup, iterD_kl, iterS_tup, iterS_kl, truR_bool, if_true, Bool.false_eq_true, if_false, Bool.not_true, Bool.not_false, opC_eq, eqS, ofB_some, ofNB_some, opC_inS, inS2, inS3, inS4, String.reduceBEq, Bool.or_false, Bool.or_true, Bool.false_or, Bool.true_or, opB_sub, opB_add, opB_band, opB_bor, opB_bxor, opC_lt, opC_le, opC_gt, opC_ge, opC_ne, truR_int, tru_bool, and_low, lenT, List.length_map, List.length_cons, List.length_nil, w0, w1, x0, x1, sh (a + b) (by omega), sh b (by omega), hm])
    rw [gc_id (by simp)]
    exact ⟨rfl, rfl⟩
  · rw [u_result, c_result]
    have w0 : ∀ m : Mem, idxD (.tup [natD (a), natD (b)]) (.int 0) m = .ok (natD (a)) m := fun m => rfl
    have w1 : ∀ m : Mem, idxD (.tup [natD (a), natD (b)]) (.int 1) m = .ok (natD (b)) m := fun m => rfl
    have x0 : ∀ m : Mem, idxD (.tup [natD (x), natD (y)]) (.int 0) m = .ok (natD (x)) m := fun m => rfl
    have x1 : ∀ m : Mem, idxD (.tup [natD (x), natD (y)]) (.int 1) m = .ok (natD (y)) m := fun m => rfl
    refine wp_eq ?_
    rw [wp_fin]
    repeat (refine step ?_; simp only [dE_var, dE_lit, dE_bin, dE_neg, dE_inv, dE_cmp, dE_chain, dE_and, dE_or, dE_not, dE_ife, dE_tup, dE_lst, dE_idx, dE_slc, dE_call, dE_bi, dE_isin, dE_meth, dE_comp, dE_gc, dE_lrng1, dE_lrng2, dEs_nil, dEs_cons, dO_none, dO_some, dB_and, dB_or, dB_not, dB_val, dBO_none, dBO_some, dI_plain, dI_rng1, dI_rng2, dI_zip, dI_enum, dI_rev, dT_name, dT_tup, dT_sub, dTs_nil, dTs_cons, dS_asg, dS_aug, dS_augS, dS_par3, dS_expr, dS_ret, dS_retN, dS_pass, dS_brk, dS_cont, dS_ite, dS_whl, dS_fr, dSs_nil, Res.ok_bind, Res.bad_bind, Res.ok_to, Res.bad_to, SR.nx_seq, SR.rt_seq, SR.bk_seq, SR.ct_seq, wp_ok, wp_bind, wp_to, swp_nx, swp_rt, swp_bk, swp_ct, swp_seq, wp_fin, fin_rt, fin_nx, wipe_nil, wipe_cons, List.getElem?_cons_zero, List.getElem?_cons_succ, List.set_cons_zero, List.set_cons_succ, List.getElem?_nil, newL_eq, seq_tup, seq_kl, iterD_tup, iterD_kl, iterS_tup, iterS_kl, truR_bool, if_true, Bool.false_eq_true, if_false, Bool.not_true, Bool.not_false, opC_eq, eqS, ofB_some, ofNB_some, opC_inS, inS2, inS3, inS4, String.reduceBEq, Bool.or_false, Bool.or_true, Bool.false_or, Bool.true_or, opB_sub, opB_add, opB_band, opB_bor, opB_bxor, opC_lt, opC_le, opC_gt, opC_ge, opC_ne, truR_int, tru_bool, and_low, lenT, List.length_map, List.length_cons, List.length_nil, List.map_cons, List.map_nil, Int.reduceEq, eq_int, w0, w1, x0, x1, sh ((a + b)) (by omega), hs])
    rw [gc_id (by simp)]
    exact ⟨by rw [Bits.bitOr_join' (by omega) (by exact_mod_cast hy) (by omega), Int.add_comm], rfl⟩
theorem p_lt0 {a x y : Nat} (ha : a ≤ 8) (h0 : 0 < a) (hc : ¬ ((x : Int) < y)) : P "lt" 1 [a,a] [x,y] 0 := by
  have hd : decide ((x : Int) < y) = false := by simp only [decide_eq_true_eq, decide_eq_false_iff_not]; exact hc
  refine ⟨0, fun G k ra rb m h1 h2 => ⟨?_, ?_⟩⟩
  · rw [u_l_word, c_l_word]
    have w0 : idxD (.ref ra) (.int 0) m = .ok (natD (a)) m := idxL (j := 0) h1 rfl
    have w1 : idxD (.ref ra) (.int 1) m = .ok (natD (a)) m := idxL (j := 1) h1 rfl
    have x0 : idxD (.ref rb) (.int 0) m = .ok (natD (x)) m := idxL (j := 0) h2 rfl
    have x1 : idxD (.ref rb) (.int 1) m = .ok (natD (y)) m := idxL (j := 1) h2 rfl
    refine wp_eq ?_
    rw [wp_fin]
    repeat (refine step ?_; simp only [dE_var, dE_lit, dE_bin, dE_neg, dE_inv, dE_cmp, dE_chain, dE_and, dE_or, dE_not, dE_ife, dE_tup, dE_lst, dE_idx, dE_slc, dE_call, dE_bi, dE_isin, dE_meth, dE_comp, dE_gc, dE_lrng1, dE_lrng2, dEs_nil, dEs_cons, dO_none, dO_some, dB_and, dB_or, dB_not, dB_val, dBO_none, dBO_some, dI_plain, dI_rng1, dI_rng2, dI_zip, dI_enum, dI_rev, dT_name, dT_tup, dT_sub, dTs_nil, dTs_cons, dS_asg, dS_aug, dS_augS, dS_par3, dS_expr, dS_ret, dS_retN, dS_pass, dS_brk, dS_cont, dS_ite, dS_whl, dS_fr, dSs_nil, Res.ok_bind, Res.bad_bind, Res.ok_to, Res.bad_to, SR.nx_seq, SR.rt_seq, SR.bk_seq, SR.ct_seq, wp_ok, wp_bind, wp_to, swp_nx, swp_rt, swp_bk, swp_ct, swp_seq, wp_fin, fin_rt, fin_nx, wipe_nil, wipe_cons, List.getElem?_cons_zero, List.getElem?_cons_succ, List.set_cons_zero, List.set_cons_succ, List.getElem?_nil, newL_eq, seq_tup, seq_kl, iterD_tup, iterD_kl, iterS_tup, iterS_kl, truR_bool, if_true, Bool.false_eq_true, if_false, Bool.not_true, Bool.not_false, opC_eq, eqS, ofB_some, ofNB_some, opC_inS, inS2, inS3, inS4, String.reduceBEq, Bool.or_false, Bool.or_true, Bool.false_or, Bool.true_or, opB_sub, opB_add, opB_band, opB_bor, opB_bxor, opC_lt, opC_le, opC_gt, opC_ge, opC_ne, truR_int, tru_bool, and_low, lenT, List.length_map, List.length_cons, List.length_nil, w0, w1, x0, x1, sh 1 (by omega), eq_int, hd, bi_intb, tru_bool])
    rw [gc_id (by simp)]
    exact ⟨rfl, rfl⟩
  · rw [u_result, c_result]
    have w0 : ∀ m : Mem, idxD (.tup [natD (a), natD (a)]) (.int 0) m = .ok (natD (a)) m := fun m => rfl
    have w1 : ∀ m : Mem, idxD (.tup [natD (a), natD (a)]) (.int 1) m = .ok (natD (a)) m := fun m => rfl
    have x0 : ∀ m : Mem, idxD (.tup [natD (x), natD (y)]) (.int 0) m = .ok (natD (x)) m := fun m => rfl
    have x1 : ∀ m : Mem, idxD (.tup [natD (x), natD (y)]) (.int 1) m = .ok (natD (y)) m := fun m => rfl
    have hi : runF (tabP tab) G (k + 2) "compared_words" [.str "lt", natD (x), natD (y)] m = .ok (.int (0)) m := by
      rw [u_compared_words, c_compared_words]
      refine wp_eq ?_
      rw [wp_fin]
      repeat (refine step ?_; simp only [dE_var, dE_lit, dE_bin, dE_neg, dE_inv, dE_cmp, dE_chain, dE_and, dE_or, dE_not, dE_ife, dE_tup, dE_lst, dE_idx, dE_slc, dE_call, dE_bi, dE_isin, dE_meth, dE_comp, dE_gc, dE_lrng1, dE_lrng2, dEs_nil, dEs_cons, dO_none, dO_some, dB_and, dB_or, dB_not, dB_val, dBO_none, dBO_some, dI_plain, dI_rng1, dI_rng2, dI_zip, dI_enum, dI_rev, dT_name, dT_tup, dT_sub, dTs_nil, dTs_cons, dS_asg, dS_aug, dS_augS, dS_par3, dS_expr, dS_ret, dS_retN, dS_pass, dS_brk, dS_cont, dS_ite, dS_whl, dS_fr, dSs_nil, Res.ok_bind, Res.bad_bind, Res.ok_to, Res.bad_to, SR.nx_seq, SR.rt_seq, SR.bk_seq, SR.ct_seq, wp_ok, wp_bind, wp_to, swp_nx, swp_rt, swp_bk, swp_ct, swp_seq, wp_fin, fin_rt, fin_nx, wipe_nil, wipe_cons, List.getElem?_cons_zero, List.getElem?_cons_succ, List.set_cons_zero, List.set_cons_succ, List.getElem?_nil, newL_eq, seq_tup, seq_kl, iterD_tup, iterD_kl, iterS_tup, iterS_kl, truR_bool, if_true, Bool.false_eq_true, if_false, Bool.not_true, Bool.not_false, opC_eq, eqS, ofB_some, ofNB_some, opC_inS, inS2, inS3, inS4, String.reduceBEq, Bool.or_false, Bool.or_true, Bool.false_or, Bool.true_or, opB_sub, opB_add, opB_band, opB_bor, opB_bxor, opC_lt, opC_le, opC_gt, opC_ge, opC_ne, truR_int, tru_bool, and_low, lenT, List.length_map, List.length_cons, List.length_nil, eq_int, hd])
      first | rw [gc_id (by simp)] | skip
      exact ⟨by first | rfl | simp, rfl⟩
    refine wp_eq ?_
    rw [wp_fin]
    repeat (refine step ?_; simp only [dE_var, dE_lit, dE_bin, dE_neg, dE_inv, dE_cmp, dE_chain, dE_and, dE_or, dE_not, dE_ife, dE_tup, dE_lst, dE_idx, dE_slc, dE_call, dE_bi, dE_isin, dE_meth, dE_comp, dE_gc, dE_lrng1, dE_lrng2, dEs_nil, dEs_cons, dO_none, dO_some, dB_and, dB_or, dB_not, dB_val, dBO_none, dBO_some, dI_plain, dI_rng1, dI_rng2, dI_zip, dI_enum, dI_rev, dT_name, dT_tup, dT_sub, dTs_nil, dTs_cons, dS_asg, dS_aug, dS_augS, dS_par3, dS_expr, dS_ret, dS_retN, dS_pass, dS_brk, dS_cont, dS_ite, dS_whl, dS_fr, dSs_nil, Res.ok_bind, Res.bad_bind, Res.ok_to, Res.bad_to, SR.nx_seq, SR.rt_seq, SR.bk_seq, SR.ct_seq, wp_ok, wp_bind, wp_to, swp_nx, swp_rt, swp_bk, swp_ct, swp_seq, wp_fin, fin_rt, fin_nx, wipe_nil, wipe_cons, List.getElem?_cons_zero, List.getElem?_cons_succ, List.set_cons_zero, List.set_cons_succ, List.getElem?_nil, newL_eq, seq_tup, seq_kl, iterD_tup, iterD_kl, iterS_tup, iterS_kl, truR_bool, if_true, Bool.false_eq_true, if_false, Bool.not_true, Bool.not_false, opC_eq, eqS, ofB_some, ofNB_some, opC_inS, inS2, inS3, inS4, String.reduceBEq, Bool.or_false, Bool.or_true, Bool.false_or, Bool.true_or, opB_sub, opB_add, opB_band, opB_bor, opB_bxor, opC_lt, opC_le, opC_gt, opC_ge, opC_ne, truR_int, tru_bool, and_low, lenT, List.length_map, List.length_cons, List.length_nil, List.map_cons, List.map_nil, Int.reduceEq, eq_int, w0, w1, x0, x1, hi, sh (1) (by omega)])
    rw [gc_id (by simp)]
    exact ⟨rfl, rfl⟩
theorem p_lt1 {a x y : Nat} (ha : a ≤ 8) (h0 : 0 < a) (hc : ((x : Int) < y)) : P "lt" 1 [a,a] [x,y] 0 := by
  have hd : decide ((x : Int) < y) = true := by simp only [decide_eq_true_eq, decide_eq_false_iff_not]; exact hc
  refine ⟨1, fun G k ra rb m h1 h2 => ⟨?_, ?_⟩⟩
  · rw [u_l_word, c_l_word]
    have w0 : idxD (.ref ra) (.int 0) m = .ok (natD (a)) m := idxL (j := 0) h1 rfl
    have w1 : idxD (.ref ra) (.int 1) m = .ok (natD (a)) m := idxL (j := 1) h1 rfl
    have x0 : idxD (.ref rb) (.int 0) m = .ok (natD (x)) m := idxL (j := 0) h2 rfl
    have x1 : idxD (.ref rb) (.int 1) m = .ok (natD (y)) m := idxL (j := 1) h2 rfl
    refine wp_eq ?_
    rw [wp_fin]
    repeat (refine step ?_; simp only [dE_var, dE_lit, dE_bin, dE_neg, dE_inv, dE_cmp, dE_chain, dE_and, dE_or, dE_not, dE_ife, dE_tup, dE_lst, dE_idx, dE_slc, dE_call, dE_bi, dE_isin, dE_meth, dE_comp, dE_gc, dE_lrng1, dE_lrng2, dEs_nil, dEs_cons, dO_none, dO_some, dB_and, dB_or, dB_not, dB_val, dBO_none, dBO_some, dI_plain, dI_rng1, dI_rng2, dI_zip, dI_enum, dI_rev, dT_name, dT_tup, dT_sub, dTs_nil, dTs_cons, dS_asg, dS_aug, dS_augS, dS_par3, dS_expr, dS_ret, dS_retN, dS_pass, dS_brk, dS_cont, dS_ite, dS_whl, dS_fr, dSs_nil, Res.ok_bind, Res.bad_bind, Res.ok_to, Res.bad_to, SR.nx_seq, SR.rt_seq, SR.bk_seq, SR.ct_seq, wp_ok, wp_bind, wp_to, swp_nx, swp_rt, swp_bk, swp_ct, swp_seq, wp_fin, fin_rt, fin_nx, wipe_nil, wipe_cons, List.getElem?_cons_zero, List.getElem?_cons_succ, List.set_cons_zero, List.set_cons_succ, List.getElem?_nil, newL_eq, seq_tup, seq_kl, iterD_tup, iterD_kl, iterS_tup, iterS_kl, truR_bool, if_true, Bool.false_eq_true, if_false, Bool.not_true, Bool.not_false, opC_eq, eqS, ofB_some, ofNB_some, opC_inS, inS2, inS3, inS4, String.reduceBEq, Bool.or_false, Bool.or_true, Bool.false_or, Bool.true_or, opB_sub, opB_add, opB_band, opB_bor, opB_bxor, opC_lt, opC_le, opC_gt, opC_ge, opC_ne, truR_int, tru_bool, and_low, lenT, List.length_map, List.length_cons, List.length_nil, w0, w1, x0, x1, sh 1 (by omega), eq_int, hd, bi_intb, tru_bool])
    rw [gc_id (by simp)]
    exact ⟨rfl, rfl⟩
  · rw [u_result, c_result]
    have w0 : ∀ m : Mem, idxD (.tup [natD (a), natD (a)]) (.int 0) m = .ok (natD (a)) m := fun m => rfl
    have w1 : ∀ m : Mem, idxD (.tup [natD (a), natD (a)]) (.int 1) m = .ok (natD (a)) m := fun m => rfl
    have x0 : ∀ m : Mem, idxD (.tup [natD (x), natD (y)]) (.int 0) m = .ok (natD (x)) m := fun m => rfl
    have x1 : ∀ m : Mem, idxD (.tup [natD (x), natD (y)]) (.int 1) m = .ok (natD (y)) m := fun m => rfl
    have hi : runF (tabP tab) G (k + 2) "compared_words" [.str "lt", natD (x), natD (y)] m = .ok (.int (1)) m := by
      rw [u_compared_words, c_compared_words]
      refine wp_eq ?_
      rw [wp_fin]
      repeat (refine step ?_; simp only [dE_var, dE_lit, dE_bin, dE_neg, dE_inv, dE_cmp, dE_chain, dE_and, dE_or, dE_not, dE_ife, dE_tup, dE_lst, dE_idx, dE_slc, dE_call, dE_bi, dE_isin, dE_meth, dE_comp, dE_gc, dE_lrng1, dE_lrng2, dEs_nil, dEs_cons, dO_none, dO_some, dB_and, dB_or, dB_not, dB_val, dBO_none, dBO_some, dI_plain, dI_rng1, dI_rng2, dI_zip, dI_enum, dI_rev, dT_name, dT_tup, dT_sub, dTs_nil, dTs_cons, dS_asg, dS_aug, dS_augS, dS_par3, dS_expr, dS_ret, dS_retN, dS_pass, dS_brk, dS_cont, dS_ite, dS_whl, dS_fr, dSs_nil, Res.ok_bind, Res.bad_bind, Res.ok_to, Res.bad_to, SR.nx_seq, SR.rt_seq, SR.bk_seq, SR.ct_seq, wp_ok, wp_bind, wp_to, swp_nx, swp_rt, swp_bk, swp_ct, swp_seq, wp_fin, fin_rt, fin_nx, wipe_nil, wipe_cons, List.getElem?_cons_zero, List.getElem?_cons_succ, List.set_cons_zero, List.set_cons_succ, List.getElem?_nil, newL_eq, seq_tup, seq_kl, iterD_tup, iterD_kl, iterS_tup, iterS_kl, truR_bool, if_true, Bool.false_eq_true, if_false, Bool.not_true, Bool.not_false, opC_eq, eqS, ofB_some, ofNB_some, opC_inS, inS2, inS3, inS4, String.reduceBEq, Bool.or_false, Bool.or_true, Bool.false_or, Bool.true_or, opB_sub, opB_add, opB_band, opB_bor, opB_bxor, opC_lt, opC_le, opC_gt, opC_ge, opC_ne, truR_int, tru_bool, and_low, lenT, List.length_map, List.length_cons, List.length_nil, eq_int, hd])
      first | rw [gc_id (by simp)] | skip
      exact ⟨by first | rfl | simp, rfl⟩
    refine wp_eq ?_
    rw [wp_fin]
    repeat (refine step ?_; simp only [dE_var, dE_lit, dE_bin, dE_neg, dE_inv, dE_cmp, dE_chain, dE_and, dE_or, dE_not, dE_ife, dE_tup, dE_lst, dE_idx, dE_slc, dE_call, dE_bi, dE_isin, dE_meth, dE_comp, dE_gc, dE_lrng1, dE_lrng2, dEs_nil, dEs_cons, dO_none, dO_some, dB_and, dB_or, dB_not, dB_val, dBO_none, dBO_some, dI_plain, dI_rng1, dI_rng2, dI_zip, dI_enum, dI_rev, dT_name, dT_tup, dT_sub, dTs_nil, dTs_cons, dS_asg, dS_aug, dS_augS, dS_par3, dS_expr, dS_ret, dS_retN, dS_pass, dS_brk, dS_cont, dS_ite, dS_whl, dS_fr, dSs_nil, Res.ok_bind, Res.bad_bind, Res.ok_to, Res.bad_to, SR.nx_seq, SR.rt_seq, SR.bk_seq, SR.ct_seq, wp_ok, wp_bind, wp_to, swp_nx, swp_rt, swp_bk, swp_ct, swp_seq, wp_fin, fin_rt, fin_nx, wipe_nil, wipe_cons, List.getElem?_cons_zero, List.getElem?_cons_succ, List.set_cons_zero, List.set_cons_succ, List.getElem?_nil, newL_eq, seq_tup, seq_kl, iterD_tup, iterD_kl, iterS_tup, iterS_kl, truR_bool, if_true, Bool.false_eq_true, if_false, Bool.not_true, Bool.not_false, opC_eq, eqS, ofB_some, ofNB_some, opC_inS, inS2, inS3, inS4, String.reduceBEq, Bool.or_false, Bool.or_true, Bool.false_or, Bool.true_or, opB_sub, opB_add, opB_band, opB_bor, opB_bxor, opC_lt, opC_le, opC_gt, opC_ge, opC_ne, truR_int, tru_bool, and_low, lenT, List.length_map, List.length_cons, List.length_nil, List.map_cons, List.map_nil, Int.reduceEq, eq_int, w0, w1, x0, x1, hi, sh (1) (by omega)])
    rw [gc_id (by simp)]
    exact ⟨rfl, rfl⟩
theorem p_le0 {a x y : Nat} (ha : a ≤ 8) (h0 : 0 < a) (hc : ¬ ((x : Int) ≤ y)) : P "le" 1 [a,a] [x,y] 0 := by
  have hd : decide ((x : Int) ≤ y) = false := by simp only [decide_eq_true_eq, decide_eq_false_iff_not]; exact hc
  refine ⟨0, fun G k ra rb m h1 h2 => ⟨?_, ?_⟩⟩
  · rw [u_l_word, c_l_word]
    have w0 : idxD (.ref ra) (.int 0) m = .ok (natD (a)) m := idxL (j := 0) h1 rfl
    have w1 : idxD (.ref ra) (.int 1) m = .ok (natD (a)) m := idxL (j := 1) h1 rfl
    have x0 : idxD (.ref rb) (.int 0) m = .ok (natD (x)) m := idxL (j := 0) h2 rfl
    have x1 : idxD (.ref rb) (.int 1) m = .ok (natD (y)) m := idxL (j := 1) h2 rfl
    refine wp_eq ?_
    rw [wp_fin]
    repeat (refine step ?_; simp only [dE_var, dE_lit, dE_bin, dE_neg, dE_inv, dE_cmp, dE_chain, dE_and, dE_or, dE_not, dE_ife, dE_tup, dE_lst, dE_idx, dE_slc, dE_call, dE_bi, dE_isin, dE_meth, dE_comp, dE_gc, dE_lrng1, dE_lrng2, dEs_nil, dEs_cons, dO_none, dO_some, dB_and, dB_or, dB_not, dB_val, dBO_none, dBO_some, dI_plain, dI_rng1, dI_rng2, dI_zip, dI_enum, dI_rev, dT_name, dT_tup, dT_sub, dTs_nil, dTs_cons, dS_asg, dS_aug, dS_augS, dS_par3, dS_expr, dS_ret, dS_retN, dS_pass, dS_brk, dS_cont, dS_ite, dS_whl, dS_fr, dSs_nil, Res.ok_bind, Res.bad_bind, Res.ok_to, Res.bad_to, SR.nx_seq, SR.rt_seq, SR.bk_seq, SR.ct_seq, wp_ok, wp_bind, wp_to, swp_nx, swp_rt, swp_bk, swp_ct, swp_seq, wp_fin, fin_rt, fin_nx, wipe_nil, wipe_cons, List.getElem?_cons_zero, List.getElem?_cons_succ, List.set_cons_zero, List.set_cons_succ, List.getElem?_nil, newL_eq, seq_tup, seq_kl, iterD_tup, iterD_kl, iterS_tup, iterS_kl, truR_bool, if_true, Bool.false_eq_true, if_false, Bool.not_true, Bool.not_false, opC_eq, eqS, ofB_some, ofNB_some, opC_inS, inS2, inS3, inS4, String.reduceBEq, Bool.or_false, Bool.or_true, Bool.false_or, Bool.true_or, opB_sub, opB_add, opB_band, opB_bor, opB_bxor, opC_lt, opC_le, opC_gt, opC_ge, opC_ne, truR_int, tru_bool, and_low, lenT, List.length_map, List.length_cons, List.length_nil, w0, w1, x0, x1, sh 1 (by omega), eq_int, hd, bi_intb, tru_bool])
    rw [gc_id (by simp)]
    exact ⟨rfl, rfl⟩
  · rw [u_result, c_result]
    have w0 : ∀ m : Mem, idxD (.tup [natD (a), natD (a)]) (.int 0) m = .ok (natD (a)) m := fun m => rfl
    have w1 : ∀ m : Mem, idxD (.tup [natD (a), natD (a)]) (.int 1) m = .ok (natD (a)) m := fun m => rfl
    have x0 : ∀ m : Mem, idxD (.tup [natD (x), natD (y)]) (.int 0) m = .ok (natD (x)) m := fun m => rfl
    have x1 : ∀ m : Mem, idxD (.tup [natD (x), natD (y)]) (.int 1) m = .ok (natD (y)) m := fun m => rfl
    have hi : runF (tabP tab) G (k + 2) "compared_words" [.str "le", natD (x), natD (y)] m = .ok (.int (0)) m := by
      rw [u_compared_words, c_compared_words]
      refine wp_eq ?_
      rw [wp_fin]
      repeat (refine step ?_; simp only [dE_var, dE_lit, dE_bin, dE_neg, dE_inv, dE_cmp, dE_chain, dE_and, dE_or, dE_not, dE_ife, dE_tup, dE_lst, dE_idx, dE_slc, dE_call, dE_bi, dE_isin, dE_meth, dE_comp, dE_gc, dE_lrng1, dE_lrng2, dEs_nil, dEs_cons, dO_none, dO_some, dB_and, dB_or, dB_not, dB_val, dBO_none, dBO_some, dI_plain, dI_rng1, dI_rng2, dI_zip, dI_enum, dI_rev, dT_name, dT_tup, dT_sub, dTs_nil, dTs_cons, dS_asg, dS_aug, dS_augS, dS_par3, dS_expr, dS_ret, dS_retN, dS_pass, dS_brk, dS_cont, dS_ite, dS_whl, dS_fr, dSs_nil, Res.ok_bind, Res.bad_bind, Res.ok_to, Res.bad_to, SR.nx_seq, SR.rt_seq, SR.bk_seq, SR.ct_seq, wp_ok, wp_bind, wp_to, swp_nx, swp_rt, swp_bk, swp_ct, swp_seq, wp_fin, fin_rt, fin_nx, wipe_nil, wipe_cons, List.getElem?_cons_zero, List.getElem?_cons_succ, List.set_cons_zero, List.set_cons_succ, List.getElem?_nil, newL_eq, seq_tup, seq_kl, iterD_tup, iterD_kl, iterS_tup, iterS_kl, truR_bool, if_true, Bool.false_eq_true, if_false, Bool.not_true, Bool.not_false, opC_eq, eqS, ofB_some, ofNB_some, opC_inS, inS2, inS3, inS4, String.reduceBEq, Bool.or_false, Bool.or_true, Bool.false_or, Bool.true_or, opB_sub, opB_add, opB_band, opB_bor, opB_bxor, opC_lt, opC_le, opC_gt, opC_ge, opC_ne, truR_int, tru_bool, and_low, lenT, List.length_map, List.length_cons, List.length_nil, eq_int, hd])
      first | rw [gc_id (by simp)] | skip
      exact ⟨by first | rfl | simp, rfl⟩
    refine wp_eq ?_
    rw [wp_fin]
    repeat (refine step ?_; simp only [dE_var, dE_lit, dE_bin, dE_neg, dE_inv, dE_cmp, dE_chain, dE_and, dE_or, dE_not, dE_ife, dE_tup, dE_lst, dE_idx, dE_slc, dE_call, dE_bi, dE_isin, dE_meth, dE_comp, dE_gc, dE_lrng1, dE_lrng2, dEs_nil, dEs_cons, dO_none, dO_some, dB_and, dB_or, dB_not, dB_val, dBO_none, dBO_some, dI_plain, dI_rng1, dI_rng2, dI_zip, dI_enum, dI_rev, dT_name, dT_tup, dT_sub, dTs_nil, dTs_cons, dS_asg, dS_aug, dS_augS, dS_par3, dS_expr, dS_ret, dS_retN, dS_pass, dS_brk, dS_cont, dS_ite, dS_whl, dS_fr, dSs_nil, Res.ok_bind, Res.bad_bind, Res.ok_to, Res.bad_to, SR.nx_seq, SR.rt_seq, SR.bk_seq, SR.ct_seq, wp_ok, wp_bind, wp_to, swp_nx, swp_rt, swp_bk, swp_ct, swp_seq, wp_fin, fin_rt, fin_nx, wipe_nil, wipe_cons, List.getElem?_cons_zero, List.getElem?_cons_succ, List.set_cons_zero, List.set_cons_succ, List.getElem?_nil, newL_eq, seq_tup, seq_kl, iterD_tup, iterD_kl, iterS_tup, iterS_kl, truR_bool, if_true, Bool.false_eq_true, if_false, Bool.not_true, Bool.not_false, opC_eq, eqS, ofB_some, ofNB_some, opC_inS, inS2, inS3, inS4, String.reduceBEq, Bool.or_false, Bool.or_true, Bool.false_or, Bool.true_or, opB_sub, opB_add, opB_band, opB_bor, opB_bxor, opC_lt, opC_le, opC_gt, opC_ge, opC_ne, truR_int, tru_bool, and_low, lenT, List.length_map, List.length_cons, List.length_nil, List.map_cons, List.map_nil, Int.reduceEq, eq_int, w0, w1, x0, x1, hi, sh (1) (by omega)])
    rw [gc_id (by simp)]
    exact ⟨rfl, rfl⟩
theorem p_le1 {a x y : Nat} (ha : a ≤ 8) (h0 : 0 < a) (hc : ((x : Int) ≤ y)) : P "le" 1 [a,a] [x,y] 0 := by
  have hd : decide ((x : Int) ≤ y) = true := by simp only [decide_eq_true_eq, decide_eq_false_iff_not]; exact hc
  refine ⟨1, fun G k ra rb m h1 h2 => ⟨?_, ?_⟩⟩
  · rw [u_l_word, c_l_word]
    have w0 : idxD (.ref ra) (.int 0) m = .ok (natD (a)) m := idxL (j := 0) h1 rfl
    have w1 : idxD (.ref ra) (.int 1) m = .ok (natD (a)) m := idxL (j := 1) h1 rfl
    have x0 : idxD (.ref rb) (.int 0) m = .ok (natD (x)) m := idxL (j := 0) h2 rfl
    have x1 : idxD (.ref rb) (.int 1) m = .ok (natD (y)) m := idxL (j := 1) h2 rfl
    refine wp_eq ?_
    rw [wp_fin]
    repeat (refine step ?_; simp only [dE_var, dE_lit, dE_bin, dE_neg, dE_inv, dE_cmp, dE_chain, dE_and, dE_or, dE_not, dE_ife, dE_tup, dE_lst, dE_idx, dE_slc, dE_call, dE_bi, dE_isin, dE_meth, dE_comp, dE_gc, dE_lrng1, dE_lrng2, dEs_nil, dEs_cons, dO_none, dO_some, dB_and, dB_or, dB_not, dB_val, dBO_none, dBO_some, dI_plain, dI_rng1, dI_rng2, dI_zip, dI_enum, dI_rev, dT_name, dT_tup, dT_sub, dTs_nil, dTs_cons, dS_asg, dS_aug, dS_augS, dS_par3, dS_expr, dS_ret, dS_retN, dS_pass, dS_brk, dS_cont, dS_ite, dS_whl, dS_fr, dSs_nil, Res.ok_bind, Res.bad_bind, Res.ok_to, Res.bad_to, SR.nx_seq, SR.rt_seq, SR.bk_seq, SR.ct_seq, wp_ok, wp_bind, wp_to, swp_nx, swp_rt, swp_bk, swp_ct, swp_seq, wp_fin, fin_rt, fin_nx, wipe_nil, wipe_cons, List.getElem?_cons_zero, List.getElem?_cons_succ, List.set_cons_zero, List.set_cons_succ, List.getElem?_nil, newL_eq, seq_tup, seq_kl, iterD_tup, iterD_kl, iterS_tup, iterS_kl, truR_bool, if_true, Bool.false_eq_true, if_false, Bool.not_true, Bool.not_false, opC_eq, eqS, ofB_some, ofNB_some, opC_inS, inS2, inS3, inS4, String.reduceBEq, Bool.or_false, Bool.or_true, Bool.false_or, Bool.true_or, opB_sub, opB_add, opB_band, opB_bor, opB_bxor, opC_lt, opC_le, opC_gt, opC_ge, opC_ne, truR_int, tru_bool, and_low, lenT, List.length_map, List.length_cons, List.length_nil, w0, w1, x0, x1, sh 1 (by omega), eq_int, hd, bi_intb, tru_bool])
    rw [gc_id (by simp)]
    exact ⟨rfl, rfl⟩
  · rw [u_result, c_result]
    have w0 : ∀ m : Mem, idxD (.tup [natD (a), natD (a)]) (.int 0) m = .ok (natD (a)) m := fun m => rfl
    have w1 : ∀ m : Mem, idxD (.tup [natD (a), natD (a)]) (.int 1) m = .ok (natD (a)) m := fun m => rfl
    have x0 : ∀ m : Mem, idxD (.tup [natD (x), natD (y)]) (.int 0) m = .ok (natD (x)) m := fun m => rfl
    have x1 : ∀ m : Mem, idxD (.tup [natD (x), natD (y)]) (.int 1) m = .ok (natD (y)) m := fun m => rfl
    have hi : runF (tabP tab) G (k + 2) "compared_words" [.str "le", natD (x), natD (y)] m = .ok (.int (1)) m := by
      rw [u_compared_words, c_compared_words]
      refine wp_eq ?_
      rw [wp_fin]
      repeat (refine step ?_; simp only [dE_var, dE_lit, dE_bin, dE_neg, dE_inv, dE_cmp, dE_chain, dE_and, dE_or, dE_not, dE_ife, dE_tup, dE_lst, dE_idx, dE_slc, dE_call, dE_bi, dE_isin, dE_meth, dE_comp, dE_gc, dE_lrng1, dE_lrng2, dEs_nil, dEs_cons, dO_none, dO_some, dB_and, dB_or, dB_not, dB_val, dBO_none, dBO_some, dI_plain, dI_rng1, dI_rng2, dI_zip, dI_enum, dI_rev, dT_name, dT_tup, dT_sub, dTs_nil, dTs_cons, dS_asg, dS_aug, dS_augS, dS_par3, dS_expr, dS_ret, dS_retN, dS_pass, dS_brk, dS_cont, dS_ite, dS_whl, dS_fr, dSs_nil, Res.ok_bind, Res.bad_bind, Res.ok_to, Res.bad_to, SR.nx_seq, SR.rt_seq, SR.bk_seq, SR.ct_seq, wp_ok, wp_bind, wp_to, swp_nx, swp_rt, swp_bk, swp_ct, swp_seq, wp_fin, fin_rt, fin_nx, wipe_nil, wipe_cons, List.getElem?_cons_zero, List.getElem?_cons_succ, List.set_cons_zero, List.set_cons_succ, List.getElem?_nil, newL_eq, seq_tup, seq_kl, iterD_tup, iterD_kl, iterS_tup, iterS_kl, truR_bool, if_true, Bool.false_eq_true, if_false, Bool.not_true, Bool.not_false, opC_eq, eqS, ofB_some, ofNB_some, opC_inS, inS2, inS3, inS4, String.reduceBEq, Bool.or_false, Bool.or_true, Bool.false_or, Bool.true_or, opB_sub, opB_add, opB_band, opB_bor, opB_bxor, opC_lt, opC_le, opC_gt, opC_ge, opC_ne, truR_int, tru_bool, and_low, lenT, List.length_map, List.length_cons, List.length_nil, eq_int, hd])
      first | rw [gc_id (by simp)] | skip
      exact ⟨by first | rfl | simp, rfl⟩
    refine wp_eq ?_
    rw [wp_fin]
    repeat (refine step ?_; simp only [dE_var, dE_lit, dE_bin, dE_neg, dE_inv, dE_cmp, dE_chain, dE_and, dE_or, dE_not, dE_ife, dE_tup, dE_lst, dE_idx, dE_slc, dE_call, dE_bi, dE_isin, dE_meth, dE_comp, dE_gc, dE_lrng1, dE_lrng2, dEs_nil, dEs_cons, dO_none, dO_some, dB_and, dB_or, dB_not, dB_val, dBO_none, dBO_some, dI_plain, dI_rng1, dI_rng2, dI_zip, dI_enum, dI_rev, dT_name, dT_tup, dT_sub, dTs_nil, dTs_cons, dS_asg, dS_aug, dS_augS, dS_par3, dS_expr, dS_ret, dS_retN, dS_pass, dS_brk, dS_cont, dS_ite, dS_whl, dS_fr, dSs_nil, Res.ok_bind, Res.bad_bind, Res.ok_to, Res.bad_to, SR.nx_seq, SR.rt_seq, SR.bk_seq, SR.ct_seq, wp_ok, wp_bind, wp_to, swp_nx, swp_rt, swp_bk, swp_ct, swp_seq, wp_fin, fin_rt, fin_nx, wipe_nil, wipe_cons, List.getElem?_cons_zero, List.getElem?_cons_succ, List.set_cons_zero, List.set_cons_succ, List.getElem?_nil, newL_eq, seq_tup, seq_kl, iterD_tup, iterD_kl, iterS_tup, iterS_kl, truR_bool, if_true, Bool.false_eq_true, if_false, Bool.not_true, Bool.not_false, opC_eq, eqS, ofB_some, ofNB_some, opC_inS, inS2, inS3, inS4, String.reduceBEq, Bool.or_false, Bool.or_true, Bool.false_or, Bool.true_or, opB_sub, opB_add, opB_band, opB_bor, opB_bxor, opC_lt, opC_le, opC_gt, opC_ge, opC_ne, truR_int, tru_bool, and_low, lenT, List.length_map, List.length_cons, List.length_nil, List.map_cons, List.map_nil, Int.reduceEq, eq_int, w0, w1, x0, x1, hi, sh (1) (by omega)])
    rw [gc_id (by simp)]
    exact ⟨rfl, rfl⟩
theorem p_eq0 {a x y : Nat} (ha : a ≤ 8) (h0 : 0 < a) (hc : ¬ ((x : Int) = y)) : P "eq" 1 [a,a] [x,y] 0 := by
  have hd : decide ((x : Int) = y) = false := by simp only [decide_eq_true_eq, decide_eq_false_iff_not]; exact hc
  refine ⟨0, fun G k ra rb m h1 h2 => ⟨?_, ?_⟩⟩
  · rw [u_l_word, c_l_word]
    have w0 : idxD (.ref ra) (.int 0) m = .ok (natD (a)) m := idxL (j := 0) h1 rfl
    have w1 : idxD (.ref ra) (.int 1) m = .ok (natD (a)) m := idxL (j := 1) h1 rfl
    have x0 : idxD (.ref rb) (.int 0) m = .ok (natD (x)) m := idxL (j := 0) h2 rfl
    have x1 : idxD (.ref rb) (.int 1) m = .ok (natD (y)) m := idxL (j := 1) h2 rfl
    refine wp_eq ?_
    rw [wp_fin]
    repeat (refine step ?_; simp only [dE_var, dE_lit, dE_bin, dE_neg, dE_inv, dE_cmp, dE_chain, dE_and, dE_or, dE_not, dE_ife, dE_tup, dE_lst, dE_idx, dE_slc, dE_call, dE_bi, dE_isin, dE_meth, dE_comp, dE_gc, dE_lrng1, dE_lrng2, dEs_nil, dEs_cons, dO_none, dO_some, dB_and, dB_or, dB_not, dB_val, dBO_none, dBO_some, dI_plain, dI_rng1, dI_rng2, dI_zip, dI_enum, dI_rev, dT_name, dT_tup, dT_sub, dTs_nil, dTs_cons, dS_asg, dS_aug, dS_augS, dS_par3, dS_expr, dS_ret, dS_retN, dS_pass, dS_brk, dS_cont, dS_ite, dS_whl, dS_fr, dSs_nil, Res.ok_bind, Res.bad_bind, Res.ok_to, Res.bad_to, SR.nx_seq, SR.rt_seq, SR.bk_seq, SR.ct_seq, wp_ok, wp_bind, wp_to, swp_nx, swp_rt, swp_bk, swp_ct, swp_seq, wp_fin, fin_rt, fin_nx, wipe_nil, wipe_cons, List.getElem?_cons_zero, List.getElem?_cons_succ, List.set_cons_zero, List.set_cons_succ, List.getElem?_nil, newL_eq, seq_tup, seq_kl, iterD_tup, iterD_kl, iterS_tup, iterS_kl, truR_bool, if_true, Bool.false_eq_true, if_false, Bool.not_true, Bool.not_false, opC_eq, eqS, ofB_some, ofNB_some, opC_inS, inS2, inS3, inS4, String.reduceBEq, Bool.or_false, Bool.or_true, Bool.false_or, Bool.true_or, opB_sub, opB_add, opB_band, opB_bor, opB_bxor, opC_lt, opC_le, opC_gt, opC_ge, opC_ne, truR_int, tru_bool, and_low, lenT, List.length_map, List.length_cons, List.length_nil, w0, w1, x0, x1, sh 1 (by omega), eq_int, hd, bi_intb, tru_bool])
    rw [gc_id (by simp)]
    exact ⟨rfl, rfl⟩
  · rw [u_result, c_result]
    have w0 : ∀ m : Mem, idxD (.tup [natD (a), natD (a)]) (.int 0) m = .ok (natD (a)) m := fun m => rfl
    have w1 : ∀ m : Mem, idxD (.tup [natD (a), natD (a)]) (.int 1) m = .ok (natD (a)) m := fun m => rfl
    have x0 : ∀ m : Mem, idxD (.tup [natD (x), natD (y)]) (.int 0) m = .ok (natD (x)) m := fun m => rfl
    have x1 : ∀ m : Mem, idxD (.tup [natD (x), natD (y)]) (.int 1) m = .ok (natD (y)) m := fun m => rfl
    have hi : runF (tabP tab) G (k + 2) "compared_words" [.str "eq", natD (x), natD (y)] m = .ok (.int (0)) m := by
      rw [u_compared_words, c_compared_words]
      refine wp_eq ?_
      rw [wp_fin]
      repeat (refine step ?_; simp only [dE_var, dE_lit, dE_bin, dE_neg, dE_inv, dE_cmp, dE_chain, dE_and, dE_or, dE_not, dE_ife, dE_tup, dE_lst, dE_idx, dE_slc, dE_call, dE_bi, dE_isin, dE_meth, dE_comp, dE_gc, dE_lrng1, dE_lrng2, dEs_nil, dEs_cons, dO_none, dO_some, dB_and, dB_or, dB_not, dB_val, dBO_none, dBO_some, dI_plain, dI_rng1, dI_rng2, dI_zip, dI_enum, dI_rev, dT_name, dT_tup, dT_sub, dTs_nil, dTs_cons, dS_asg, dS_aug, dS_augS, dS_par3, dS_expr, dS_ret, dS_retN, dS_pass, dS_brk, dS_cont, dS_ite, dS_whl, dS_fr, dSs_nil, Res.ok_bind, Res.bad_bind, Res.ok_to, Res.bad_to, SR.nx_seq, SR.rt_seq, SR.bk_seq, SR.ct_seq, wp_ok, wp_bind, wp_to, swp_nx, swp_rt, swp_bk, swp_ct, swp_seq, wp_fin, fin_rt, fin_nx, wipe_nil, wipe_cons, List.getElem?_cons_zero, List.getElem?_cons_succ, List.set_cons_zero, List.set_cons_succ, List.getElem?_nil, newL_eq, seq_tup, seq_kl, iterD_tup, iterD_kl, iterS_tup, iterS_kl, truR_bool, if_true, Bool.false_eq_true, if_false, Bool.not_true, Bool.not_false, opC_eq, eqS, ofB_some, ofNB_some, opC_inS, inS2, inS3, inS4, String.reduceBEq, Bool.or_false, Bool.or_true, Bool.false_or, Bool.true_or, opB_sub, opB_add, opB_band, opB_bor, opB_bxor, opC_lt, opC_le, opC_gt, opC_ge, opC_ne, truR_int, tru_bool, and_low, lenT, List.length_map, List.length_cons, List.length_nil, eq_int, hd])
      first | rw [gc_id (by simp)] | skip
      exact ⟨by first | rfl | simp, rfl⟩
    refine wp_eq ?_
    rw [wp_fin]
    repeat (refine step ?_; simp only [dE_var, dE_lit, dE_bin, dE_neg, dE_inv, dE_cmp, dE_chain, dE_and, dE_or, dE_not, dE_ife, dE_tup, dE_lst, dE_idx, dE_slc, dE_call, dE_bi, dE_isin, dE_meth, dE_comp, dE_gc, dE_lrng1, dE_lrng2, dEs_nil, dEs_cons, dO_none, dO_some, dB_and, dB_or, dB_not, dB_val, dBO_none, dBO_some, dI_plain, dI_rng1, dI_rng2, dI_zip, dI_enum, dI_rev, dT_name, dT_tup, dT_sub, dTs_nil, dTs_cons, dS_asg, dS_aug, dS_augS, dS_par3, dS_expr, dS_ret, dS_retN, dS_pass, dS_brk, dS_cont, dS_ite, dS_whl, dS_fr, dSs_nil, Res.ok_bind, Res.bad_bind, Res.ok_to, Res.bad_to, SR.nx_seq, SR.rt_seq, SR.bk_seq, SR.ct_seq, wp_ok, wp_bind, wp_to, swp_nx, swp_rt, swp_bk, swp_ct, swp_seq, wp_fin, fin_rt, fin_nx, wipe_nil, wipe_cons, List.getElem?_cons_zero, List.getElem?_cons_succ, List.set_cons_zero, List.set_cons_succ, List.getElem?_nil, newL_eq, seq_tup, seq_kl, iterD_tup, iterD_kl, iterS_tup, iterS_kl, truR_bool, if_true, Bool.false_eq_true, if_false, Bool.not_true, Bool.not_false, opC_eq, eqS, ofB_some, ofNB_some, opC_inS, inS2, inS3, inS4, String.reduceBEq, Bool.or_false, Bool.or_true, Bool.false_or, Bool.true_or, opB_sub, opB_add, opB_band, opB_bor, opB_bxor, opC_lt, opC_le, opC_gt, opC_ge, opC_ne, truR_int, tru_bool, and_low, lenT, List.length_map, List.length_cons, List.length_nil, List.map_cons, List.map_nil, Int.reduceEq, eq_int, w0, w1, x0, x1, hi, sh (1) (by omega)])
    rw [gc_id (by simp)]
    exact ⟨rfl, rfl⟩
theorem p_eq1 {a x y : Nat} (ha : a ≤ 8) (h0 : 0 < a) (hc : ((x : Int) = y)) : P "eq" 1 [a,a] [x,y] 0 := by
  have hd : decide ((x : Int) = y) = true := by simp only [decide_eq_true_eq, decide_eq_false_iff_not]; exact hc
  refine ⟨1, fun G k ra rb m h1 h2 => ⟨?_, ?_⟩⟩
  · rw [u_l_word, c_l_word]
    have w0 : idxD (.ref ra) (.int 0) m = .ok (natD (a)) m := idxL (j := 0) h1 rfl
    have w1 : idxD (.ref ra) (.int 1) m = .ok (natD (a)) m := idxL (j := 1) h1 rfl
    have x0 : idxD (.ref rb) (.int 0) m = .ok (natD (x)) m := idxL (j := 0) h2 rfl
    have x1 : idxD (.ref rb) (.int 1) m = .ok (natD (y)) m := idxL (j := 1) h2 rfl
    refine wp_eq ?_
    rw [wp_fin]
    repeat (refine step ?_; simp only [dE_var, dE_lit, dE_bin, dE_neg, dE_inv, dE_cmp, dE_chain, dE_and, dE_or, dE_not, dE_ife, dE_tup, dE_lst, dE_idx, dE_slc, dE_call, dE_bi, dE_isin, dE_meth, dE_comp, dE_gc, dE_lrng1, dE_lrng2, dEs_nil, dEs_cons, dO_none, dO_some, dB_and, dB_or, dB_not, dB_val, dBO_none, dBO_some, dI_plain, dI_rng1, dI_rng2, dI_zip, dI_enum, dI_rev, dT_name, dT_tup, dT_sub, dTs_nil, dTs_cons, dS_asg, dS_aug, dS_augS, dS_par3, dS_expr, dS_ret, dS_retN, dS_pass, dS_brk, dS_cont, dS_ite, dS_whl, dS_fr, dSs_nil, Res.ok_bind, Res.bad_bind, Res.ok_to, Res.bad_to, SR.nx_seq, SR.rt_seq, SR.bk_seq, SR.ct_seq, wp_ok, wp_bind, wp_to, swp_nx, swp_rt, swp_bk, swp_ct, swp_seq, wp_fin, fin_rt, fin_nx, wipe_nil, wipe_cons, List.getElem?_cons_zero, List.getElem?_cons_succ, List.set_cons_zero, List.set_cons_succ, List.getElem?_nil, newL_eq, seq_tup, seq_kl, iterD_tup, iterD_kl, iterS_tup, iterS_kl, truR_bool, if_true, Bool.false_eq_true, if_false, Bool.not_true, Bool.not_false, opC_eq, eqS, ofB_some, ofNB_some, opC_inS, inS2, inS3, inS4, String.reduceBEq, Bool.or_false, Bool.or_true, Bool.false_or, Bool.true_or, opB_sub, opB_add, opB_band, opB_bor, opB_bxor, opC_lt, opC_le, opC_gt, opC_ge, opC_ne, truR_int, tru_bool, and_low, lenT, List.length_map, List.length_cons, List.length_nil, w0, w1, x0, x1, sh 1 (by omega), eq_int, hd, bi_intb, tru_bool])
    rw [gc_id (by simp)]
    exact ⟨rfl, rfl⟩
  · rw [u_result, c_result]
    have w0 : ∀ m : Mem, idxD (.tup [natD (a), natD (a)]) (.int 0) m = .ok (natD (a)) m := fun m => rfl
    have w1 : ∀ m : Mem, idxD (.tup [natD (a), natD (a)]) (.int 1) m = .ok (natD (a)) m := fun m => rfl
    have x0 : ∀ m : Mem, idxD (.tup [natD (x), natD (y)]) (.int 0) m = .ok (natD (x)) m := fun m => rfl
    have x1 : ∀ m : Mem, idxD (.tup [natD (x), natD (y)]) (.int 1) m = .ok (natD (y)) m := fun m => rfl
    have hi : runF (tabP tab) G (k + 2) "compared_words" [.str "eq", natD (x), natD (y)] m = .ok (.int (1)) m := by
      rw [u_compared_words, c_compared_words]
      refine wp_eq ?_
      rw [wp_fin]
      repeat (refine step ?_; simp only [dE_var, dE_lit, dE_bin, dE_neg, dE_inv, dE_cmp, dE_chain, dE_and, dE_or, dE_not, dE_ife, dE_tup, dE_lst, dE_idx, dE_slc, dE_call, dE_bi, dE_isin, dE_meth, dE_comp, dE_gc, dE_lrng1, dE_lrng2, dEs_nil, dEs_cons, dO_none, dO_some, dB_and, dB_or, dB_not, dB_val, dBO_none, dBO_some, dI_plain, dI_rng1, dI_rng2, dI_zip, dI_enum, dI_rev, dT_name, dT_tup, dT_sub, dTs_nil, dTs_cons, dS_asg, dS_aug, dS_augS, dS_par3, dS_expr, dS_ret, dS_retN, dS_pass, dS_brk, dS_cont, dS_ite, dS_whl, dS_fr, dSs_nil, Res.ok_bind, Res.bad_bind, Res.ok_to, Res.bad_to, SR.nx_seq, SR.rt_seq, SR.bk_seq, SR.ct_seq, wp_ok, wp_bind, wp_to, swp_nx, swp_rt, swp_bk, swp_ct, swp_seq, wp_fin, fin_rt, fin_nx, wipe_nil, wipe_cons, List.getElem?_cons_zero, List.getElem?_cons_succ, List.set_cons_zero, List.set_cons_succ, List.getElem?_nil, newL_eq, seq_tup, seq_kl, iterD_tup, iterD_kl, iterS_tup, iterS_kl, truR_bool, if_true, Bool.false_eq_true, if_false, Bool.not_true, Bool.not_false, opC_eq, eqS, ofB_some, ofNB_some, opC_inS, inS2, inS3, inS4, String.reduceBEq, Bool.or_false, Bool.or_true, Bool.false_or, Bool.true_or, opB_sub, opB_add, opB_band, opB_bor, opB_bxor, opC_lt, opC_le, opC_gt, opC_ge, opC_ne, truR_int, tru_bool, and_low, lenT, List.length_map, List.length_cons, List.length_nil, eq_int, hd])
      first | rw [gc_id (by simp)] | skip
      exact ⟨by first | rfl | simp, rfl⟩
    refine wp_eq ?_
    rw [wp_fin]
    repeat (refine step ?_; simp only [dE_var, dE_lit, dE_bin, dE_neg, dE_inv, dE_cmp, dE_chain, dE_and, dE_or, dE_not, dE_ife, dE_tup, dE_lst, dE_idx, dE_slc, dE_call, dE_bi, dE_isin, dE_meth, dE_comp, dE_gc, dE_lrng1, dE_lrng2, dEs_nil, dEs_cons, dO_none, dO_some, dB_and, dB_or, dB_not, dB_val, dBO_none, dBO_some, dI_plain, dI_rng1, dI_rng2, dI_zip, dI_enum, dI_rev, dT_name, dT_tup, dT_sub, dTs_nil, dTs_cons, dS_asg, dS_aug, dS_augS, dS_par3, dS_expr, dS_ret, dS_retN, dS_pass, dS_brk, dS_cont, dS_ite, dS_whl, dS_fr, dSs_nil, Res.ok_bind, Res.bad_bind, Res.ok_to, Res.bad_to, SR.nx_seq, SR.rt_seq, SR.bk_seq, SR.ct_seq, wp_ok, wp_bind, wp_to, swp_nx, swp_rt, swp_bk, swp_ct, swp_seq, wp_fin, fin_rt, fin_nx, wipe_nil, wipe_cons, List.getElem?_cons_zero, List.getElem?_cons_succ, List.set_cons_zero, List.set_cons_succ, List.getElem?_nil, newL_eq, seq_tup, seq_kl, iterD_tup, iterD_kl, iterS_tup, iterS_kl, truR_bool, if_true, Bool.false_eq_true, if_false, Bool.not_true, Bool.not_false, opC_eq, eqS, ofB_some, ofNB_some, opC_inS, inS2, inS3, inS4, String.reduceBEq, Bool.or_false, Bool.or_true, Bool.false_or, Bool.true_or, opB_sub, opB_add, opB_band, opB_bor, opB_bxor, opC_lt, opC_le, opC_gt, opC_ge, opC_ne, truR_int, tru_bool, and_low, lenT, List.length_map, List.length_cons, List.length_nil, List.map_cons, List.map_nil, Int.reduceEq, eq_int, w0, w1, x0, x1, hi, sh (1) (by omega)])
    rw [gc_id (by simp)]
    exact ⟨rfl, rfl⟩
theorem p_ne0 {a x y : Nat} (ha : a ≤ 8) (h0 : 0 < a) (hc : ¬ ((x : Int) = y)) : P "ne" 1 [a,a] [x,y] 0 := by
  have hd : decide ((x : Int) = y) = false := by simp only [decide_eq_true_eq, decide_eq_false_iff_not]; exact hc
  refine ⟨1, fun G k ra rb m h1 h2 => ⟨?_, ?_⟩⟩
  · rw [u_l_word, c_l_word]
    have w0 : idxD (.ref ra) (.int 0) m = .ok (natD (a)) m := idxL (j := 0) h1 rfl
    have w1 : idxD (.ref ra) (.int 1) m = .ok (natD (a)) m := idxL (j := 1) h1 rfl
    have x0 : idxD (.ref rb) (.int 0) m = .ok (natD (x)) m := idxL (j := 0) h2 rfl
    have x1 : idxD (.ref rb) (.int 1) m = .ok (natD (y)) m := idxL (j := 1) h2 rfl
    refine wp_eq ?_
    rw [wp_fin]
    repeat (refine step ?_; simp only [dE_var, dE_lit, dE_bin, dE_neg, dE_inv, dE_cmp, dE_chain, dE_and, dE_or, dE_not, dE_ife, dE_tup, dE_lst, dE_idx, dE_slc, dE_call, dE_bi, dE_isin, dE_meth, dE_comp, dE_gc, dE_lrng1, dE_lrng2, dEs_nil, dEs_cons, dO_none, dO_some, dB_and, dB_or, dB_not, dB_val, dBO_none, dBO_some, dI_plain, dI_rng1, dI_rng2, dI_zip, dI_enum, dI_rev, dT_name, dT_tup, dT_sub, dTs_nil, dTs_cons, dS_asg, dS_aug, dS_augS, dS_par3, dS_expr, dS_ret, dS_retN, dS_pass, dS_brk, dS_cont, dS_ite, dS_whl, dS_fr, dSs_nil, Res.ok_bind, Res.bad_bind, Res.ok_to, Res.bad_to, SR.nx_seq, SR.rt_seq, SR.bk_seq, SR.ct_seq, wp_ok, wp_bind, wp_to, swp_nx, swp_rt, swp_bk, swp_ct, swp_seq, wp_fin, fin_rt, fin_nx, wipe_nil, wipe_cons, List.getElem?_cons_zero, List.getElem?_cons_succ, List.set_cons_zero, List.set_cons_succ, List.getElem?_nil, newL_eq, seq_tup, seq_kl, iterD_tup, iterD_kl, iterS_tup, iterS_kl, truR_bool, if_true, Bool.false_eq_true, if_false, Bool.not_true, Bool.not_false, opC_eq, eqS, ofB_some, ofNB_some, opC_inS, inS2, inS3, inS4, String.reduceBEq, Bool.or_false, Bool.or_true, Bool.false_or, Bool.true_or, opB_sub, opB_add, opB_band, opB_bor, opB_bxor, opC_lt, opC_le, opC_gt, opC_ge, opC_ne, truR_int, tru_bool, and_low, lenT, List.length_map, List.length_cons, List.length_nil, w0, w1, x0, x1, sh 1 (by omega), eq_int, hd, bi_intb, tru_bool])
    rw [gc_id (by simp)]
    exact ⟨rfl, rfl⟩
  · rw [u_result, c_result]
    have w0 : ∀ m : Mem, idxD (.tup [natD (a), natD (a)]) (.int 0) m = .ok (natD (a)) m := fun m => rfl
    have w1 : ∀ m : Mem, idxD (.tup [natD (a), natD (a)]) (.int 1) m = .ok (natD (a)) m := fun m => rfl
    have x0 : ∀ m : Mem, idxD (.tup [natD (x), natD (y)]) (.int 0) m = .ok (natD (x)) m := fun m => rfl
    have x1 : ∀ m : Mem, idxD (.tup [natD (x), natD (y)]) (.int 1) m = .ok (natD (y)) m := fun m => rfl
    have hi : runF (tabP tab) G (k + 2) "compared_words" [.str "ne", natD (x), natD (y)] m = .ok (.int (1)) m := by
      rw [u_compared_words, c_compared_words]
      refine wp_eq ?_
      rw [wp_fin]
      repeat (refine step ?_; simp only [dE_var, dE_lit, dE_bin, dE_neg, dE_inv, dE_cmp, dE_chain, dE_and, dE_or, dE_not, dE_ife, dE_tup, dE_lst, dE_idx, dE_slc, dE_call, dE_bi, dE_isin, dE_meth, dE_comp, dE_gc, dE_lrng1, dE_lrng2, dEs_nil, dEs_cons, dO_none, dO_some, dB_and, dB_or, dB_not, dB_val, dBO_none, dBO_some, dI_plain, dI_rng1, dI_rng2, dI_zip, dI_enum, dI_rev, dT_name, dT_tup, dT_sub, dTs_nil, dTs_cons, dS_asg, dS_aug, dS_augS, dS_par3, dS_expr, dS_ret, dS_retN, dS_pass, dS_brk, dS_cont, dS_ite, dS_whl, dS_fr, dSs_nil, Res.ok_bind, Res.bad_bind, Res.ok_to, Res.bad_to, SR.nx_seq, SR.rt_seq, SR.bk_seq, SR.ct_seq, wp_ok, wp_bind, wp_to, swp_nx, swp_rt, swp_bk, swp_ct, swp_seq, wp_fin, fin_rt, fin_nx, wipe_nil, wipe_cons, List.getElem?_cons_zero, List.getElem?_cons_succ, List.set_cons_zero, List.set_cons_succ, List.getElem?_nil, newL_eq, seq_tup, seq_kl, iterD_tup, iterD_kl, iterS_tup, iterS_kl, truR_bool, if_true, Bool.false_eq_true, if_false, Bool.not_true, Bool.not_false, opC_eq, eqS, ofB_some, ofNB_some, opC_inS, inS2, inS3, inS4, String.reduceBEq, Bool.or_false, Bool.or_true, Bool.false_or, Bool.true_or, opB_sub, opB_add, opB_band, opB_bor, opB_bxor, opC_lt, opC_le, opC_gt, opC_ge, opC_ne, truR_int, tru_bool, and_low, lenT, List.length_map, List.length_cons, List.length_nil, eq_int, hd])
      first | rw [gc_id (by simp)] | skip
      exact ⟨by first | rfl | simp, rfl⟩
    refine wp_eq ?_
    rw [wp_fin]
    repeat (refine step ?_; simp only [dE_var, dE_lit, dE_bin, dE_neg, dE_inv, dE_cmp, dE_chain, dE_and, dE_or, dE_not, dE_ife, dE_tup, dE_lst, dE_idx, dE_slc, dE_call, dE_bi, dE_isin, dE_meth, dE_comp, dE_gc, dE_lrng1, dE_lrng2, dEs_nil, dEs_cons, dO_none, dO_some, dB_and, dB_or, dB_not, dB_val, dBO_none, dBO_some, dI_plain, dI_rng1, dI_rng2, dI_zip, dI_enum, dI_rev, dT_name, dT_tup, dT_sub, dTs_nil, dTs_cons, dS_asg, dS_aug, dS_augS, dS_par3, dS_expr, dS_ret, dS_retN, dS_pass, dS_brk, dS_cont, dS_ite, dS_whl, dS_fr, dSs_nil, Res.ok_bind, Res.bad_bind, Res.ok_to, Res.bad_to, SR.nx_seq, SR.rt_seq, SR.bk_seq, SR.ct_seq, wp_ok, wp_bind, wp_to, swp_nx, swp_rt, swp_bk, swp_ct, swp_seq, wp_fin, fin_rt, fin_nx, wipe_nil, wipe_cons, List.getElem?_cons_zero, List.getElem?_cons_succ, List.set_cons_zero, List.set_cons_succ, List.getElem?_nil, newL_eq, seq_tup, seq_kl, iterD_tup, iterD_kl, iterS_tup, iterS_kl, truR_bool, if_true, Bool.false_eq_true, if_false, Bool.not_true, Bool.not_false, opC_eq, eqS, ofB_some, ofNB_some, opC_inS, inS2, inS3, inS4, String.reduceBEq, Bool.or_false, Bool.or_true, Bool.false_or, Bool.true_or, opB_sub, opB_add, opB_band, opB_bor, opB_bxor, opC_lt, opC_le, opC_gt, opC_ge, opC_ne, truR_int, tru_bool, and_low, lenT, List.length_map, List.length_cons, List.length_nil, List.map_cons, List.map_nil, Int.reduceEq, eq_int, w0, w1, x0, x1, hi, sh (1) (by omega)])
    rw [gc_id (by simp)]
    exact ⟨rfl, rfl⟩
theorem p_ne1 {a x y : Nat} (ha : a ≤ 8) (h0 : 0 < a) (hc : ((x : Int) = y)) : P "ne" 1 [a,a] [x,y] 0 := by
  have hd : decide ((x : Int) = y) = true := by simp only [decide_eq_true_eq, decide_eq_false_iff_not]; exact hc
  refine ⟨0, fun G k ra rb m h1 h2 => ⟨?_, ?_⟩⟩
  · rw [u_l_word, c_l_word]
    have w0 : idxD (.ref ra) (.int 0) m = .ok (natD (a)) m := idxL (j := 0) h1 rfl
    have w1 : idxD (.ref ra) (.int 1) m = .ok (natD (a)) m := idxL (j := 1) h1 rfl
    have x0 : idxD (.ref rb) (.int 0) m = .ok (natD (x)) m := idxL (j := 0) h2 rfl
    have x1 : idxD (.ref rb) (.int 1) m = .ok (natD (y)) m := idxL (j := 1) h2 rfl
    refine wp_eq ?_
    rw [wp_fin]
    repeat (refine step ?_; simp only [dE_var, dE_lit, dE_bin, dE_neg, dE_inv, dE_cmp, dE_chain, dE_and, dE_or, dE_not, dE_ife, dE_tup, dE_lst, dE_idx, dE_slc, dE_call, dE_bi, dE_isin, dE_meth, dE_comp, dE_gc, dE_lrng1, dE_lrng2, dEs_nil, dEs_cons, dO_none, dO_some, dB_and, dB_or, dB_not, dB_val, dBO_none, dBO_some, dI_plain, dI_rng1, dI_rng2, dI_zip, dI_enum, dI_rev, dT_name, dT_tup, dT_sub, dTs_nil, dTs_cons, dS_asg, dS_aug, dS_augS, dS_par3, dS_expr, dS_ret, dS_retN, dS_pass, dS_brk, dS_cont, dS_ite, dS_whl, dS_fr, dSs_nil, Res.ok_bind, Res.bad_bind, Res.ok_to, Res.bad_to, SR.nx_seq, SR.rt_seq, SR.bk_seq, SR.ct_seq, wp_ok, wp_bind, wp_to, swp_nx, swp_rt, swp_bk, swp_ct, swp_seq, wp_fin, fin_rt, fin_nx, wipe_nil, wipe_cons, List.getElem?_cons_zero, List.getElem?_cons_succ, List.set_cons_zero, List.set_cons_succ, List.getElem?_nil, newL_eq, seq_tup, seq_kl, iterD_tup, iterD_kl, iterS_tup, iterS_kl, truR_bool, if_true, Bool.false_eq_true, if_false, Bool.not_true, Bool.not_false, opC_eq, eqS, ofB_some, ofNB_some, opC_inS, inS2, inS3, inS4, String.reduceBEq, Bool.or_false, Bool.or_true, Bool.false_or, Bool.true_or, opB_sub, opB_add, opB_band, opB_bor, opB_bxor, opC_lt, opC_le, opC_gt, opC_ge, opC_ne, truR_int, tru_bool, and_low, lenT, List.length_map, List.length_cons, List.length_nil, w0, w1, x0, x1, sh 1 (by omega), eq_int, hd, bi_intb, tru_bool])
    rw [gc_id (by simp)]
    exact ⟨rfl, rfl⟩
  · rw [u_result, c_result]
    have w0 : ∀ m : Mem, idxD (.tup [natD (a), natD (a)]) (.int 0) m = .ok (natD (a)) m := fun m => rfl
    have w1 : ∀ m : Mem, idxD (.tup [natD (a), natD (a)]) (.int 1) m = .ok (natD (a)) m := fun m => rfl
    have x0 : ∀ m : Mem, idxD (.tup [natD (x), natD (y)]) (.int 0) m = .ok (natD (x)) m := fun m => rfl
    have x1 : ∀ m : Mem, idxD (.tup [natD (x), natD (y)]) (.int 1) m = .ok (natD (y)) m := fun m => rfl
    have hi : runF (tabP tab) G (k + 2) "compared_words" [.str "ne", natD (x), natD (y)] m = .ok (.int (0)) m := by
      rw [u_compared_words, c_compared_words]
      refine wp_eq ?_
      rw [wp_fin]
      repeat (refine step ?_; simp only [dE_var, dE_lit, dE_bin, dE_neg, dE_inv, dE_cmp, dE_chain, dE_and, dE_or, dE_not, dE_ife, dE_tup, dE_lst, dE_idx, dE_slc, dE_call, dE_bi, dE_isin, dE_meth, dE_comp, dE_gc, dE_lrng1, dE_lrng2, dEs_nil, dEs_cons, dO_none, dO_some, dB_and, dB_or, dB_not, dB_val, dBO_none, dBO_some, dI_plain, dI_rng1, dI_rng2, dI_zip, dI_enum, dI_rev, dT_name, dT_tup, dT_sub, dTs_nil, dTs_cons, dS_asg, dS_aug, dS_augS, dS_par3, dS_expr, dS_ret, dS_retN, dS_pass, dS_brk, dS_cont, dS_ite, dS_whl, dS_fr, dSs_nil, Res.ok_bind, Res.bad_bind, Res.ok_to, Res.bad_to, SR.nx_seq, SR.rt_seq, SR.bk_seq, SR.ct_seq, wp_ok, wp_bind, wp_to, swp_nx, swp_rt, swp_bk, swp_ct, swp_seq, wp_fin, fin_rt, fin_nx, wipe_nil, wipe_cons, List.getElem?_cons_zero, List.getElem?_cons_succ, List.set_cons_zero, List.set_cons_succ, List.getElem?_nil, newL_eq, seq_tup, seq_kl, iterD_tup, iterD_kl, iterS_tup, iterS_kl, truR_bool, if_true, Bool.false_eq_true, if_false, Bool.not_true, Bool.not_false, opC_eq, eqS, ofB_some, ofNB_some, opC_inS, inS2, inS3, inS4, String.reduceBEq, Bool.or_false, Bool.or_true, Bool.false_or, Bool.true_or, opB_sub, opB_add, opB_band, opB_bor, opB_bxor, opC_lt, opC_le, opC_gt, opC_ge, opC_ne, truR_int, tru_bool, and_low, lenT, List.length_map, List.length_cons, List.length_nil, eq_int, hd])
      first | rw [gc_id (by simp)] | skip
      exact ⟨by first | rfl | simp, rfl⟩
    refine wp_eq ?_
    rw [wp_fin]
    repeat (refine step ?_; simp only [dE_var, dE_lit, dE_bin, dE_neg, dE_inv, dE_cmp, dE_chain, dE_and, dE_or, dE_not, dE_ife, dE_tup, dE_lst, dE_idx, dE_slc, dE_call, dE_bi, dE_isin, dE_meth, dE_comp, dE_gc, dE_lrng1, dE_lrng2, dEs_nil, dEs_cons, dO_none, dO_some, dB_and, dB_or, dB_not, dB_val, dBO_none, dBO_some, dI_plain, dI_rng1, dI_rng2, dI_zip, dI_enum, dI_rev, dT_name, dT_tup, dT_sub, dTs_nil, dTs_cons, dS_asg, dS_aug, dS_augS, dS_par3, dS_expr, dS_ret, dS_retN, dS_pass, dS_brk, dS_cont, dS_ite, dS_whl, dS_fr, dSs_nil, Res.ok_bind, Res.bad_bind, Res.ok_to, Res.bad_to, SR.nx_seq, SR.rt_seq, SR.bk_seq, SR.ct_seq, wp_ok, wp_bind, wp_to, swp_nx, swp_rt, swp_bk, swp_ct, swp_seq, wp_fin, fin_rt, fin_nx, wipe_nil, wipe_cons, List.getElem?_cons_zero, List.getElem?_cons_succ, List.set_cons_zero, List.set_cons_succ, List.getElem?_nil, newL_eq, seq_tup, seq_kl, iterD_tup, iterD_kl, iterS_tup, iterS_kl, truR_bool, if_true, Bool.false_eq_true, if_false, Bool.not_true, Bool.not_false, opC_eq, eqS, ofB_some, ofNB_some, opC_inS, inS2, inS3, inS4, String.reduceBEq, Bool.or_false, Bool.or_true, Bool.false_or, Bool.true_or, opB_sub, opB_add, opB_band, opB_bor, opB_bxor, opC_lt, opC_le, opC_gt, opC_ge, opC_ne, truR_int, tru_bool, and_low, lenT, List.length_map, List.length_cons, List.length_nil, List.map_cons, List.map_nil, Int.reduceEq, eq_int, w0, w1, x0, x1, hi, sh (1) (by omega)])
    rw [gc_id (by simp)]
    exact ⟨rfl, rfl⟩
theorem p_add {a x y : Nat} (ha : a ≤ 8) (h0 : 0 < a) (hx : x < 2 ^ a) (hy : y < 2 ^ a) : P "add" a [a,a] [x,y] 0 := by
  refine ⟨((x : Int) + y) % 2 ^ a, fun G k ra rb m h1 h2 => ⟨?_, ?_⟩⟩
  · rw [u_l_word, c_l_word]
    have w0 : idxD (.ref ra) (.int 0) m = .ok (natD (a)) m := idxL (j := 0) h1 rfl
    have w1 : idxD (.ref ra) (.int 1) m = .ok (natD (a)) m := idxL (j := 1) h1 rfl
    have x0 : idxD (.ref rb) (.int 0) m = .ok (natD (x)) m := idxL (j := 0) h2 rfl
    have x1 : idxD (.ref rb) (.int 1) m = .ok (natD (y)) m := idxL (j := 1) h2 rfl
    refine wp_eq ?_
    rw [wp_fin]
    repeat (refine step ?_; simp only [dE_var, dE_lit, dE_bin, dE_neg, dE_inv, dE_cmp, dE_chain, dE_and, dE_or, dE_not, dE_ife, dE_tup, dE_lst, dE_idx, dE_slc, dE_call, dE_bi, dE_isin, dE_meth, dE_comp, dE_gc, dE_lrng1, dE_lrng2, dEs_nil, dEs_cons, dO_none, dO_some, dB_and, dB_or, dB_not, dB_val, dBO_none, dBO_some, dI_plain, dI_rng1, dI_rng2, dI_zip, dI_enum, dI_rev, dT_name, dT_tup, dT_sub, dTs_nil, dTs_cons, dS_asg, dS_aug, dS_augS, dS_par3, dS_expr, dS_ret, dS_retN, dS_pass, dS_brk, dS_cont, dS_ite, dS_whl, dS_fr, dSs_nil, Res.ok_bind, Res.bad_bind, Res.ok_to, Res.bad_to, SR.nx_seq, SR.rt_seq, SR.bk_seq, SR.ct_seq, wp_ok, wp_bind, wp_to, swp_nx, swp_rt, swp_bk, swp_ct, swp_seq, wp_fin, fin_rt, fin_nx, wipe_nil, wipe_cons, List.getElem?_cons_zero, List.getElem?_cons_succ, List.set_cons_zero, List.set_cons_succ, List.getElem?_nil, newL_eq, seq_tup, seq_kl, iterD_tup, iterD_kl, iterS_tup, iterS_kl, truR_bool, if_true, Bool.false_eq_true, if_false, Bool.not_true, Bool.not_false, opC_eq, eqS, ofB_some, ofNB_some, opC_inS, inS2, inS3, inS4, String.reduceBEq, Bool.or_false, Bool.or_true, Bool.false_or, Bool.true_or, opB_sub, opB_add, opB_band, opB_bor, opB_bxor, opC_lt, opC_le, opC_gt, opC_ge, opC_ne, truR_int, tru_bool, and_low, lenT, List.length_map, List.length_cons, List.length_nil, w0, w1, x0, x1, sh a (by omega)])
    rw [gc_id (by simp)]
    exact ⟨rfl, rfl⟩
  · rw [u_result, c_result]
    have w0 : ∀ m : Mem, idxD (.tup [natD (a), natD (a)]) (.int 0) m = .ok (natD (a)) m := fun m => rfl
    have w1 : ∀ m : Mem, idxD (.tup [natD (a), natD (a)]) (.int 1) m = .ok (natD (a)) m := fun m => rfl
    have x0 : ∀ m : Mem, idxD (.tup [natD (x), natD (y)]) (.int 0) m = .ok (natD (x)) m := fun m => rfl
    have x1 : ∀ m : Mem, idxD (.tup [natD (x), natD (y)]) (.int 1) m = .ok (natD (y)) m := fun m => rfl
    have hi : runF (tabP tab) G (k + 2) "of_two" [.str "add", natD (x), natD (y)] m = .ok (.int ((x : Int) + y)) m := by
      rw [u_of_two, c_of_two]
      refine wp_eq ?_
      rw [wp_fin]
      repeat (refine step ?_; simp only [dE_var, dE_lit, dE_bin, dE_neg, dE_inv, dE_cmp, dE_chain, dE_and, dE_or, dE_not, dE_ife, dE_tup, dE_lst, dE_idx, dE_slc, dE_call, dE_bi, dE_isin, dE_meth, dE_comp, dE_gc, dE_lrng1, dE_lrng2, dEs_nil, dEs_cons, dO_none, dO_some, dB_and, dB_or, dB_not, dB_val, dBO_none, dBO_some, dI_plain, dI_rng1, dI_rng2, dI_zip, dI_enum, dI_rev, dT_name, dT_tup, dT_sub, dTs_nil, dTs_cons, dS_asg, dS_aug, dS_augS, dS_par3, dS_expr, dS_ret, dS_retN, dS_pass, dS_brk, dS_cont, dS_ite, dS_whl, dS_fr, dSs_nil, Res.ok_bind, Res.bad_bind, Res.ok_to, Res.bad_to, SR.nx_seq, SR.rt_seq, SR.bk_seq, SR.ct_seq, wp_ok, wp_bind, wp_to, swp_nx, swp_rt, swp_bk, swp_ct, swp_seq, wp_fin, fin_rt, fin_nx, wipe_nil, wipe_cons, List.getElem?_cons_zero, List.getElem?_cons_succ, List.set_cons_zero, List.set_cons_succ, List.getElem?_nil, newL_eq, seq_tup, seq_kl, iterD_tup, iterD_kl, iterS_tup, iterS_kl, truR_bool, if_true, Bool.false_eq_true, if_false, Bool.not_true, Bool.not_false, opC_eq, eqS, ofB_some, ofNB_some, opC_inS, inS2, inS3, inS4, String.reduceBEq, Bool.or_false, Bool.or_true, Bool.false_or, Bool.true_or, opB_sub, opB_add, opB_band, opB_bor, opB_bxor, opC_lt, opC_le, opC_gt, opC_ge, opC_ne, truR_int, tru_bool, and_low, lenT, List.length_map, List.length_cons, List.length_nil])
      rw [gc_id (by simp)]
      exact ⟨by first | rfl | simp, rfl⟩
    refine wp_eq ?_
    rw [wp_fin]
    repeat (refine step ?_; simp only [dE_var, dE_lit, dE_bin, dE_neg, dE_inv, dE_cmp, dE_chain, dE_and, dE_or, dE_not, dE_ife, dE_tup, dE_lst, dE_idx, dE_slc, dE_call, dE_bi, dE_isin, dE_meth, dE_comp, dE_gc, dE_lrng1, dE_lrng2, dEs_nil, dEs_cons, dO_none, dO_some, dB_and, dB_or, dB_not, dB_val, dBO_none, dBO_some, dI_plain, dI_rng1, dI_rng2, dI_zip, dI_enum, dI_rev, dT_name, dT_tup, dT_sub, dTs_nil, dTs_cons, dS_asg, dS_aug, dS_augS, dS_par3, dS_expr, dS_ret, dS_retN, dS_pass, dS_brk, dS_cont, dS_ite, dS_whl, dS_fr, dSs_nil, Res.ok_bind, Res.bad_bind, Res.ok_to, Res.bad_to, SR.nx_seq, SR.rt_seq, SR.bk_seq, SR.ct_seq, wp_ok, wp_bind, wp_to, swp_nx, swp_rt, swp_bk, swp_ct, swp_seq, wp_fin, fin_rt, fin_nx, wipe_nil, wipe_cons, List.getElem?_cons_zero, List.getElem?_cons_succ, List.set_cons_zero, List.set_cons_succ, List.getElem?_nil, newL_eq, seq_tup, seq_kl, iterD_tup, iterD_kl, iterS_tup, iterS_kl, truR_bool, if_true, Bool.false_eq_true, if_false, Bool.not_true, Bool.not_false, opC_eq, eqS, ofB_some, ofNB_some, opC_inS, inS2, inS3, inS4, String.reduceBEq, Bool.or_false, Bool.or_true, Bool.false_or, Bool.true_or, opB_sub, opB_add, opB_band, opB_bor, opB_bxor, opC_lt, opC_le, opC_gt, opC_ge, opC_ne, truR_int, tru_bool, and_low, lenT, List.length_map, List.length_cons, List.length_nil, List.map_cons, List.map_nil, Int.reduceEq, eq_int, w0, w1, x0, x1, hi, sh (a) (by omega)])
    rw [gc_id (by simp)]
    exact ⟨rfl, rfl⟩
theorem p_sub {a x y : Nat} (ha : a ≤ 8) (h0 : 0 < a) (hx : x < 2 ^ a) (hy : y < 2 ^ a) : P "sub" a [a,a] [x,y] 0 := by
  refine ⟨((x : Int) + 2 ^ a - y) % 2 ^ a, fun G k ra rb m h1 h2 => ⟨?_, ?_⟩⟩
  · rw [u_l_word, c_l_word]
    have w0 : idxD (.ref ra) (.int 0) m = .ok (natD (a)) m := idxL (j := 0) h1 rfl
    have w1 : idxD (.ref ra) (.int 1) m = .ok (natD (a)) m := idxL (j := 1) h1 rfl
    have x0 : idxD (.ref rb) (.int 0) m = .ok (natD (x)) m := idxL (j := 0) h2 rfl
    have x1 : idxD (.ref rb) (.int 1) m = .ok (natD (y)) m := idxL (j := 1) h2 rfl
    refine wp_eq ?_
    rw [wp_fin]
    repeat (refine step ?_; simp only [dE_var, dE_lit, dE_bin, dE_neg, dE_inv, dE_cmp, dE_chain, dE_and, dE_or, dE_not, dE_ife, dE_tup, dE_lst, dE_idx, dE_slc, dE_call, dE_bi, dE_isin, dE_meth, dE_comp, dE_gc, dE_lrng1, dE_lrng2, dEs_nil, dEs_cons, dO_none, dO_some, dB_and, dB_or, dB_not, dB_val, dBO_none, dBO_some, dI_plain, dI_rng1, dI_rng2, dI_zip, dI_enum, dI_rev, dT_name, dT_tup, dT_sub, dTs_nil, dTs_cons, dS_asg, dS_aug, dS_augS, dS_par3, dS_expr, dS_ret, dS_retN, dS_pass, dS_brk, dS_cont, dS_ite, dS_whl, dS_fr, dSs_nil, Res.ok_bind, Res.bad_bind, Res.ok_to, Res.bad_to, SR.nx_seq, SR.rt_seq, SR.bk_seq, SR.ct_seq, wp_ok, wp_bind, wp_to, swp_nx, swp_rt, swp_bk, swp_ct, swp_seq, wp_fin, fin_rt, fin_nx, wipe_nil, wipe_cons, List.getElem?_cons_zero, List.getElem?_cons_succ, List.set_cons_zero, List.set_cons_succ, List.getElem?_nil, newL_eq, seq_tup, seq_kl, iterD_tup, iterD_kl, iterS_tup, iterS_kl, truR_bool, if_true, Bool.false_eq_true, if_false, Bool.not_true, Bool.not_false, opC_eq, eqS, ofB_some, ofNB_some, opC_inS, inS2, inS3, inS4, String.reduceBEq, Bool.or_false, Bool.or_true, Bool.false_or, Bool.true_or, opB_sub, opB_add, opB_band, opB_bor, opB_bxor, opC_lt, opC_le, opC_gt, opC_ge, opC_ne, truR_int, tru_bool, and_low, lenT, List.length_map, List.length_cons, List.length_nil, w0, w1, x0, x1, sh a (by omega)])
    rw [gc_id (by simp)]
    exact ⟨rfl, rfl⟩
  · rw [u_result, c_result]
    have w0 : ∀ m : Mem, idxD (.tup [natD (a), natD (a)]) (.int 0) m = .ok (natD (a)) m := fun m => rfl
    have w1 : ∀ m : Mem, idxD (.tup [natD (a), natD (a)]) (.int 1) m = .ok (natD (a)) m := fun m => rfl
    have x0 : ∀ m : Mem, idxD (.tup [natD (x), natD (y)]) (.int 0) m = .ok (natD (x)) m := fun m => rfl
    have x1 : ∀ m : Mem, idxD (.tup [natD (x), natD (y)]) (.int 1) m = .ok (natD (y)) m := fun m => rfl
    have hi : runF (tabP tab) G (k + 2) "of_two" [.str "sub", natD (x), natD (y)] m = .ok (.int ((x : Int) - y)) m := by
      rw [u_of_two, c_of_two]
      refine wp_eq ?_
      rw [wp_fin]
      repeat (refine step ?_; simp only [dE_var, dE_lit, dE_bin, dE_neg, dE_inv, dE_cmp, dE_chain, dE_and, dE_or, dE_not, dE_ife, dE_tup, dE_lst, dE_idx, dE_slc, dE_call, dE_bi, dE_isin, dE_meth, dE_comp, dE_gc, dE_lrng1, dE_lrng2, dEs_nil, dEs_cons, dO_none, dO_some, dB_and, dB_or, dB_not, dB_val, dBO_none, dBO_some, dI_plain, dI_rng1, dI_rng2, dI_zip, dI_enum, dI_rev, dT_name, dT_tup, dT_sub, dTs_nil, dTs_cons, dS_asg, dS_aug, dS_augS, dS_par3, dS_expr, dS_ret, dS_retN, dS_pass, dS_brk, dS_cont, dS_ite, dS_whl, dS_fr, dSs_nil, Res.ok_bind, Res.bad_bind, Res.ok_to, Res.bad_to, SR.nx_seq, SR.rt_seq, SR.bk_seq, SR.ct_seq, wp_ok, wp_bind, wp_to, swp_nx, swp_rt, swp_bk, swp_ct, swp_seq, wp_fin, fin_rt, fin_nx, wipe_nil, wipe_cons, List.getElem?_cons_zero, List.getElem?_cons_succ, List.set_cons_zero, List.set_cons_succ, List.getElem?_nil, newL_eq, seq_tup, seq_kl, iterD_tup, iterD_kl, iterS_tup, iterS_kl, truR_bool, if_true, Bool.false_eq_true, if_false, Bool.not_true, Bool.not_false, opC_eq, eqS, ofB_some, ofNB_some, opC_inS, inS2, inS3, inS4, String.reduceBEq, Bool.or_false, Bool.or_true, Bool.false_or, Bool.true_or, opB_sub, opB_add, opB_band, opB_bor, opB_bxor, opC_lt, opC_le, opC_gt, opC_ge, opC_ne, truR_int, tru_bool, and_low, lenT, List.length_map, List.length_cons, List.length_nil])
      rw [gc_id (by simp)]
      exact ⟨by first | rfl | simp, rfl⟩
    refine wp_eq ?_
    rw [wp_fin]
    repeat (refine step ?_; simp only [dE_var, dE_lit, dE_bin, dE_neg, dE_inv, dE_cmp, dE_chain, dE_and, dE_or, dE_not, dE_ife, dE_tup, dE_lst, dE_idx, dE_slc, dE_call, dE_bi, dE_isin, dE_meth, dE_comp, dE_gc, dE_lrng1, dE_lrng2, dEs_nil, dEs_cons, dO_none, dO_some, dB_and, dB_or, dB_not, dB_val, dBO_none, dBO_some, dI_plain, dI_rng1, dI_rng2, dI_zip, dI_enum, dI_rev, dT_name, dT_tup, dT_sub, dTs_nil, dTs_cons, dS_asg, dS_aug, dS_augS, dS_par3, dS_expr, dS_ret, dS_retN, dS_pass, dS_brk, dS_cont, dS_ite, dS_whl, dS_fr, dSs_nil, Res.ok_bind, Res.bad_bind, Res.ok_to, Res.bad_to, SR.nx_seq, SR.rt_seq, SR.bk_seq, SR.ct_seq, wp_ok, wp_bind, wp_to, swp_nx, swp_rt, swp_bk, swp_ct, swp_seq, wp_fin, fin_rt, fin_nx, wipe_nil, wipe_cons, List.getElem?_cons_zero, List.getElem?_cons_succ, List.set_cons_zero, List.set_cons_succ, List.getElem?_nil, newL_eq, seq_tup, seq_kl, iterD_tup, iterD_kl, iterS_tup, iterS_kl, truR_bool, if_true, Bool.false_eq_true, if_false, Bool.not_true, Bool.not_false, opC_eq, eqS, ofB_some, ofNB_some, opC_inS, inS2, inS3, inS4, String.reduceBEq, Bool.or_false, Bool.or_true, Bool.false_or, Bool.true_or, opB_sub, opB_add, opB_band, opB_bor, opB_bxor, opC_lt, opC_le, opC_gt, opC_ge, opC_ne, truR_int, tru_bool, and_low, lenT, List.length_map, List.length_cons, List.length_nil, List.map_cons, List.map_nil, Int.reduceEq, eq_int, w0, w1, x0, x1, hi, sh (a) (by omega)])
    rw [gc_id (by simp)]
    exact ⟨by rw [show (x : Int) + 2 ^ a - y = (x - y) + 2 ^ a by omega, Int.add_emod_right], rfl⟩
theorem p_mul {a x y : Nat} (ha : a ≤ 8) (h0 : 0 < a) (hx : x < 2 ^ a) (hy : y < 2 ^ a) : P "mul" a [a,a] [x,y] 0 := by
  have p8 : 2 ^ a ≤ 2 ^ 8 := Nat.pow_le_pow_right (by omega) ha
  have hm : ∀ m : Mem, opB .Mult (natD x) (natD y) m = .ok (.int ((x : Int) * y)) m := fun m => opB_mul (.inl ⟨by omega, by omega⟩)
  refine ⟨((x : Int) * y) % 2 ^ a, fun G k ra rb m h1 h2 => ⟨?_, ?_⟩⟩
  · rw [u_l_word, c_l_word]
    have w0 : idxD (.ref ra) (.int 0) m = .ok (natD (a)) m := idxL (j := 0) h1 rfl
    have w1 : idxD (.ref ra) (.int 1) m = .ok (natD (a)) m := idxL (j := 1) h1 rfl
    have x0 : idxD (.ref rb) (.int 0) m = .ok (natD (x)) m := idxL (j := 0) h2 rfl
    have x1 : idxD (.ref rb) (.int 1) m = .ok (natD (y)) m := idxL (j := 1) h2 rfl
    refine wp_eq ?_
    rw [wp_fin]
    repeat (refine step ?_; simp only [dE_var, dE_lit, dE_bin, dE_neg, dE_inv, dE_cmp, dE_chain, dE_and, dE_or, dE_not, dE_ife, dE_tup, dE_lst, dE_idx, dE_slc, dE_call, dE_bi, dE_isin, dE_meth, dE_comp, dE_gc, dE_lrng1, dE_lrng2, dEs_nil, dEs_cons, dO_none, dO_some, dB_and, dB_or, dB_not, dB_val, dBO_none, dBO_some, dI_plain, dI_rng1, dI_rng2, dI_zip, dI_enum, dI_rev, dT_name, dT_tup, dT_sub, dTs_nil, dTs_cons, dS_asg, dS_aug, dS_augS, dS_par3, dS_expr, dS_ret, dS_retN, dS_pass, dS_brk, dS_cont, dS_ite, dS_whl, dS_fr, dSs_nil, Res.ok_bind, Res.bad_bind, Res.ok_to, Res.bad_to, SR.nx_seq, SR.rt_seq, SR.bk_seq, SR.ct_seq, wp_ok, wp_bind, wp_to, swp_nx, swp_rt, swp_bk, swp_ct, swp_seq, wp_fin, fin_rt, fin_nx, wipe_nil, wipe_cons, List.getElem?_cons_zero, List.getElem?_cons_succ, List.set_cons_zero, List.set_cons_succ, List.getElem?_nil, newL_eq, seq_tup, seq_kl, iterD_tup, iterD_kl, iterS_tup, iterS_kl, truR_bool, if_true, Bool.false_eq_true, if_false, Bool.not_true, Bool.not_false, opC_eq, eqS, ofB_some, ofNB_some, opC_inS, inS2, inS3, inS4, String.reduceBEq, Bool.or_false, Bool.or_true, Bool.false_or, Bool.true_or, opB_sub, opB_add, opB_band, opB_bor, opB_bxor, opC_lt, opC_le, opC_gt, opC_ge, opC_ne, truR_int, tru_bool, and_low, lenT, List.length_map, List.length_cons, List.length_nil, w0, w1, x0, x1, sh a (by omega), hm])
    rw [gc_id (by simp)]
    exact ⟨rfl, rfl⟩
  · rw [u_result, c_result]
    have w0 : ∀ m : Mem, idxD (.tup [natD (a), natD (a)]) (.int 0) m = .ok (natD (a)) m := fun m => rfl
    have w1 : ∀ m : Mem, idxD (.tup [natD (a), natD (a)]) (.int 1) m = .ok (natD (a)) m := fun m => rfl
    have x0 : ∀ m : Mem, idxD (.tup [natD (x), natD (y)]) (.int 0) m = .ok (natD (x)) m := fun m => rfl
    have x1 : ∀ m : Mem, idxD (.tup [natD (x), natD (y)]) (.int 1) m = .ok (natD (y)) m := fun m => rfl
    have hi : runF (tabP tab) G (k + 2) "of_two" [.str "mul", natD (x), natD (y)] m = .ok (.int ((x : Int) * y)) m := by
      rw [u_of_two, c_of_two]
      refine wp_eq ?_
      rw [wp_fin]
      repeat (refine step ?_; simp only [dE_var, dE_lit, dE_bin, dE_neg, dE_inv, dE_cmp, dE_chain, dE_and, dE_or, dE_not, dE_ife, dE_tup, dE_lst, dE_idx, dE_slc, dE_call, dE_bi, dE_isin, dE_meth, dE_comp, dE_gc, dE_lrng1, dE_lrng2, dEs_nil, dEs_cons, dO_none, dO_some, dB_and, dB_or, dB_not, dB_val, dBO_none, dBO_some, dI_plain, dI_rng1, dI_rng2, dI_zip, dI_enum, dI_rev, dT_name, dT_tup, dT_sub, dTs_nil, dTs_cons, dS_asg, dS_aug, dS_augS, dS_par3, dS_expr, dS_ret, dS_retN, dS_pass, dS_brk, dS_cont, dS_ite, dS_whl, dS_fr, dSs_nil, Res.ok_bind, Res.bad_bind, Res.ok_to, Res.bad_to, SR.nx_seq, SR.rt_seq, SR.bk_seq, SR.ct_seq, wp_ok, wp_bind, wp_to, swp_nx, swp_rt, swp_bk, swp_ct, swp_seq, wp_fin, fin_rt, fin_nx, wipe_nil, wipe_cons, List.getElem?_cons_zero, List.getElem?_cons_succ, List.set_cons_zero, List.set_cons_succ, List.getElem?_nil, newL_eq, seq_tup, seq_kl, iterD_tup, iterD_kl, iterS_tup, iterS_kl, truR_bool, if_true, Bool.false_eq_true, if_false, Bool.not_true, Bool.not_false, opC_eq, eqS, ofB_some, ofNB_some, opC_inS, inS2, inS3, inS4, String.reduceBEq, Bool.or_false, Bool.or_true, Bool.false_or, Bool.true_or, opB_sub, opB_add, opB_band, opB_bor, opB_bxor, opC_lt, opC_le, opC_gt, opC_ge, opC_ne, truR_int, tru_bool, and_low, lenT, List.length_map, List.length_cons, List.length_nil, hm])
      rw [gc_id (by simp)]
      exact ⟨by first | rfl | simp, rfl⟩
    refine wp_eq ?_
    rw [wp_fin]
    repeat (refine step ?_; simp only [dE_var, dE_lit, dE_bin, dE_neg, dE_inv, dE_cmp, dE_chain, dE_and, dE_or, dE_not, dE_ife, dE_tup, dE_lst, dE_idx, dE_slc, dE_call, dE_bi, dE_isin, dE_meth, dE_comp, dE_gc, dE_lrng1, dE_lrng2, dEs_nil, dEs_cons, dO_none, dO_some, dB_and, dB_or, dB_not, dB_val, dBO_none, dBO_some, dI_plain, dI_rng1, dI_rng2, dI_zip, dI_enum, dI_rev, dT_name, dT_tup, dT_sub, dTs_nil, dTs_cons, dS_asg, dS_aug, dS_augS, dS_par3, dS_expr, dS_ret, dS_retN, dS_pass, dS_brk, dS_cont, dS_ite, dS_whl, dS_fr, dSs_nil, Res.ok_bind, Res.bad_bind, Res.ok_to, Res.bad_to, SR.nx_seq, SR.rt_seq, SR.bk_seq, SR.ct_seq, wp_ok, wp_bind, wp_to, swp_nx, swp_rt, swp_bk, swp_ct, swp_seq, wp_fin, fin_rt, fin_nx, wipe_nil, wipe_cons, List.getElem?_cons_zero, List.getElem?_cons_succ, List.set_cons_zero, List.set_cons_succ, List.getElem?_nil, newL_eq, seq_tup, seq_kl, iterD_tup, iterD_kl, iterS_tup, iterS_kl, truR_bool, if_true, Bool.false_eq_true, if_false, Bool.not_true, Bool.not_false, opC_eq, eqS, ofB_some, ofNB_some, opC_inS, inS2, inS3, inS4, String.reduceBEq, Bool.or_false, Bool.or_true, Bool.false_or, Bool.true_or, opB_sub, opB_add, opB_band, opB_bor, opB_bxor, opC_lt, opC_le, opC_gt, opC_ge, opC_ne, truR_int, tru_bool, and_low, lenT, List.length_map, List.length_cons, List.length_nil, List.map_cons, List.map_nil, Int.reduceEq, eq_int, w0, w1, x0, x1, hi, sh (a) (by omega)])
    rw [gc_id (by simp)]
    exact ⟨rfl, rfl⟩
theorem p_and {a x y : Nat} (ha : a ≤ 8) (h0 : 0 < a) (hx : x < 2 ^ a) (hy : y < 2 ^ a) : P "and" a [a,a] [x,y] 0 := by
  have hl : x &&& y < 2 ^ a := Nat.and_lt_two_pow _ hy
  have hl2 : ((x &&& y : Nat) : Int) < 2 ^ a := by exact_mod_cast hl
  refine ⟨((x &&& y : Nat) : Int), fun G k ra rb m h1 h2 => ⟨?_, ?_⟩⟩
  · rw [u_l_word, c_l_word]
    have w0 : idxD (.ref ra) (.int 0) m = .ok (natD (a)) m := idxL (j := 0) h1 rfl
    have w1 : idxD (.ref ra) (.int 1) m = .ok (natD (a)) m := idxL (j := 1) h1 rfl
    have x0 : idxD (.ref rb) (.int 0) m = .ok (natD (x)) m := idxL (j := 0) h2 rfl
    have x1 : idxD (.ref rb) (.int 1) m = .ok (natD (y)) m := idxL (j := 1) h2 rfl
    refine wp_eq ?_
    rw [wp_fin]
    repeat (refine step ?_; simp only [dE_var, dE_lit, dE_bin, dE_neg, dE_inv, dE_cmp, dE_chain, dE_and, dE_or, dE_not, dE_ife, dE_tup, dE_lst, dE_idx, dE_slc, dE_call, dE_bi, dE_isin, dE_meth, dE_comp, dE_gc, dE_lrng1, dE_lrng2, dEs_nil, dEs_cons, dO_none, dO_some, dB_and, dB_or, dB_not, dB_val, dBO_none, dBO_some, dI_plain, dI_rng1, dI_rng2, dI_zip, dI_enum, dI_rev, dT_name, dT_tup, dT_sub, dTs_nil, dTs_cons, dS_asg, dS_aug, dS_augS, dS_par3, dS_expr, dS_ret, dS_retN, dS_pass, dS_brk, dS_cont, dS_ite, dS_whl, dS_fr, dSs_nil, Res.ok_bind, Res.bad_bind, Res.ok_to, Res.bad_to, SR.nx_seq, SR.rt_seq, SR.bk_seq, SR.ct_seq, wp_ok, wp_bind, wp_to, swp_nx, swp_rt, swp_bk, swp_ct, swp_seq, wp_fin, fin_rt, fin_nx, wipe_nil, wipe_cons, List.getElem?_cons_zero, List.getElem?_cons_succ, List.set_cons_zero, List.set_cons_succ, List.getElem?_nil, newL_eq, seq_tup, seq_kl, iterD_tup, iterD_kl, iterS_tup, iterS_kl, truR_bool, if_true, Bool.false_eq_true, if_false, Bool.not_true, Bool.not_false, opC_eq, eqS, ofB_some, ofNB_some, opC_inS, inS2, inS3, inS4, String.reduceBEq, Bool.or_false, Bool.or_true, Bool.false_or, Bool.true_or, opB_sub, opB_add, opB_band, opB_bor, opB_bxor, opC_lt, opC_le, opC_gt, opC_ge, opC_ne, truR_int, tru_bool, and_low, lenT, List.length_map, List.length_cons, List.length_nil, w0, w1, x0, x1, sh a (by omega), bandN, borN, bxN])
    rw [gc_id (by simp)]
    exact ⟨rfl, rfl⟩
  · rw [u_result, c_result]
    have w0 : ∀ m : Mem, idxD (.tup [natD (a), natD (a)]) (.int 0) m = .ok (natD (a)) m := fun m => rfl
    have w1 : ∀ m : Mem, idxD (.tup [natD (a), natD (a)]) (.int 1) m = .ok (natD (a)) m := fun m => rfl
    have x0 : ∀ m : Mem, idxD (.tup [natD (x), natD (y)]) (.int 0) m = .ok (natD (x)) m := fun m => rfl
    have x1 : ∀ m : Mem, idxD (.tup [natD (x), natD (y)]) (.int 1) m = .ok (natD (y)) m := fun m => rfl
    have hi : runF (tabP tab) G (k + 2) "of_two" [.str "and", natD (x), natD (y)] m = .ok (.int (((x &&& y : Nat) : Int))) m := by
      rw [u_of_two, c_of_two]
      refine wp_eq ?_
      rw [wp_fin]
      repeat (refine step ?_; simp only [dE_var, dE_lit, dE_bin, dE_neg, dE_inv, dE_cmp, dE_chain, dE_and, dE_or, dE_not, dE_ife, dE_tup, dE_lst, dE_idx, dE_slc, dE_call, dE_bi, dE_isin, dE_meth, dE_comp, dE_gc, dE_lrng1, dE_lrng2, dEs_nil, dEs_cons, dO_none, dO_some, dB_and, dB_or, dB_not, dB_val, dBO_none, dBO_some, dI_plain, dI_rng1, dI_rng2, dI_zip, dI_enum, dI_rev, dT_name, dT_tup, dT_sub, dTs_nil, dTs_cons, dS_asg, dS_aug, dS_augS, dS_par3, dS_expr, dS_ret, dS_retN, dS_pass, dS_brk, dS_cont, dS_ite, dS_whl, dS_fr, dSs_nil, Res.ok_bind, Res.bad_bind, Res.ok_to, Res.bad_to, SR.nx_seq, SR.rt_seq, SR.bk_seq, SR.ct_seq, wp_ok, wp_bind, wp_to, swp_nx, swp_rt, swp_bk, swp_ct, swp_seq, wp_fin, fin_rt, fin_nx, wipe_nil, wipe_cons, List.getElem?_cons_zero, List.getElem?_cons_succ, List.set_cons_zero, List.set_cons_succ, List.getElem?_nil, newL_eq, seq_tup, seq_kl, iterD_tup, iterD_kl, iterS_tup, iterS_kl, truR_bool, if_true, Bool.false_eq_true, if_false, Bool.not_true, Bool.not_false, opC_eq, eqS, ofB_some, ofNB_some, opC_inS, inS2, inS3, inS4, String.reduceBEq, Bool.or_false, Bool.or_true, Bool.false_or, Bool.true_or, opB_sub, opB_add, opB_band, opB_bor, opB_bxor, opC_lt, opC_le, opC_gt, opC_ge, opC_ne, truR_int, tru_bool, and_low, lenT, List.length_map, List.length_cons, List.length_nil, bandN, borN, bxN])
      rw [gc_id (by simp)]
      exact ⟨by first | rfl | simp, rfl⟩
    refine wp_eq ?_
    rw [wp_fin]
    repeat (refine step ?_; simp only [dE_var, dE_lit, dE_bin, dE_neg, dE_inv, dE_cmp, dE_chain, dE_and, dE_or, dE_not, dE_ife, dE_tup, dE_lst, dE_idx, dE_slc, dE_call, dE_bi, dE_isin, dE_meth, dE_comp, dE_gc, dE_lrng1, dE_lrng2, dEs_nil, dEs_cons, dO_none, dO_some, dB_and, dB_or, dB_not, dB_val, dBO_none, dBO_some, dI_plain, dI_rng1, dI_rng2, dI_zip, dI_enum, dI_rev, dT_name, dT_tup, dT_sub, dTs_nil, dTs_cons, dS_asg, dS_aug, dS_augS, dS_par3, dS_expr, dS_ret, dS_retN, dS_pass, dS_brk, dS_cont, dS_ite, dS_whl, dS_fr, dSs_nil, Res.ok_bind, Res.bad_bind, Res.ok_to, Res.bad_to, SR.nx_seq, SR.rt_seq, SR.bk_seq, SR.ct_seq, wp_ok, wp_bind, wp_to, swp_nx, swp_rt, swp_bk, swp_ct, swp_seq, wp_fin, fin_rt, fin_nx, wipe_nil, wipe_cons, List.getElem?_cons_zero, List.getElem?_cons_succ, List.set_cons_zero, List.set_cons_succ, List.getElem?_nil, newL_eq, seq_tup, seq_kl, iterD_tup, iterD_kl, iterS_tup, iterS_kl, truR_bool, if_true, Bool.false_eq_true, if_false, Bool.not_true, Bool.not_false, opC_eq, eqS, ofB_some, ofNB_some, opC_inS, inS2, inS3, inS4, String.reduceBEq, Bool.or_false, Bool.or_true, Bool.false_or, Bool.true_or, opB_sub, opB_add, opB_band, opB_bor, opB_bxor, opC_lt, opC_le, opC_gt, opC_ge, opC_ne, truR_int, tru_bool, and_low, lenT, List.length_map, List.length_cons, List.length_nil, List.map_cons, List.map_nil, Int.reduceEq, eq_int, w0, w1, x0, x1, hi, sh (a) (by omega), bandN, borN, bxN])
    rw [gc_id (by simp)]
    exact ⟨by rw [Int.emod_eq_of_lt (by omega) hl2], rfl⟩
theorem p_or {a x y : Nat} (ha : a ≤ 8) (h0 : 0 < a) (hx : x < 2 ^ a) (hy : y < 2 ^ a) : P "or" a [a,a] [x,y] 0 := by
  have hl : x ||| y < 2 ^ a := Nat.or_lt_two_pow hx hy
  have hl2 : ((x ||| y : Nat) : Int) < 2 ^ a := by exact_mod_cast hl
  refine ⟨((x ||| y : Nat) : Int), fun G k ra rb m h1 h2 => ⟨?_, ?_⟩⟩
  · rw [u_l_word, c_l_word]
    have w0 : idxD (.ref ra) (.int 0) m = .ok (natD (a)) m := idxL (j := 0) h1 rfl
    have w1 : idxD (.ref ra) (.int 1) m = .ok (natD (a)) m := idxL (j := 1) h1 rfl
    have x0 : idxD (.ref rb) (.int 0) m = .ok (natD (x)) m := idxL (j := 0) h2 rfl
    have x1 : idxD (.ref rb) (.int 1) m = .ok (natD (y)) m := idxL (j := 1) h2 rfl
    refine wp_eq ?_
    rw [wp_fin]
    repeat (refine step ?_; simp only [dE_var, dE_lit, dE_bin, dE_neg, dE_inv, dE_cmp, dE_chain, dE_and, dE_or, dE_not, dE_ife, dE_tup, dE_lst, dE_idx, dE_slc, dE_call, dE_bi, dE_isin, dE_meth, dE_comp, dE_gc, dE_lrng1, dE_lrng2, dEs_nil, dEs_cons, dO_none, dO_some, dB_and, dB_or, dB_not, dB_val, dBO_none, dBO_some, dI_plain, dI_rng1, dI_rng2, dI_zip, dI_enum, dI_rev, dT_name, dT_tup, dT_sub, dTs_nil, dTs_cons, dS_asg, dS_aug, dS_augS, dS_par3, dS_expr, dS_ret, dS_retN, dS_pass, dS_brk, dS_cont, dS_ite, dS_whl, dS_fr, dSs_nil, Res.ok_bind, Res.bad_bind, Res.ok_to, Res.bad_to, SR.nx_seq, SR.rt_seq, SR.bk_seq, SR.ct_seq, wp_ok, wp_bind, wp_to, swp_nx, swp_rt, swp_bk, swp_ct, swp_seq, wp_fin, fin_rt, fin_nx, wipe_nil, wipe_cons, List.getElem?_cons_zero, List.getElem?_cons_succ, List.set_cons_zero, List.set_cons_succ, List.getElem?_nil, newL_eq, seq_tup, seq_kl, iterD_tup, iterD_kl, iterS_tup, iterS_kl, truR_bool, if_true, Bool.false_eq_true, if_false, Bool.not_true, Bool.not_false, opC_eq, eqS, ofB_some, ofNB_some, opC_inS, inS2, inS3, inS4, String.reduceBEq, Bool.or_false, Bool.or_true, Bool.false_or, Bool.true_or, opB_sub, opB_add, opB_band, opB_bor, opB_bxor, opC_lt, opC_le, opC_gt, opC_ge, opC_ne, truR_int, tru_bool, and_low, lenT, List.length_map, List.length_cons, List.length_nil, w0, w1, x0, x1, sh a (by omega), bandN, borN, bxN])
    rw [gc_id (by simp)]
    exact ⟨rfl, rfl⟩
  · rw [u_result, c_result]
    have w0 : ∀ m : Mem, idxD (.tup [natD (a), natD (a)]) (.int 0) m = .ok (natD (a)) m := fun m => rfl
    have w1 : ∀ m : Mem, idxD (.tup [natD (a), natD (a)]) (.int 1) m = .ok (natD (a)) m := fun m => rfl
    have x0 : ∀ m : Mem, idxD (.tup [natD (x), natD (y)]) (.int 0) m = .ok (natD (x)) m := fun m => rfl
    have x1 : ∀ m : Mem, idxD (.tup [natD (x), natD (y)]) (.int 1) m = .ok (natD (y)) m := fun m => rfl
    have hi : runF (tabP tab) G (k + 2) "of_two" [.str "or", natD (x), natD (y)] m = .ok (.int (((x ||| y : Nat) : Int))) m := by
      rw [u_of_two, c_of_two]
      refine wp_eq ?_
      rw [wp_fin]
      repeat (refine step ?_; simp only [dE_var, dE_lit, dE_bin, dE_neg, dE_inv, dE_cmp, dE_chain, dE_and, dE_or, dE_not, dE_ife, dE_tup, dE_lst, dE_idx, dE_slc, dE_call, dE_bi, dE_isin, dE_meth, dE_comp, dE_gc, dE_lrng1, dE_lrng2, dEs_nil, dEs_cons, dO_none, dO_some, dB_and, dB_or, dB_not, dB_val, dBO_none, dBO_some, dI_plain, dI_rng1, dI_rng2, dI_zip, dI_enum, dI_rev, dT_name, dT_tup, dT_sub, dTs_nil, dTs_cons, dS_asg, dS_aug, dS_augS, dS_par3, dS_expr, dS_ret, dS_retN, dS_pass, dS_brk, dS_cont, dS_ite, dS_whl, dS_fr, dSs_nil, Res.ok_bind, Res.bad_bind, Res.ok_to, Res.bad_to, SR.nx_seq, SR.rt_seq, SR.bk_seq, SR.ct_seq, wp_ok, wp_bind, wp_to, swp_nx, swp_rt, swp_bk, swp_ct, swp_seq, wp_fin, fin_rt, fin_nx, wipe_nil, wipe_cons, List.getElem?_cons_zero, List.getElem?_cons_succ, List.set_cons_zero, List.set_cons_succ, List.getElem?_nil, newL_eq, seq_tup, seq_kl, iterD_tup, iterD_kl, iterS_tup, iterS_kl, truR_bool, if_true, Bool.false_eq_true, if_false, Bool.not_true, Bool.not_false, opC_eq, eqS, ofB_some, ofNB_some, opC_inS, inS2, inS3, inS4, String.reduceBEq, Bool.or_false, Bool.or_true, Bool.false_or, Bool.true_or, opB_sub, opB_add, opB_band, opB_bor, opB_bxor, opC_lt, opC_le, opC_gt, opC_ge, opC_ne, truR_int, tru_bool, and_low, lenT, List.length_map, List.length_cons, List.length_nil, bandN, borN, bxN])
      rw [gc_id (by simp)]
      exact ⟨by first | rfl | simp, rfl⟩
    refine wp_eq ?_
    rw [wp_fin]
    repeat (refine step ?_; simp only [dE_var, dE_lit, dE_bin, dE_neg, dE_inv, dE_cmp, dE_chain, dE_and, dE_or, dE_not, dE_ife, dE_tup, dE_lst, dE_idx, dE_slc, dE_call, dE_bi, dE_isin, dE_meth, dE_comp, dE_gc, dE_lrng1, dE_lrng2, dEs_nil, dEs_cons, dO_none, dO_some, dB_and, dB_or, dB_not, dB_val, dBO_none, dBO_some, dI_plain, dI_rng1, dI_rng2, dI_zip, dI_enum, dI_rev, dT_name, dT_tup, dT_sub, dTs_nil, dTs_cons, dS_asg, dS_aug, dS_augS, dS_par3, dS_expr, dS_ret, dS_retN, dS_pass, dS_brk, dS_cont, dS_ite, dS_whl, dS_fr, dSs_nil, Res.ok_bind, Res.bad_bind, Res.ok_to, Res.bad_to, SR.nx_seq, SR.rt_seq, SR.bk_seq, SR.ct_seq, wp_ok, wp_bind, wp_to, swp_nx, swp_rt, swp_bk, swp_ct, swp_seq, wp_fin, fin_rt, fin_nx, wipe_nil, wipe_cons, List.getElem?_cons_zero, List.getElem?_cons_succ, List.set_cons_zero, List.set_cons_succ, List.getElem?_nil, newL_eq, seq_tup, seq_kl, iterD_tup, iterD_kl, iterS_tup, iterS_kl, truR_bool, if_true, Bool.false_eq_true, if_false, Bool.not_true, Bool.not_false, opC_eq, eqS, ofB_some, ofNB_some, opC_inS, inS2, inS3, inS4, String.reduceBEq, Bool.or_false, Bool.or_true, Bool.false_or, Bool.true_or, opB_sub, opB_add, opB_band, opB_bor, opB_bxor, opC_lt, opC_le, opC_gt, opC_ge, opC_ne, truR_int, tru_bool, and_low, lenT, List.length_map, List.length_cons, List.length_nil, List.map_cons, List.map_nil, Int.reduceEq, eq_int, w0, w1, x0, x1, hi, sh (a) (by omega), bandN, borN, bxN])
    rw [gc_id (by simp)]
    exact ⟨by rw [Int.emod_eq_of_lt (by omega) hl2], rfl⟩
theorem p_xor {a x y : Nat} (ha : a ≤ 8) (h0 : 0 < a) (hx : x < 2 ^ a) (hy : y < 2 ^ a) : P "xor" a [a,a] [x,y] 0 := by
  have hl : x ^^^ y < 2 ^ a := Nat.xor_lt_two_pow hx hy
  have hl2 : ((x ^^^ y : Nat) : Int) < 2 ^ a := by exact_mod_cast hl
  refine ⟨((x ^^^ y : Nat) : Int), fun G k ra rb m h1 h2 => ⟨?_, ?_⟩⟩
  · rw [u_l_word, c_l_word]
    have w0 : idxD (.ref ra) (.int 0) m = .ok (natD (a)) m := idxL (j := 0) h1 rfl
    have w1 : idxD (.ref ra) (.int 1) m = .ok (natD (a)) m := idxL (j := 1) h1 rfl
    have x0 : idxD (.ref rb) (.int 0) m = .ok (natD (x)) m := idxL (j := 0) h2 rfl
    have x1 : idxD (.ref rb) (.int 1) m = .ok (natD (y)) m := idxL (j := 1) h2 rfl
    refine wp_eq ?_
    rw [wp_fin]
    repeat (refine step ?_; simp only [dE_var, dE_lit, dE_bin, dE_neg, dE_inv, dE_cmp, dE_chain, dE_and, dE_or, dE_not, dE_ife, dE_tup, dE_lst, dE_idx, dE_slc, dE_call, dE_bi, dE_isin, dE_meth, dE_comp, dE_gc, dE_lrng1, dE_lrng2, dEs_nil, dEs_cons, dO_none, dO_some, dB_and, dB_or, dB_not, dB_val, dBO_none, dBO_some, dI_plain, dI_rng1, dI_rng2, dI_zip, dI_enum, dI_rev, dT_name, dT_tup, dT_sub, dTs_nil, dTs_cons, dS_asg, dS_aug, dS_augS, dS_par3, dS_expr, dS_ret, dS_retN, dS_pass, dS_brk, dS_cont, dS_ite, dS_whl, dS_fr, dSs_nil, Res.ok_bind, Res.bad_bind, Res.ok_to, Res.bad_to, SR.nx_seq, SR.rt_seq, SR.bk_seq, SR.ct_seq, wp_ok, wp_bind, wp_to, swp_nx, swp_rt, swp_bk, swp_ct, swp_seq, wp_fin, fin_rt, fin_nx, wipe_nil, wipe_cons, List.getElem?_cons_zero, List.getElem?_cons_succ, List.set_cons_zero, List.set_cons_succ, List.getElem?_nil, newL_eq, seq_tup, seq_kl, iterD_tup, iterD_kl, iterS_tup, iterS_kl, truR_bool, if_true, Bool.false_eq_true, if_false, Bool.not_true, Bool.not_false, opC_eq, eqS, ofB_some, ofNB_some, opC_inS, inS2, inS3, inS4, String.reduceBEq, Bool.or_false, Bool.or_true, Bool.false_or, Bool.true_or, opB_sub, opB_add, opB_band, opB_bor, opB_bxor, opC_lt, opC_le, opC_gt, opC_ge, opC_ne, truR_int, tru_bool, and_low, lenT, List.length_map, List.length_cons, List.length_nil, w0, w1, x0, x1, sh a (by omega), bandN, borN, bxN])
    rw [gc_id (by simp)]
    exact ⟨rfl, rfl⟩
  · rw [u_result, c_result]
    have w0 : ∀ m : Mem, idxD (.tup [natD (a), natD (a)]) (.int 0) m = .ok (natD (a)) m := fun m => rfl
    have w1 : ∀ m : Mem, idxD (.tup [natD (a), natD (a)]) (.int 1) m = .ok (natD (a)) m := fun m => rfl
    have x0 : ∀ m : Mem, idxD (.tup [natD (x), natD (y)]) (.int 0) m = .ok (natD (x)) m := fun m => rfl
    have x1 : ∀ m : Mem, idxD (.tup [natD (x), natD (y)]) (.int 1) m = .ok (natD (y)) m := fun m => rfl
    have hi : runF (tabP tab) G (k + 2) "of_two" [.str "xor", natD (x), natD (y)] m = .ok (.int (((x ^^^ y : Nat) : Int))) m := by
      rw [u_of_two, c_of_two]
      refine wp_eq ?_
      rw [wp_fin]
      repeat (refine step ?_; simp only [dE_var, dE_lit, dE_bin, dE_neg, dE_inv, dE_cmp, dE_chain, dE_and, dE_or, dE_not, dE_ife, dE_tup, dE_lst, dE_idx, dE_slc, dE_call, dE_bi, dE_isin, dE_meth, dE_comp, dE_gc, dE_lrng1, dE_lrng2, dEs_nil, dEs_cons, dO_none, dO_some, dB_and, dB_or, dB_not, dB_val, dBO_none, dBO_some, dI_plain, dI_rng1, dI_rng2, dI_zip, dI_enum, dI_rev, dT_name, dT_tup, dT_sub, dTs_nil, dTs_cons, dS_asg, dS_aug, dS_augS, dS_par3, dS_expr, dS_ret, dS_retN, dS_pass, dS_brk, dS_cont, dS_ite, dS_whl, dS_fr, dSs_nil, Res.ok_bind, Res.bad_bind, Res.ok_to, Res.bad_to, SR.nx_seq, SR.rt_seq, SR.bk_seq, SR.ct_seq, wp_ok, wp_bind, wp_to, swp_nx, swp_rt, swp_bk, swp_ct, swp_seq, wp_fin, fin_rt, fin_nx, wipe_nil, wipe_cons, List.getElem?_cons_zero, List.getElem?_cons_succ, List.set_cons_zero, List.set_cons_succ, List.getElem?_nil, newL_eq, seq_tup, seq_kl, iterD_tup, iterD_kl, iterS_tup, iterS_kl, truR_bool, if_true, Bool.false_eq_true, if_false, Bool.not_true, Bool.not_false, opC_eq, eqS, ofB_some, ofNB_some, opC_inS, inS2, inS3, inS4, String.reduceBEq, Bool.or_false, Bool.or_true, Bool.false_or, Bool.true_or, opB_sub, opB_add, opB_band, opB_bor, opB_bxor, opC_lt, opC_le, opC_gt, opC_ge, opC_ne, truR_int, tru_bool, and_low, lenT, List.length_map, List.length_cons, List.length_nil, bandN, borN, bxN])
      rw [gc_id (by simp)]
      exact ⟨by first | rfl | simp, rfl⟩
    refine wp_eq ?_
    rw [wp_fin]
    repeat (refine step ?_; simp only [dE_var, dE_lit, dE_bin, dE_neg, dE_inv, dE_cmp, dE_chain, dE_and, dE_or, dE_not, dE_ife, dE_tup, dE_lst, dE_idx, dE_slc, dE_call, dE_bi, dE_isin, dE_meth, dE_comp, dE_gc, dE_lrng1, dE_lrng2, dEs_nil, dEs_cons, dO_none, dO_some, dB_and, dB_or, dB_not, dB_val, dBO_none, dBO_some, dI_plain, dI_rng1, dI_rng2, dI_zip, dI_enum, dI_rev, dT_name, dT_tup, dT_sub, dTs_nil, dTs_cons, dS_asg, dS_aug, dS_augS, dS_par3, dS_expr, dS_ret, dS_retN, dS_pass, dS_brk, dS_cont, dS_ite, dS_whl, dS_fr, dSs_nil, Res.ok_bind, Res.bad_bind, Res.ok_to, Res.bad_to, SR.nx_seq, SR.rt_seq, SR.bk_seq, SR.ct_seq, wp_ok, wp_bind, wp_to, swp_nx, swp_rt, swp_bk, swp_ct, swp_seq, wp_fin, fin_rt, fin_nx, wipe_nil, wipe_cons, List.getElem?_cons_zero, List.getElem?_cons_succ, List.set_cons_zero, List.set_cons_succ, List.getElem?_nil, newL_eq, seq_tup, seq_kl, iterD_tup, iterD_kl, iterS_tup, iterS_kl, truR_bool, if_true, Bool.false_eq_true, if_false, Bool.not_true, Bool.not_false, opC_eq, eqS, ofB_some, ofNB_some, opC_inS, inS2, inS3, inS4, String.reduceBEq, Bool.or_false, Bool.or_true, Bool.false_or, Bool.true_or, opB_sub, opB_add, opB_band, opB_bor, opB_bxor, opC_lt, opC_le, opC_gt, opC_ge, opC_ne, truR_int, tru_bool, and_low, lenT, List.length_map, List.length_cons, List.length_nil, List.map_cons, List.map_nil, Int.reduceEq, eq_int, w0, w1, x0, x1, hi, sh (a) (by omega), bandN, borN, bxN])
    rw [gc_id (by simp)]
    exact ⟨by rw [Int.emod_eq_of_lt (by omega) hl2], rfl⟩
theorem p_shl0 {a b x y : Nat} (ha : a ≤ 8) (h0 : 0 < a) (hb : b ≤ 8) (hx : x < 2 ^ a) (hy : y < 2 ^ b) (hc : ¬ a ≤ y) : P "shl" a [a,b] [x,y] 0 := by
  have p8 : 2 ^ a ≤ 2 ^ 8 := Nat.pow_le_pow_right (by omega) ha
  have p9 : y < 2 ^ 8 := Nat.lt_of_lt_of_le hy (Nat.pow_le_pow_right (by omega) hb)
  have hd : decide ((a : Int) ≤ y) = false := by simp only [decide_eq_true_eq, decide_eq_false_iff_not]; omega
  have hm8 : ∀ m : Mem, biD .min2 [natD y, .int 8] m = .ok (natD (min y 8)) m := fun m => by rw [bi_min]; congr 2; split <;> omega
  have hs : ∀ (n : Nat) (m : Mem), n ≤ 1000 → opB .LShift (natD x) (natD n) m = .ok (.int ((x * 2 ^ n : Nat) : Int)) m := fun n m hn => by rw [opB_shl (by omega) (by omega) (by simp; omega)]; simp
  refine ⟨((x * 2 ^ y : Nat) : Int) % 2 ^ a, fun G k ra rb m h1 h2 => ⟨?_, ?_⟩⟩
  · rw [u_l_word, c_l_word]
    have w0 : idxD (.ref ra) (.int 0) m = .ok (natD (a)) m := idxL (j := 0) h1 rfl
    have w1 : idxD (.ref ra) (.int 1) m = .ok (natD (b)) m := idxL (j := 1) h1 rfl
    have x0 : idxD (.ref rb) (.int 0) m = .ok (natD (x)) m := idxL (j := 0) h2 rfl
    have x1 : idxD (.ref rb) (.int 1) m = .ok (natD (y)) m := idxL (j := 1) h2 rfl
    refine wp_eq ?_
    rw [wp_fin]
    repeat (refine step ?_; simp only [dE_var, dE_lit, dE_bin, dE_neg, dE_inv, dE_cmp, dE_chain, dE_and, dE_or, dE_not, dE_ife, dE_tup, dE_lst, dE_idx, dE_slc, dE_call, dE_bi, dE_isin, dE_meth, dE_comp, dE_gc, dE_lrng1, dE_lrng2, dEs_nil, dEs_cons, dO_none, dO_some, dB_and, dB_or, dB_not, dB_val, dBO_none, dBO_some, dI_plain, dI_rng1, dI_rng2, dI_zip, dI_enum, dI_rev, dT_name, dT_tup, dT_sub, dTs_nil, dTs_cons, dS_asg, dS_aug, dS_augS, dS_par3, dS_expr, dS_ret, dS_retN, dS_pass, dS_brk, dS_cont, dS_ite, dS_whl, dS_fr, dSs_nil, Res.ok_bind, Res.bad_bind, Res.ok_to, Res.bad_to, SR.nx_seq, SR.rt_seq, SR.bk_seq, SR.ct_seq, wp_ok, wp_bind, wp_to, swp_nx, swp_rt, swp_bk, swp_ct, swp_seq, wp_fin, fin_rt, fin_nx, wipe_nil, wipe_cons, List.getElem?_cons_zero, List.getElem?_cons_succ, List.set_cons_zero, List.set_cons_succ, List.getElem?_nil, newL_eq, seq_tup, seq_kl, iterD_tup, iterD_kl, iterS_tup, iterS_kl, truR_bool, if_true, Bool.false_eq_true, if_false, Bool.not_true, Bool.not_false, opC_eq, eqS, ofB_some, ofNB_some, opC_inS, inS2, inS3, inS4, String.reduceBEq, Bool.or_false, Bool.or_true, Bool.false_or, Bool.true_or, opB_sub, opB_add, opB_band, opB_bor, opB_bxor, opC_lt, opC_le, opC_gt, opC_ge, opC_ne, truR_int, tru_bool, and_low, lenT, List.length_map, List.length_cons, List.length_nil, w0, w1, x0, x1, sh a (by omega), hd, hs y _ (by omega)])
    rw [gc_id (by simp)]
    exact ⟨rfl, rfl⟩
  · rw [u_result, c_result]
    have w0 : ∀ m : Mem, idxD (.tup [natD (a), natD (b)]) (.int 0) m = .ok (natD (a)) m := fun m => rfl
    have w1 : ∀ m : Mem, idxD (.tup [natD (a), natD (b)]) (.int 1) m = .ok (natD (b)) m := fun m => rfl
    have x0 : ∀ m : Mem, idxD (.tup [natD (x), natD (y)]) (.int 0) m = .ok (natD (x)) m := fun m => rfl
    have x1 : ∀ m : Mem, idxD (.tup [natD (x), natD (y)]) (.int 1) m = .ok (natD (y)) m := fun m => rfl
    have hi : runF (tabP tab) G (k + 2) "of_two" [.str "shl", natD (x), natD (y)] m = .ok (.int (((x * 2 ^ (min y 8) : Nat) : Int))) m := by
      rw [u_of_two, c_of_two]
      refine wp_eq ?_
      rw [wp_fin]
      repeat (refine step ?_; simp only [dE_var, dE_lit, dE_bin, dE_neg, dE_inv, dE_cmp, dE_chain, dE_and, dE_or, dE_not, dE_ife, dE_tup, dE_lst, dE_idx, dE_slc, dE_call, dE_bi, dE_isin, dE_meth, dE_comp, dE_gc, dE_lrng1, dE_lrng2, dEs_nil, dEs_cons, dO_none, dO_some, dB_and, dB_or, dB_not, dB_val, dBO_none, dBO_some, dI_plain, dI_rng1, dI_rng2, dI_zip, dI_enum, dI_rev, dT_name, dT_tup, dT_sub, dTs_nil, dTs_cons, dS_asg, dS_aug, dS_augS, dS_par3, dS_expr, dS_ret, dS_retN, dS_pass, dS_brk, dS_cont, dS_ite, dS_whl, dS_fr, dSs_nil, Res.ok_bind, Res.bad_bind, Res.ok_to, Res.bad_to, SR.nx_seq, SR.rt_seq, SR.bk_seq, SR.ct_seq, wp_ok, wp_bind, wp_to, swp_nx, swp_rt, swp_bk, swp_ct, swp_seq, wp_fin, fin_rt, fin_nx, wipe_nil, wipe_cons, List.getElem?_cons_zero, List.getElem?_cons_succ, List.set_cons_zero, List.set_cons_succ, List.getElem?_nil, newL_eq, seq_tup, seq_kl, iterD_tup, iterD_kl, iterS_tup, iterS_kl, truR_bool, if_true, Bool.false_eq_true, if_false, Bool.not_true, Bool.not_false, opC_eq, eqS, ofB_some, ofNB_some, opC_inS, inS2, inS3, inS4, String.reduceBEq, Bool.or_false, Bool.or_true, Bool.false_or, Bool.true_or, opB_sub, opB_add, opB_band, opB_bor, opB_bxor, opC_lt, opC_le, opC_gt, opC_ge, opC_ne, truR_int, tru_bool, and_low, lenT, List.length_map, List.length_cons, List.length_nil, hm8, hs (min y 8) _ (by omega)])
      rw [gc_id (by simp)]
      exact ⟨by first | rfl | simp, rfl⟩
    refine wp_eq ?_
    rw [wp_fin]
    repeat (refine step ?_; simp only [dE_var, dE_lit, dE_bin, dE_neg, dE_inv, dE_cmp, dE_chain, dE_and, dE_or, dE_not, dE_ife, dE_tup, dE_lst, dE_idx, dE_slc, dE_call, dE_bi, dE_isin, dE_meth, dE_comp, dE_gc, dE_lrng1, dE_lrng2, dEs_nil, dEs_cons, dO_none, dO_some, dB_and, dB_or, dB_not, dB_val, dBO_none, dBO_some, dI_plain, dI_rng1, dI_rng2, dI_zip, dI_enum, dI_rev, dT_name, dT_tup, dT_sub, dTs_nil, dTs_cons, dS_asg, dS_aug, dS_augS, dS_par3, dS_expr, dS_ret, dS_retN, dS_pass, dS_brk, dS_cont, dS_ite, dS_whl, dS_fr, dSs_nil, Res.ok_bind, Res.bad_bind, Res.ok_to, Res.bad_to, SR.nx_seq, SR.rt_seq, SR.bk_seq, SR.ct_seq, wp_ok, wp_bind, wp_to, swp_nx, swp_rt, swp_bk, swp_ct, swp_seq, wp_fin, fin_rt, fin_nx, wipe_nil, wipe_cons, List.getElem?_cons_zero, List.getElem?_cons_succ, List.set_cons_zero, List.set_cons_succ, List.getElem?_nil, newL_eq, seq_tup, seq_kl, iterD_tup, iterD_kl, iterS_tup, iterS_kl, truR_bool, if_true, Bool.false_eq_true, if_false, Bool.not_true, Bool.not_false, opC_eq, eqS, ofB_some, ofNB_some, opC_inS, inS2, inS3, inS4, String.reduceBEq, Bool.or_false, Bool.or_true, Bool.false_or, Bool.true_or, opB_sub, opB_add, opB_band, opB_bor, opB_bxor, opC_lt, opC_le, opC_gt, opC_ge, opC_ne, truR_int, tru_bool, and_low, lenT, List.length_map, List.length_cons, List.length_nil, List.map_cons, List.map_nil, Int.reduceEq, eq_int, w0, w1, x0, x1, hi, sh (a) (by omega)])
    rw [gc_id (by simp)]
    exact ⟨by rw [show min y 8 = y by omega], rfl⟩
theorem p_shr0 {a b x y : Nat} (ha : a ≤ 8) (h0 : 0 < a) (hb : b ≤ 8) (hx : x < 2 ^ a) (hy : y < 2 ^ b) (hc : ¬ a ≤ y) : P "shr" a [a,b] [x,y] 0 := by
  have p8 : 2 ^ a ≤ 2 ^ 8 := Nat.pow_le_pow_right (by omega) ha
  have p9 : y < 2 ^ 8 := Nat.lt_of_lt_of_le hy (Nat.pow_le_pow_right (by omega) hb)
  have hd : decide ((a : Int) ≤ y) = false := by simp only [decide_eq_true_eq, decide_eq_false_iff_not]; omega
  have hm8 : ∀ m : Mem, biD .min2 [natD y, .int 8] m = .ok (natD (min y 8)) m := fun m => by rw [bi_min]; congr 2; split <;> omega
  have hs : ∀ (n : Nat) (m : Mem), n ≤ 1000 → opB .LShift (natD x) (natD n) m = .ok (.int ((x * 2 ^ n : Nat) : Int)) m := fun n m hn => by rw [opB_shl (by omega) (by omega) (by simp; omega)]; simp
  refine ⟨((x / 2 ^ y : Nat) : Int), fun G k ra rb m h1 h2 => ⟨?_, ?_⟩⟩
  · rw [u_l_word, c_l_word]
    have w0 : idxD (.ref ra) (.int 0) m = .ok (natD (a)) m := idxL (j := 0) h1 rfl
    have w1 : idxD (.ref ra) (.int 1) m = .ok (natD (b)) m := idxL (j := 1) h1 rfl
    have x0 : idxD (.ref rb) (.int 0) m = .ok (natD (x)) m := idxL (j := 0) h2 rfl
    have x1 : idxD (.ref rb) (.int 1) m = .ok (natD (y)) m := idxL (j := 1) h2 rfl
    refine wp_eq ?_
    rw [wp_fin]
    repeat (refine step ?_; simp only [dE_var, dE_lit, dE_bin, dE_neg, dE_inv, dE_cmp, dE_chain, dE_and, dE_or, dE_not, dE_ife, dE_tup, dE_lst, dE_idx, dE_slc, dE_call, dE_bi, dE_isin, dE_meth, dE_comp, dE_gc, dE_lrng1, dE_lrng2, dEs_nil, dEs_cons, dO_none, dO_some, dB_and, dB_or, dB_not, dB_val, dBO_none, dBO_some, dI_plain, dI_rng1, dI_rng2, dI_zip, dI_enum, dI_rev, dT_name, dT_tup, dT_sub, dTs_nil, dTs_cons, dS_asg, dS_aug, dS_augS, dS_par3, dS_expr, dS_ret, dS_retN, dS_pass, dS_brk, dS_cont, dS_ite, dS_whl, dS_fr, dSs_nil, Res.ok_bind, Res.bad_bind, Res.ok_to, Res.bad_to, SR.nx_seq, SR.rt_seq, SR.bk_seq, SR.ct_seq, wp_ok, wp_bind, wp_to, swp_nx, swp_rt, swp_bk, swp_ct, swp_seq, wp_fin, fin_rt, fin_nx, wipe_nil, wipe_cons, List.getElem?_cons_zero, List.getElem?_cons_succ, List.set_cons_zero, List.set_cons_succ, List.getElem?_nil, newL_eq, seq_tup, seq_kl, iterD_tup, iterD_kl, iterS_tup, iterS_kl, truR_bool, if_true, Bool.false_eq_true, if_false, Bool.not_true, Bool.not_false, opC_eq, eqS, ofB_some, ofNB_some, opC_inS, inS2, inS3, inS4, String.reduceBEq, Bool.or_false, Bool.or_true, Bool.false_or, Bool.true_or, opB_sub, opB_add, opB_band, opB_bor, opB_bxor, opC_lt, opC_le, opC_gt, opC_ge, opC_ne, truR_int, tru_bool, and_low, lenT, List.length_map, List.length_cons, List.length_nil, w0, w1, x0, x1, sh a (by omega), hd, shrN])
    rw [gc_id (by simp)]
    exact ⟨rfl, rfl⟩
  · rw [u_result, c_result]
    have w0 : ∀ m : Mem, idxD (.tup [natD (a), natD (b)]) (.int 0) m = .ok (natD (a)) m := fun m => rfl
    have w1 : ∀ m : Mem, idxD (.tup [natD (a), natD (b)]) (.int 1) m = .ok (natD (b)) m := fun m => rfl
    have x0 : ∀ m : Mem, idxD (.tup [natD (x), natD (y)]) (.int 0) m = .ok (natD (x)) m := fun m => rfl
    have x1 : ∀ m : Mem, idxD (.tup [natD (x), natD (y)]) (.int 1) m = .ok (natD (y)) m := fun m => rfl
    have hi : runF (tabP tab) G (k + 2) "of_two" [.str "shr", natD (x), natD (y)] m = .ok (.int (((x / 2 ^ y : Nat) : Int))) m := by
      rw [u_of_two, c_of_two]
      refine wp_eq ?_
      rw [wp_fin]
      repeat (refine step ?_; simp only [dE_var, dE_lit, dE_bin, dE_neg, dE_inv, dE_cmp, dE_chain, dE_and, dE_or, dE_not, dE_ife, dE_tup, dE_lst, dE_idx, dE_slc, dE_call, dE_bi, dE_isin, dE_meth, dE_comp, dE_gc, dE_lrng1, dE_lrng2, dEs_nil, dEs_cons, dO_none, dO_some, dB_and, dB_or, dB_not, dB_val, dBO_none, dBO_some, dI_plain, dI_rng1, dI_rng2, dI_zip, dI_enum, dI_rev, dT_name, dT_tup, dT_sub, dTs_nil, dTs_cons, dS_asg, dS_aug, dS_augS, dS_par3, dS_expr, dS_ret, dS_retN, dS_pass, dS_brk, dS_cont, dS_ite, dS_whl, dS_fr, dSs_nil, Res.ok_bind, Res.bad_bind, Res.ok_to, Res.bad_to, SR.nx_seq, SR.rt_seq, SR.bk_seq, SR.ct_seq, wp_ok, wp_bind, wp_to, swp_nx, swp_rt, swp_bk, swp_ct, swp_seq, wp_fin, fin_rt, fin_nx, wipe_nil, wipe_cons, List.getElem?_cons_zero, List.getElem?_cons_succ, List.set_cons_zero, List.set_cons_succ, List.getElem?_nil, newL_eq, seq_tup, seq_kl, iterD_tup, iterD_kl, iterS_tup, iterS_kl, truR_bool, if_true, Bool.false_eq_true, if_false, Bool.not_true, Bool.not_false, opC_eq, eqS, ofB_some, ofNB_some, opC_inS, inS2, inS3, inS4, String.reduceBEq, Bool.or_false, Bool.or_true, Bool.false_or, Bool.true_or, opB_sub, opB_add, opB_band, opB_bor, opB_bxor, opC_lt, opC_le, opC_gt, opC_ge, opC_ne, truR_int, tru_bool, and_low, lenT, List.length_map, List.length_cons, List.length_nil, shrN])
      rw [gc_id (by simp)]
      exact ⟨by first | rfl | simp, rfl⟩
    refine wp_eq ?_
    rw [wp_fin]
    repeat (refine step ?_; simp only [dE_var, dE_lit, dE_bin, dE_neg, dE_inv, dE_cmp, dE_chain, dE_and, dE_or, dE_not, dE_ife, dE_tup, dE_lst, dE_idx, dE_slc, dE_call, dE_bi, dE_isin, dE_meth, dE_comp, dE_gc, dE_lrng1, dE_lrng2, dEs_nil, dEs_cons, dO_none, dO_some, dB_and, dB_or, dB_not, dB_val, dBO_none, dBO_some, dI_plain, dI_rng1, dI_rng2, dI_zip, dI_enum, dI_rev, dT_name, dT_tup, dT_sub, dTs_nil, dTs_cons, dS_asg, dS_aug, dS_augS, dS_par3, dS_expr, dS_ret, dS_retN, dS_pass, dS_brk, dS_cont, dS_ite, dS_whl, dS_fr, dSs_nil, Res.ok_bind, Res.bad_bind, Res.ok_to, Res.bad_to, SR.nx_seq, SR.rt_seq, SR.bk_seq, SR.ct_seq, wp_ok, wp_bind, wp_to, swp_nx, swp_rt, swp_bk, swp_ct, swp_seq, wp_fin, fin_rt, fin_nx, wipe_nil, wipe_cons, List.getElem?_cons_zero, List.getElem?_cons_succ, List.set_cons_zero, List.set_cons_succ, List.getElem?_nil, newL_eq, seq_tup, seq_kl, iterD_tup, iterD_kl, iterS_tup, iterS_kl, truR_bool, if_true, Bool.false_eq_true, if_false, Bool.not_true, Bool.not_false, opC_eq, eqS, ofB_some, ofNB_some, opC_inS, inS2, inS3, inS4, String.reduceBEq, Bool.or_false, Bool.or_true, Bool.false_or, Bool.true_or, opB_sub, opB_add, opB_band, opB_bor, opB_bxor, opC_lt, opC_le, opC_gt, opC_ge, opC_ne, truR_int, tru_bool, and_low, lenT, List.length_map, List.length_cons, List.length_nil, List.map_cons, List.map_nil, Int.reduceEq, eq_int, w0, w1, x0, x1, hi, sh (a) (by omega)])
    rw [gc_id (by simp)]
    exact ⟨by rw [Int.emod_eq_of_lt (Int.natCast_nonneg _) (by exact_mod_cast Nat.lt_of_le_of_lt (Nat.div_le_self x _) hx)], rfl⟩
theorem p_shl1 {a b x y : Nat} (ha : a ≤ 8) (h0 : 0 < a) (hb : b ≤ 8) (hx : x < 2 ^ a) (hy : y < 2 ^ b) (hc : a ≤ y) : P "shl" a [a,b] [x,y] 0 := by
  have p8 : 2 ^ a ≤ 2 ^ 8 := Nat.pow_le_pow_right (by omega) ha
  have p9 : y < 2 ^ 8 := Nat.lt_of_lt_of_le hy (Nat.pow_le_pow_right (by omega) hb)
  have hd : decide ((a : Int) ≤ y) = true := by simp only [decide_eq_true_eq, decide_eq_false_iff_not]; omega
  have hm8 : ∀ m : Mem, biD .min2 [natD y, .int 8] m = .ok (natD (min y 8)) m := fun m => by rw [bi_min]; congr 2; split <;> omega
  have hs : ∀ (n : Nat) (m : Mem), n ≤ 1000 → opB .LShift (natD x) (natD n) m = .ok (.int ((x * 2 ^ n : Nat) : Int)) m := fun n m hn => by rw [opB_shl (by omega) (by omega) (by simp; omega)]; simp
  refine ⟨0, fun G k ra rb m h1 h2 => ⟨?_, ?_⟩⟩
  · rw [u_l_word, c_l_word]
    have w0 : idxD (.ref ra) (.int 0) m = .ok (natD (a)) m := idxL (j := 0) h1 rfl
    have w1 : idxD (.ref ra) (.int 1) m = .ok (natD (b)) m := idxL (j := 1) h1 rfl
    have x0 : idxD (.ref rb) (.int 0) m = .ok (natD (x)) m := idxL (j := 0) h2 rfl
    have x1 : idxD (.ref rb) (.int 1) m = .ok (natD (y)) m := idxL (j := 1) h2 rfl
    refine wp_eq ?_
    rw [wp_fin]
    repeat (refine step ?_; simp only [dE_var, dE_lit, dE_bin, dE_neg, dE_inv, dE_cmp, dE_chain, dE_and, dE_or, dE_not, dE_ife, dE_tup, dE_lst, dE_idx, dE_slc, dE_call, dE_bi, dE_isin, dE_meth, dE_comp, dE_gc, dE_lrng1, dE_lrng2, dEs_nil, dEs_cons, dO_none, dO_some, dB_and, dB_or, dB_not, dB_val, dBO_none, dBO_some, dI_plain, dI_rng1, dI_rng2, dI_zip, dI_enum, dI_rev, dT_name, dT_tup, dT_sub, dTs_nil, dTs_cons, dS_asg, dS_aug, dS_augS, dS_par3, dS_expr, dS_ret, dS_retN, dS_pass, dS_brk, dS_cont, dS_ite, dS_whl, dS_fr, dSs_nil, Res.ok_bind, Res.bad_bind, Res.ok_to, Res.bad_to, SR.nx_seq, SR.rt_seq, SR.bk_seq, SR.ct_seq, wp_ok, wp_bind, wp_to, swp_nx, swp_rt, swp_bk, swp_ct, swp_seq, wp_fin, fin_rt, fin_nx, wipe_nil, wipe_cons, List.getElem?_cons_zero, List.getElem?_cons_succ, List.set_cons_zero, List.set_cons_succ, List.getElem?_nil, newL_eq, seq_tup, seq_kl, iterD_tup, iterD_kl, iterS_tup, iterS_kl, truR_bool, if_true, Bool.false_eq_true, if_false, Bool.not_true, Bool.not_false, opC_eq, eqS, ofB_some, ofNB_some, opC_inS, inS2, inS3, inS4, String.reduceBEq, Bool.or_false, Bool.or_true, Bool.false_or, Bool.true_or, opB_sub, opB_add, opB_band, opB_bor, opB_bxor, opC_lt, opC_le, opC_gt, opC_ge, opC_ne, truR_int, tru_bool, and_low, lenT, List.length_map, List.length_cons, List.length_nil, w0, w1, x0, x1, sh a (by omega), hd, hs y _ (by omega)])
    rw [gc_id (by simp)]
    exact ⟨rfl, rfl⟩
  · rw [u_result, c_result]
    have w0 : ∀ m : Mem, idxD (.tup [natD (a), natD (b)]) (.int 0) m = .ok (natD (a)) m := fun m => rfl
    have w1 : ∀ m : Mem, idxD (.tup [natD (a), natD (b)]) (.int 1) m = .ok (natD (b)) m := fun m => rfl
    have x0 : ∀ m : Mem, idxD (.tup [natD (x), natD (y)]) (.int 0) m = .ok (natD (x)) m := fun m => rfl
    have x1 : ∀ m : Mem, idxD (.tup [natD (x), natD (y)]) (.int 1) m = .ok (natD (y)) m := fun m => rfl
    have hi : runF (tabP tab) G (k + 2) "of_two" [.str "shl", natD (x), natD (y)] m = .ok (.int (((x * 2 ^ (min y 8) : Nat) : Int))) m := by
      rw [u_of_two, c_of_two]
      refine wp_eq ?_
      rw [wp_fin]
      repeat (refine step ?_; simp only [dE_var, dE_lit, dE_bin, dE_neg, dE_inv, dE_cmp, dE_chain, dE_and, dE_or, dE_not, dE_ife, dE_tup, dE_lst, dE_idx, dE_slc, dE_call, dE_bi, dE_isin, dE_meth, dE_comp, dE_gc, dE_lrng1, dE_lrng2, dEs_nil, dEs_cons, dO_none, dO_some, dB_and, dB_or, dB_not, dB_val, dBO_none, dBO_some, dI_plain, dI_rng1, dI_rng2, dI_zip, dI_enum, dI_rev, dT_name, dT_tup, dT_sub, dTs_nil, dTs_cons, dS_asg, dS_aug, dS_augS, dS_par3, dS_expr, dS_ret, dS_retN, dS_pass, dS_brk, dS_cont, dS_ite, dS_whl, dS_fr, dSs_nil, Res.ok_bind, Res.bad_bind, Res.ok_to, Res.bad_to, SR.nx_seq, SR.rt_seq, SR.bk_seq, SR.ct_seq, wp_ok, wp_bind, wp_to, swp_nx, swp_rt, swp_bk, swp_ct, swp_seq, wp_fin, fin_rt, fin_nx, wipe_nil, wipe_cons, List.getElem?_cons_zero, List.getElem?_cons_succ, List.set_cons_zero, List.set_cons_succ, List.getElem?_nil, newL_eq, seq_tup, seq_kl, iterD_tup, iterD_kl, iterS_tup, iterS_kl, truR_bool, if_true, Bool.false_eq_true, if_false, Bool.not_true, Bool.not_false, opC_eq, eqS, ofB_some, ofNB_some, opC_inS, inS2, inS3, inS4, String.reduceBEq, Bool.or_false, Bool.or_true, Bool.false_or, Bool.true_or, opB_sub, opB_add, opB_band, opB_bor, opB_bxor, opC_lt, opC_le, opC_gt, opC_ge, opC_ne, truR_int, tru_bool, and_low, lenT, List.length_map, List.length_cons, List.length_nil, hm8, hs (min y 8) _ (by omega)])
      rw [gc_id (by simp)]
      exact ⟨by first | rfl | simp, rfl⟩
    refine wp_eq ?_
    rw [wp_fin]
    repeat (refine step ?_; simp only [dE_var, dE_lit, dE_bin, dE_neg, dE_inv, dE_cmp, dE_chain, dE_and, dE_or, dE_not, dE_ife, dE_tup, dE_lst, dE_idx, dE_slc, dE_call, dE_bi, dE_isin, dE_meth, dE_comp, dE_gc, dE_lrng1, dE_lrng2, dEs_nil, dEs_cons, dO_none, dO_some, dB_and, dB_or, dB_not, dB_val, dBO_none, dBO_some, dI_plain, dI_rng1, dI_rng2, dI_zip, dI_enum, dI_rev, dT_name, dT_tup, dT_sub, dTs_nil, dTs_cons, dS_asg, dS_aug, dS_augS, dS_par3, dS_expr, dS_ret, dS_retN, dS_pass, dS_brk, dS_cont, dS_ite, dS_whl, dS_fr, dSs_nil, Res.ok_bind, Res.bad_bind, Res.ok_to, Res.bad_to, SR.nx_seq, SR.rt_seq, SR.bk_seq, SR.ct_seq, wp_ok, wp_bind, wp_to, swp_nx, swp_rt, swp_bk, swp_ct, swp_seq, wp_fin, fin_rt, fin_nx, wipe_nil, wipe_cons, List.getElem?_cons_zero, List.getElem?_cons_succ, List.set_cons_zero, List.set_cons_succ, List.getElem?_nil, newL_eq, seq_tup, seq_kl, iterD_tup, iterD_kl, iterS_tup, iterS_kl, truR_bool, if_true, Bool.false_eq_true, if_false, Bool.not_true, Bool.not_false, opC_eq, eqS, ofB_some, ofNB_some, opC_inS, inS2, inS3, inS4, String.reduceBEq, Bool.or_false, Bool.or_true, Bool.false_or, Bool.true_or, opB_sub, opB_add, opB_band, opB_bor, opB_bxor, opC_lt, opC_le, opC_gt, opC_ge, opC_ne, truR_int, tru_bool, and_low, lenT, List.length_map, List.length_cons, List.length_nil, List.map_cons, List.map_nil, Int.reduceEq, eq_int, w0, w1, x0, x1, hi, sh (a) (by omega)])
    rw [gc_id (by simp)]
    exact ⟨by obtain ⟨d, hd2⟩ : ∃ d, min y 8 = a + d := ⟨min y 8 - a, by omega⟩; rw [hd2, Nat.pow_add, ← Nat.mul_assoc, Nat.mul_comm x, Nat.mul_assoc]; exact_mod_cast congrArg D.int (congrArg Nat.cast (Nat.mul_mod_right (2 ^ a) (x * 2 ^ d))), rfl⟩
theorem p_shr1 {a b x y : Nat} (ha : a ≤ 8) (h0 : 0 < a) (hb : b ≤ 8) (hx : x < 2 ^ a) (hy : y < 2 ^ b) (hc : a ≤ y) : P "shr" a [a,b] [x,y] 0 := by
  have p8 : 2 ^ a ≤ 2 ^ 8 := Nat.pow_le_pow_right (by omega) ha
  have p9 : y < 2 ^ 8 := Nat.lt_of_lt_of_le hy (Nat.pow_le_pow_right (by omega) hb)
  have hd : decide ((a : Int) ≤ y) = true := by simp only [decide_eq_true_eq, decide_eq_false_iff_not]; omega
  have hm8 : ∀ m : Mem, biD .min2 [natD y, .int 8] m = .ok (natD (min y 8)) m := fun m => by rw [bi_min]; congr 2; split <;> omega
  have hs : ∀ (n : Nat) (m : Mem), n ≤ 1000 → opB .LShift (natD x) (natD n) m = .ok (.int ((x * 2 ^ n : Nat) : Int)) m := fun n m hn => by rw [opB_shl (by omega) (by omega) (by simp; omega)]; simp
  refine ⟨0, fun G k ra rb m h1 h2 => ⟨?_, ?_⟩⟩
  · rw [u_l_word, c_l_word]
    have w0 : idxD (.ref ra) (.int 0) m = .ok (natD (a)) m := idxL (j := 0) h1 rfl
    have w1 : idxD (.ref ra) (.int 1) m = .ok (natD (b)) m := idxL (j := 1) h1 rfl
    have x0 : idxD (.ref rb) (.int 0) m = .ok (natD (x)) m := idxL (j := 0) h2 rfl
    have x1 : idxD (.ref rb) (.int 1) m = .ok (natD (y)) m := idxL (j := 1) h2 rfl
    refine wp_eq ?_
    rw [wp_fin]
    repeat (refine step ?_; simp only [dE_var, dE_lit, dE_bin, dE_neg, dE_inv, dE_cmp, dE_chain, dE_and, dE_or, dE_not, dE_ife, dE_tup, dE_lst, dE_idx, dE_slc, dE_call, dE_bi, dE_isin, dE_meth, dE_comp, dE_gc, dE_lrng1, dE_lrng2, dEs_nil, dEs_cons, dO_none, dO_some, dB_and, dB_or, dB_not, dB_val, dBO_none, dBO_some, dI_plain, dI_rng1, dI_rng2, dI_zip, dI_enum, dI_rev, dT_name, dT_tup, dT_sub, dTs_nil, dTs_cons, dS_asg, dS_aug, dS_augS, dS_par3, dS_expr, dS_ret, dS_retN, dS_pass, dS_brk, dS_cont, dS_ite, dS_whl, dS_fr, dSs_nil, Res.ok_bind, Res.bad_bind, Res.ok_to, Res.bad_to, SR.nx_seq, SR.rt_seq, SR.bk_seq, SR.ct_seq, wp_ok, wp_bind, wp_to, swp_nx, swp_rt, swp_bk, swp_ct, swp_seq, wp_fin, fin_rt, fin_nx, wipe_nil, wipe_cons, List.getElem?_cons_zero, List.getElem?_cons_succ, List.set_cons_zero, List.set_cons_succ, List.getElem?_nil, newL_eq, seq_tup, seq_kl, iterD_tup, iterD_kl, iterS_tup, iterS_kl, truR_bool, if_true, Bool.false_eq_true, if_false, Bool.not_true, Bool.not_false, opC_eq, eqS, ofB_some, ofNB_some, opC_inS, inS2, inS3, inS4, String.reduceBEq, Bool.or_false, Bool.or_true, Bool.false_or, Bool.true_or, opB_sub, opB_add, opB_band, opB_bor, opB_bxor, opC_lt, opC_le, opC_gt, opC_ge, opC_ne, truR_int, tru_bool, and_low, lenT, List.length_map, List.length_cons, List.length_nil, w0, w1, x0, x1, sh a (by omega), hd, shrN])
    rw [gc_id (by simp)]
    exact ⟨rfl, rfl⟩
  · rw [u_result, c_result]
    have w0 : ∀ m : Mem, idxD (.tup [natD (a), natD (b)]) (.int 0) m = .ok (natD (a)) m := fun m => rfl
    have w1 : ∀ m : Mem, idxD (.tup [natD (a), natD (b)]) (.int 1) m = .ok (natD (b)) m := fun m => rfl
    have x0 : ∀ m : Mem, idxD (.tup [natD (x), natD (y)]) (.int 0) m = .ok (natD (x)) m := fun m => rfl
    have x1 : ∀ m : Mem, idxD (.tup [natD (x), natD (y)]) (.int 1) m = .ok (natD (y)) m := fun m => rfl
    have hi : runF (tabP tab) G (k + 2) "of_two" [.str "shr", natD (x), natD (y)] m = .ok (.int (((x / 2 ^ y : Nat) : Int))) m := by
      rw [u_of_two, c_of_two]
      refine wp_eq ?_
      rw [wp_fin]
      repeat (refine step ?_; simp only [dE_var, dE_lit, dE_bin, dE_neg, dE_inv, dE_cmp, dE_chain, dE_and, dE_or, dE_not, dE_ife, dE_tup, dE_lst, dE_idx, dE_slc, dE_call, dE_bi, dE_isin, dE_meth, dE_comp, dE_gc, dE_lrng1, dE_lrng2, dEs_nil, dEs_cons, dO_none, dO_some, dB_and, dB_or, dB_not, dB_val, dBO_none, dBO_some, dI_plain, dI_rng1, dI_rng2, dI_zip, dI_enum, dI_rev, dT_name, dT_tup, dT_sub, dTs_nil, dTs_cons, dS_asg, dS_aug, dS_augS, dS_par3, dS_expr, dS_ret, dS_retN, dS_pass, dS_brk, dS_cont, dS_ite, dS_whl, dS_fr, dSs_nil, Res.ok_bind, Res.bad_bind, Res.ok_to, Res.bad_to, SR.nx_seq, SR.rt_seq, SR.bk_seq, SR.ct_seq, wp_ok, wp_bind, wp_to, swp_nx, swp_rt, swp_bk, swp_ct, swp_seq, wp_fin, fin_rt, fin_nx, wipe_nil, wipe_cons, List.getElem?_cons_zero, List.getElem?_cons_succ, List.set_cons_zero, List.set_cons_succ, List.getElem?_nil, newL_eq, seq_tup, seq_kl, iterD_tup, iterD_kl, iterS_tup, iterS_kl, truR_bool, if_true, Bool.false_eq_true, if_false, Bool.not_true, Bool.not_false, opC_eq, eqS, ofB_some, ofNB_some, opC_inS, inS2, inS3, inS4, String.reduceBEq, Bool.or_false, Bool.or_true, Bool.false_or, Bool.true_or, opB_sub, opB_add, opB_band, opB_bor, opB_bxor, opC_lt, opC_le, opC_gt, opC_ge, opC_ne, truR_int, tru_bool, and_low, lenT, List.length_map, List.length_cons, List.length_nil, shrN])
      rw [gc_id (by simp)]
      exact ⟨by first | rfl | simp, rfl⟩
    refine wp_eq ?_
    rw [wp_fin]
    repeat (refine step ?_; simp only [dE_var, dE_lit, dE_bin, dE_neg, dE_inv, dE_cmp, dE_chain, dE_and, dE_or, dE_not, dE_ife, dE_tup, dE_lst, dE_idx, dE_slc, dE_call, dE_bi, dE_isin, dE_meth, dE_comp, dE_gc, dE_lrng1, dE_lrng2, dEs_nil, dEs_cons, dO_none, dO_some, dB_and, dB_or, dB_not, dB_val, dBO_none, dBO_some, dI_plain, dI_rng1, dI_rng2, dI_zip, dI_enum, dI_rev, dT_name, dT_tup, dT_sub, dTs_nil, dTs_cons, dS_asg, dS_aug, dS_augS, dS_par3, dS_expr, dS_ret, dS_retN, dS_pass, dS_brk, dS_cont, dS_ite, dS_whl, dS_fr, dSs_nil, Res.ok_bind, Res.bad_bind, Res.ok_to, Res.bad_to, SR.nx_seq, SR.rt_seq, SR.bk_seq, SR.ct_seq, wp_ok, wp_bind, wp_to, swp_nx, swp_rt, swp_bk, swp_ct, swp_seq, wp_fin, fin_rt, fin_nx, wipe_nil, wipe_cons, List.getElem?_cons_zero, List.getElem?_cons_succ, List.set_cons_zero, List.set_cons_succ, List.getElem?_nil, newL_eq, seq_tup, seq_kl, iterD_tup, iterD_kl, iterS_tup, iterS_kl, truR_bool, if_true, Bool.false_eq_true, if_false, Bool.not_true, Bool.not_false, opC_eq, eqS, ofB_some, ofNB_some, opC_inS, inS2, inS3, inS4, String.reduceBEq, Bool.or_false, Bool.or_true, Bool.false_or, Bool.true_or, opB_sub, opB_add, opB_band, opB_bor, opB_bxor, opC_lt, opC_le, opC_gt, opC_ge, opC_ne, truR_int, tru_bool, and_low, lenT, List.length_map, List.length_cons, List.length_nil, List.map_cons, List.map_nil, Int.reduceEq, eq_int, w0, w1, x0, x1, hi, sh (a) (by omega)])
    rw [gc_id (by simp)]
    exact ⟨by rw [Nat.div_eq_of_lt (Nat.lt_of_lt_of_le hx (Nat.pow_le_pow_right (by omega) hc))]; simp, rfl⟩
end PC.K01

namespace PC.K01
open PySem L2 Classical
/-! odd -/
def ones : Nat → Nat → Nat
  | 0, _ => 0
  | f + 1, x => if x = 0 then 0 else x % 2 + ones f (x / 2)
theorem ones_sum : ∀ (f x : Nat), x < 2 ^ f → ones f x = ((List.range f).map fun k => x / 2 ^ k % 2).sum
  | 0, x, _ => by simp [ones]
  | f + 1, x, h => by
    have h2 : x / 2 < 2 ^ f := by rw [Nat.pow_succ] at h; omega
    have ih := ones_sum f (x / 2) h2
    rw [List.range_succ_eq_map]
    simp only [List.map_cons, List.map_map, List.sum_cons, Nat.pow_zero, Nat.div_one]
    have e : ((fun k => x / 2 ^ k % 2) ∘ Nat.succ) = fun k => x / 2 / 2 ^ k % 2 := by
      funext k
      simp only [Function.comp, Nat.succ_eq_add_one, Nat.pow_succ, Nat.mul_comm, ← Nat.div_div_eq_div_mul]
    rw [e, ← ih]
    unfold ones
    by_cases h0 : x = 0
    · subst h0
      rw [if_pos rfl]
      cases f <;> simp [ones]
    · rw [if_neg h0]
      cases f with
      | zero => simp [ones]
      | succ f => rfl
section
variable {G : Str → Option PC.D} {k : Nat} {m : Mem}
def IOnes (x0 : Nat) (m : Mem) (μ : Nat) (σ : Loc) (m' : Mem) : Prop :=
  ∃ (x c f : Nat), σ = [some (natD x), some (natD c)] ∧ m' = m ∧ x < 2 ^ f ∧ c + ones f x = ones 8 x0 ∧ μ = x
theorem r_ones {x : Nat} (h : x < 2 ^ 8) : runF (tabP tab) G (k + 1) "ones_of" [natD x] m = .ok (natD (ones 8 x)) m := by
  rw [u_ones_of, c_ones_of]
  refine wp_eq ?_
  rw [wp_fin]
  refine step ?_
  simp only [dE_var, dE_lit, dE_bin, dE_neg, dE_inv, dE_cmp, dE_chain, dE_and, dE_or, dE_not, dE_ife, dE_tup, dE_lst, dE_idx, dE_slc, dE_call, dE_bi, dE_isin, dE_meth, dE_comp, dE_gc, dE_lrng1, dE_lrng2, dEs_nil, dEs_cons, dO_none, dO_some, dB_and, dB_or, dB_not, dB_val, dBO_none, dBO_some, dI_plain, dI_rng1, dI_rng2, dI_zip, dI_enum, dI_rev, dT_name, dT_tup, dT_sub, dTs_nil, dTs_cons, dS_asg, dS_aug, dS_augS, dS_par3, dS_expr, dS_ret, dS_retN, dS_pass, dS_brk, dS_cont, dS_ite, dS_whl, dS_fr, dSs_nil, Res.ok_bind, Res.bad_bind, Res.ok_to, Res.bad_to, SR.nx_seq, SR.rt_seq, SR.bk_seq, SR.ct_seq, wp_ok, wp_bind, wp_to, swp_nx, swp_rt, swp_bk, swp_ct, swp_seq, wp_fin, fin_rt, fin_nx, wipe_nil, wipe_cons, List.getElem?_cons_zero, List.getElem?_cons_succ, List.set_cons_zero, List.set_cons_succ, List.getElem?_nil, newL_eq, seq_tup, seq_kl, iterD_tup, iterD_kl, iterS_tup, iterS_kl, truR_bool, if_true, Bool.false_eq_true, if_false, Bool.not_true, Bool.not_false, natD_0]
  refine step ?_
  simp only [dE_var, dE_lit, dE_bin, dE_neg, dE_inv, dE_cmp, dE_chain, dE_and, dE_or, dE_not, dE_ife, dE_tup, dE_lst, dE_idx, dE_slc, dE_call, dE_bi, dE_isin, dE_meth, dE_comp, dE_gc, dE_lrng1, dE_lrng2, dEs_nil, dEs_cons, dO_none, dO_some, dB_and, dB_or, dB_not, dB_val, dBO_none, dBO_some, dI_plain, dI_rng1, dI_rng2, dI_zip, dI_enum, dI_rev, dT_name, dT_tup, dT_sub, dTs_nil, dTs_cons, dS_asg, dS_aug, dS_augS, dS_par3, dS_expr, dS_ret, dS_retN, dS_pass, dS_brk, dS_cont, dS_ite, dS_whl, dS_fr, dSs_nil, Res.ok_bind, Res.bad_bind, Res.ok_to, Res.bad_to, SR.nx_seq, SR.rt_seq, SR.bk_seq, SR.ct_seq, wp_ok, wp_bind, wp_to, swp_nx, swp_rt, swp_bk, swp_ct, swp_seq, wp_fin, fin_rt, fin_nx, wipe_nil, wipe_cons, List.getElem?_cons_zero, List.getElem?_cons_succ, List.set_cons_zero, List.set_cons_succ, List.getElem?_nil, newL_eq, seq_tup, seq_kl, iterD_tup, iterD_kl, iterS_tup, iterS_kl, truR_bool, if_true, Bool.false_eq_true, if_false, Bool.not_true, Bool.not_false]
  refine while_wp (IOnes x m) (n := x) ⟨x, 0, 8, rfl, rfl, h, by simp, rfl⟩ ?_
  rintro μ σ m' ⟨x1, c, f, rfl, rfl, hx, hc, rfl⟩
  simp only [dE_var, dE_lit, dE_bin, dE_neg, dE_inv, dE_cmp, dE_chain, dE_and, dE_or, dE_not, dE_ife, dE_tup, dE_lst, dE_idx, dE_slc, dE_call, dE_bi, dE_isin, dE_meth, dE_comp, dE_gc, dE_lrng1, dE_lrng2, dEs_nil, dEs_cons, dO_none, dO_some, dB_and, dB_or, dB_not, dB_val, dBO_none, dBO_some, dI_plain, dI_rng1, dI_rng2, dI_zip, dI_enum, dI_rev, dT_name, dT_tup, dT_sub, dTs_nil, dTs_cons, dS_asg, dS_aug, dS_augS, dS_par3, dS_expr, dS_ret, dS_retN, dS_pass, dS_brk, dS_cont, dS_ite, dS_whl, dS_fr, dSs_nil, Res.ok_bind, Res.bad_bind, Res.ok_to, Res.bad_to, SR.nx_seq, SR.rt_seq, SR.bk_seq, SR.ct_seq, wp_ok, wp_bind, wp_to, swp_nx, swp_rt, swp_bk, swp_ct, swp_seq, wp_fin, fin_rt, fin_nx, wipe_nil, wipe_cons, List.getElem?_cons_zero, List.getElem?_cons_succ, List.set_cons_zero, List.set_cons_succ, List.getElem?_nil, newL_eq, seq_tup, seq_kl, iterD_tup, iterD_kl, iterS_tup, iterS_kl, truR_bool, if_true, Bool.false_eq_true, if_false, Bool.not_true, Bool.not_false, opC_gt]
  by_cases h0 : μ = 0
  · subst h0
    have : ones f 0 = 0 := by cases f <;> simp [ones]
    simp only [natD, Int.natCast_zero, Int.lt_irrefl, decide_false, Bool.false_eq_true, if_false]
    refine step ?_
    simp only [dE_var, dE_lit, dE_bin, dE_neg, dE_inv, dE_cmp, dE_chain, dE_and, dE_or, dE_not, dE_ife, dE_tup, dE_lst, dE_idx, dE_slc, dE_call, dE_bi, dE_isin, dE_meth, dE_comp, dE_gc, dE_lrng1, dE_lrng2, dEs_nil, dEs_cons, dO_none, dO_some, dB_and, dB_or, dB_not, dB_val, dBO_none, dBO_some, dI_plain, dI_rng1, dI_rng2, dI_zip, dI_enum, dI_rev, dT_name, dT_tup, dT_sub, dTs_nil, dTs_cons, dS_asg, dS_aug, dS_augS, dS_par3, dS_expr, dS_ret, dS_retN, dS_pass, dS_brk, dS_cont, dS_ite, dS_whl, dS_fr, dSs_nil, Res.ok_bind, Res.bad_bind, Res.ok_to, Res.bad_to, SR.nx_seq, SR.rt_seq, SR.bk_seq, SR.ct_seq, wp_ok, wp_bind, wp_to, swp_nx, swp_rt, swp_bk, swp_ct, swp_seq, wp_fin, fin_rt, fin_nx, wipe_nil, wipe_cons, List.getElem?_cons_zero, List.getElem?_cons_succ, List.set_cons_zero, List.set_cons_succ, List.getElem?_nil, newL_eq, seq_tup, seq_kl, iterD_tup, iterD_kl, iterS_tup, iterS_kl, truR_bool, if_true, Bool.false_eq_true, if_false, Bool.not_true, Bool.not_false]
    rw [gc_id (by simp)]
    exact ⟨by rw [show ones 8 x = c by omega], rfl⟩
  · have hd : decide ((0 : Int) < (μ : Nat)) = true := by simp only [decide_eq_true_eq]; omega
    simp only [Int.natCast_zero, hd, if_true]
    cases f with
    | zero => simp at hx; omega
    | succ f =>
      have hu : ones (f + 1) μ = μ % 2 + ones f (μ / 2) := by
        show (if μ = 0 then 0 else μ % 2 + ones f (μ / 2)) = _
        rw [if_neg h0]
      rw [hu] at hc
      refine step ?_
      simp only [dE_var, dE_lit, dE_bin, dE_neg, dE_inv, dE_cmp, dE_chain, dE_and, dE_or, dE_not, dE_ife, dE_tup, dE_lst, dE_idx, dE_slc, dE_call, dE_bi, dE_isin, dE_meth, dE_comp, dE_gc, dE_lrng1, dE_lrng2, dEs_nil, dEs_cons, dO_none, dO_some, dB_and, dB_or, dB_not, dB_val, dBO_none, dBO_some, dI_plain, dI_rng1, dI_rng2, dI_zip, dI_enum, dI_rev, dT_name, dT_tup, dT_sub, dTs_nil, dTs_cons, dS_asg, dS_aug, dS_augS, dS_par3, dS_expr, dS_ret, dS_retN, dS_pass, dS_brk, dS_cont, dS_ite, dS_whl, dS_fr, dSs_nil, Res.ok_bind, Res.bad_bind, Res.ok_to, Res.bad_to, SR.nx_seq, SR.rt_seq, SR.bk_seq, SR.ct_seq, wp_ok, wp_bind, wp_to, swp_nx, swp_rt, swp_bk, swp_ct, swp_seq, wp_fin, fin_rt, fin_nx, wipe_nil, wipe_cons, List.getElem?_cons_zero, List.getElem?_cons_succ, List.set_cons_zero, List.set_cons_succ, List.getElem?_nil, newL_eq, seq_tup, seq_kl, iterD_tup, iterD_kl, iterS_tup, iterS_kl, truR_bool, if_true, Bool.false_eq_true, if_false, Bool.not_true, Bool.not_false, natD_1, opB_band, bandN, Nat.and_one_is_mod, opA_add]
      refine step ?_
      have sr : ∀ m : Mem, opB .RShift (natD μ) (natD 1) m = .ok (natD (μ / 2)) m := fun m => by rw [opB_shr (by omega)]; simp
      simp only [dE_var, dE_lit, dE_bin, dE_neg, dE_inv, dE_cmp, dE_chain, dE_and, dE_or, dE_not, dE_ife, dE_tup, dE_lst, dE_idx, dE_slc, dE_call, dE_bi, dE_isin, dE_meth, dE_comp, dE_gc, dE_lrng1, dE_lrng2, dEs_nil, dEs_cons, dO_none, dO_some, dB_and, dB_or, dB_not, dB_val, dBO_none, dBO_some, dI_plain, dI_rng1, dI_rng2, dI_zip, dI_enum, dI_rev, dT_name, dT_tup, dT_sub, dTs_nil, dTs_cons, dS_asg, dS_aug, dS_augS, dS_par3, dS_expr, dS_ret, dS_retN, dS_pass, dS_brk, dS_cont, dS_ite, dS_whl, dS_fr, dSs_nil, Res.ok_bind, Res.bad_bind, Res.ok_to, Res.bad_to, SR.nx_seq, SR.rt_seq, SR.bk_seq, SR.ct_seq, wp_ok, wp_bind, wp_to, swp_nx, swp_rt, swp_bk, swp_ct, swp_seq, wp_fin, fin_rt, fin_nx, wipe_nil, wipe_cons, List.getElem?_cons_zero, List.getElem?_cons_succ, List.set_cons_zero, List.set_cons_succ, List.getElem?_nil, newL_eq, seq_tup, seq_kl, iterD_tup, iterD_kl, iterS_tup, iterS_kl, truR_bool, if_true, Bool.false_eq_true, if_false, Bool.not_true, Bool.not_false, natD_1, sr]
      exact ⟨μ / 2, by omega, μ / 2, c + μ % 2, f, by simp, rfl, by rw [Nat.pow_succ] at hx; omega, by rw [← hc]; omega, rfl⟩
end
theorem p_odd {a x : Nat} (ha : a ≤ 8) (h0 : 0 < a) (hx : x < 2 ^ a) : P "odd" 1 [a] [x] 0 := by
  have hx8 : x < 2 ^ 8 := Nat.lt_of_lt_of_le hx (Nat.pow_le_pow_right (by omega) ha)
  refine ⟨((ones 8 x % 2 : Nat) : Int), fun G k ra rb m h1 h2 => ⟨?_, ?_⟩⟩
  · rw [u_l_word, c_l_word]
    have w0 : idxD (.ref ra) (.int 0) m = .ok (natD (a)) m := idxL (j := 0) h1 rfl
    have x0 : idxD (.ref rb) (.int 0) m = .ok (natD (x)) m := idxL (j := 0) h2 rfl
    have r8 : rngOk 8 := ⟨by decide, by decide⟩
    have r8' : rngD 0 8 = (List.range 8).map fun i => .int (i : Nat) := rng_nat (n := 8)
    refine wp_eq ?_
    rw [wp_fin]
    repeat (refine step ?_; simp only [dE_var, dE_lit, dE_bin, dE_neg, dE_inv, dE_cmp, dE_chain, dE_and, dE_or, dE_not, dE_ife, dE_tup, dE_lst, dE_idx, dE_slc, dE_call, dE_bi, dE_isin, dE_meth, dE_comp, dE_gc, dE_lrng1, dE_lrng2, dEs_nil, dEs_cons, dO_none, dO_some, dB_and, dB_or, dB_not, dB_val, dBO_none, dBO_some, dI_plain, dI_rng1, dI_rng2, dI_zip, dI_enum, dI_rev, dT_name, dT_tup, dT_sub, dTs_nil, dTs_cons, dS_asg, dS_aug, dS_augS, dS_par3, dS_expr, dS_ret, dS_retN, dS_pass, dS_brk, dS_cont, dS_ite, dS_whl, dS_fr, dSs_nil, Res.ok_bind, Res.bad_bind, Res.ok_to, Res.bad_to, SR.nx_seq, SR.rt_seq, SR.bk_seq, SR.ct_seq, wp_ok, wp_bind, wp_to, swp_nx, swp_rt, swp_bk, swp_ct, swp_seq, wp_fin, fin_rt, fin_nx, wipe_nil, wipe_cons, List.getElem?_cons_zero, List.getElem?_cons_succ, List.set_cons_zero, List.set_cons_succ, List.getElem?_nil, newL_eq, seq_tup, seq_kl, iterD_tup, iterD_kl, iterS_tup, iterS_kl, truR_bool, if_true, Bool.false_eq_true, if_false, Bool.not_true, Bool.not_false, opC_eq, eqS, ofB_some, opC_inS, inS2, inS3, inS4, String.reduceBEq, Bool.or_false, Bool.or_true, Bool.false_or, Bool.true_or, sh 1 (by omega), w0, x0, if_pos r8, r8'])
    rw [comp_mapL (f := fun k => natD (x / 2 ^ k % 2)) (fun i hi acc => by
      simp only [dE_var, dE_lit, dE_bin, dE_neg, dE_inv, dE_cmp, dE_chain, dE_and, dE_or, dE_not, dE_ife, dE_tup, dE_lst, dE_idx, dE_slc, dE_call, dE_bi, dE_isin, dE_meth, dE_comp, dE_gc, dE_lrng1, dE_lrng2, dEs_nil, dEs_cons, dO_none, dO_some, dB_and, dB_or, dB_not, dB_val, dBO_none, dBO_some, dI_plain, dI_rng1, dI_rng2, dI_zip, dI_enum, dI_rev, dT_name, dT_tup, dT_sub, dTs_nil, dTs_cons, dS_asg, dS_aug, dS_augS, dS_par3, dS_expr, dS_ret, dS_retN, dS_pass, dS_brk, dS_cont, dS_ite, dS_whl, dS_fr, dSs_nil, Res.ok_bind, Res.bad_bind, Res.ok_to, Res.bad_to, SR.nx_seq, SR.rt_seq, SR.bk_seq, SR.ct_seq, wp_ok, wp_bind, wp_to, swp_nx, swp_rt, swp_bk, swp_ct, swp_seq, wp_fin, fin_rt, fin_nx, wipe_nil, wipe_cons, List.getElem?_cons_zero, List.getElem?_cons_succ, List.set_cons_zero, List.set_cons_succ, List.getElem?_nil, newL_eq, seq_tup, seq_kl, iterD_tup, iterD_kl, iterS_tup, iterS_kl, truR_bool, if_true, Bool.false_eq_true, if_false, Bool.not_true, Bool.not_false, shrN, opB_band, band1N]) (by rw [sizeLine_eq]; simp)]
    have es : biD .sum [.ref m.length] (m ++ [.lst ((List.range 8).map fun k => natD (x / 2 ^ k % 2))]) = .ok (natD (ones 8 x)) (m ++ [.lst ((List.range 8).map fun k => natD (x / 2 ^ k % 2))]) := by
      have e : intsD ((List.range 8).map fun k => natD (x / 2 ^ k % 2)) = some ((List.range 8).map fun k => ((x / 2 ^ k % 2 : Nat) : Int)) := intsD_mapf
      rw [bi_sum, seqL get_at]
      simp only [Option.bind_some, e]
      rw [ones_sum 8 x hx8]
      have sc : ∀ (l : List Nat), (l.map fun p => ((x / 2 ^ p % 2 : Nat) : Int)).sum = (((l.map fun k => x / 2 ^ k % 2).sum : Nat) : Int) := by
        intro l
        induction l with
        | nil => rfl
        | cons b l ih => simp only [List.map_cons, List.sum_cons, ih, Int.natCast_add]
      rw [sc]
    simp only [dE_var, dE_lit, dE_bin, dE_neg, dE_inv, dE_cmp, dE_chain, dE_and, dE_or, dE_not, dE_ife, dE_tup, dE_lst, dE_idx, dE_slc, dE_call, dE_bi, dE_isin, dE_meth, dE_comp, dE_gc, dE_lrng1, dE_lrng2, dEs_nil, dEs_cons, dO_none, dO_some, dB_and, dB_or, dB_not, dB_val, dBO_none, dBO_some, dI_plain, dI_rng1, dI_rng2, dI_zip, dI_enum, dI_rev, dT_name, dT_tup, dT_sub, dTs_nil, dTs_cons, dS_asg, dS_aug, dS_augS, dS_par3, dS_expr, dS_ret, dS_retN, dS_pass, dS_brk, dS_cont, dS_ite, dS_whl, dS_fr, dSs_nil, Res.ok_bind, Res.bad_bind, Res.ok_to, Res.bad_to, SR.nx_seq, SR.rt_seq, SR.bk_seq, SR.ct_seq, wp_ok, wp_bind, wp_to, swp_nx, swp_rt, swp_bk, swp_ct, swp_seq, wp_fin, fin_rt, fin_nx, wipe_nil, wipe_cons, List.getElem?_cons_zero, List.getElem?_cons_succ, List.set_cons_zero, List.set_cons_succ, List.getElem?_nil, newL_eq, seq_tup, seq_kl, iterD_tup, iterD_kl, iterS_tup, iterS_kl, truR_bool, if_true, Bool.false_eq_true, if_false, Bool.not_true, Bool.not_false, es]
    rw [gc_same (by simp)]
    simp only [dE_var, dE_lit, dE_bin, dE_neg, dE_inv, dE_cmp, dE_chain, dE_and, dE_or, dE_not, dE_ife, dE_tup, dE_lst, dE_idx, dE_slc, dE_call, dE_bi, dE_isin, dE_meth, dE_comp, dE_gc, dE_lrng1, dE_lrng2, dEs_nil, dEs_cons, dO_none, dO_some, dB_and, dB_or, dB_not, dB_val, dBO_none, dBO_some, dI_plain, dI_rng1, dI_rng2, dI_zip, dI_enum, dI_rev, dT_name, dT_tup, dT_sub, dTs_nil, dTs_cons, dS_asg, dS_aug, dS_augS, dS_par3, dS_expr, dS_ret, dS_retN, dS_pass, dS_brk, dS_cont, dS_ite, dS_whl, dS_fr, dSs_nil, Res.ok_bind, Res.bad_bind, Res.ok_to, Res.bad_to, SR.nx_seq, SR.rt_seq, SR.bk_seq, SR.ct_seq, wp_ok, wp_bind, wp_to, swp_nx, swp_rt, swp_bk, swp_ct, swp_seq, wp_fin, fin_rt, fin_nx, wipe_nil, wipe_cons, List.getElem?_cons_zero, List.getElem?_cons_succ, List.set_cons_zero, List.set_cons_succ, List.getElem?_nil, newL_eq, seq_tup, seq_kl, iterD_tup, iterD_kl, iterS_tup, iterS_kl, truR_bool, if_true, Bool.false_eq_true, if_false, Bool.not_true, Bool.not_false, opB_band, band1N]
    rw [gc_id (by simp)]
    exact ⟨rfl, rfl⟩
  · rw [u_result, c_result]
    have w0 : ∀ m : Mem, idxD (.tup [natD (a)]) (.int 0) m = .ok (natD (a)) m := fun m => rfl
    have x0 : ∀ m : Mem, idxD (.tup [natD (x)]) (.int 0) m = .ok (natD (x)) m := fun m => rfl
    have hi : runF (tabP tab) G (k + 2) "of_one" [.str "odd", natD (1), natD (a), natD (x), natD (0)] m = .ok (natD (ones 8 x % 2)) m := by
      rw [u_of_one, c_of_one]
      refine wp_eq ?_
      rw [wp_fin]
      repeat (refine step ?_; simp only [dE_var, dE_lit, dE_bin, dE_neg, dE_inv, dE_cmp, dE_chain, dE_and, dE_or, dE_not, dE_ife, dE_tup, dE_lst, dE_idx, dE_slc, dE_call, dE_bi, dE_isin, dE_meth, dE_comp, dE_gc, dE_lrng1, dE_lrng2, dEs_nil, dEs_cons, dO_none, dO_some, dB_and, dB_or, dB_not, dB_val, dBO_none, dBO_some, dI_plain, dI_rng1, dI_rng2, dI_zip, dI_enum, dI_rev, dT_name, dT_tup, dT_sub, dTs_nil, dTs_cons, dS_asg, dS_aug, dS_augS, dS_par3, dS_expr, dS_ret, dS_retN, dS_pass, dS_brk, dS_cont, dS_ite, dS_whl, dS_fr, dSs_nil, Res.ok_bind, Res.bad_bind, Res.ok_to, Res.bad_to, SR.nx_seq, SR.rt_seq, SR.bk_seq, SR.ct_seq, wp_ok, wp_bind, wp_to, swp_nx, swp_rt, swp_bk, swp_ct, swp_seq, wp_fin, fin_rt, fin_nx, wipe_nil, wipe_cons, List.getElem?_cons_zero, List.getElem?_cons_succ, List.set_cons_zero, List.set_cons_succ, List.getElem?_nil, newL_eq, seq_tup, seq_kl, iterD_tup, iterD_kl, iterS_tup, iterS_kl, truR_bool, if_true, Bool.false_eq_true, if_false, Bool.not_true, Bool.not_false, opC_eq, eqS, ofB_some, String.reduceBEq, r_ones hx8, opB_band, band1N])
      rw [gc_id (by simp)]
      exact ⟨rfl, rfl⟩
    refine wp_eq ?_
    rw [wp_fin]
    repeat (refine step ?_; simp only [dE_var, dE_lit, dE_bin, dE_neg, dE_inv, dE_cmp, dE_chain, dE_and, dE_or, dE_not, dE_ife, dE_tup, dE_lst, dE_idx, dE_slc, dE_call, dE_bi, dE_isin, dE_meth, dE_comp, dE_gc, dE_lrng1, dE_lrng2, dEs_nil, dEs_cons, dO_none, dO_some, dB_and, dB_or, dB_not, dB_val, dBO_none, dBO_some, dI_plain, dI_rng1, dI_rng2, dI_zip, dI_enum, dI_rev, dT_name, dT_tup, dT_sub, dTs_nil, dTs_cons, dS_asg, dS_aug, dS_augS, dS_par3, dS_expr, dS_ret, dS_retN, dS_pass, dS_brk, dS_cont, dS_ite, dS_whl, dS_fr, dSs_nil, Res.ok_bind, Res.bad_bind, Res.ok_to, Res.bad_to, SR.nx_seq, SR.rt_seq, SR.bk_seq, SR.ct_seq, wp_ok, wp_bind, wp_to, swp_nx, swp_rt, swp_bk, swp_ct, swp_seq, wp_fin, fin_rt, fin_nx, wipe_nil, wipe_cons, List.getElem?_cons_zero, List.getElem?_cons_succ, List.set_cons_zero, List.set_cons_succ, List.getElem?_nil, newL_eq, seq_tup, seq_kl, iterD_tup, iterD_kl, iterS_tup, iterS_kl, truR_bool, if_true, Bool.false_eq_true, if_false, Bool.not_true, Bool.not_false, opC_eq, eqS, ofB_some, String.reduceBEq, List.map_cons, List.map_nil, Int.reduceEq, eq_int, lenT, List.length_cons, List.length_nil, w0, x0, hi, sh (1) (by omega), opB_sub, opB_band, and_low])
    rw [gc_id (by simp)]
    refine ⟨?_, rfl⟩
    congr 1
    have : ones 8 x % 2 < 2 := Nat.mod_lt _ (by omega)
    rw [Int.pow_one] <;> omega
end PC.K01

namespace PC.K01
open PySem L2 Classical
abbrev Fit (xs ws : List Nat) : Prop := F2 (fun x w => x < 2 ^ w) xs ws
theorem fit1 {xs : List Nat} {a : Nat} (h : Fit xs [a]) : ∃ x, xs = [x] ∧ x < 2 ^ a := by
  cases h with | cons e t => cases t; exact ⟨_, rfl, e⟩
theorem fit2 {xs : List Nat} {a b : Nat} (h : Fit xs [a, b]) : ∃ x y, xs = [x, y] ∧ x < 2 ^ a ∧ y < 2 ^ b := by
  cases h with | cons e t => cases t with | cons e2 t => cases t; exact ⟨_, _, rfl, e, e2⟩
theorem fit3 {xs : List Nat} {a b c : Nat} (h : Fit xs [a, b, c]) : ∃ x y z, xs = [x, y, z] ∧ x < 2 ^ a ∧ y < 2 ^ b ∧ z < 2 ^ c := by
  cases h with | cons e t => cases t with | cons e2 t => cases t with | cons e3 t => cases t; exact ⟨_, _, _, rfl, e, e2, e3⟩
structure Good (op : String) (w : Nat) (ws : List Nat) (low : Nat) : Prop where
  p : ∀ xs, Fit xs ws → P op w ws xs low
  small : ∀ v ∈ ws, 0 < v ∧ v ≤ 8
  len : ws.length ≤ 3
  lo : op ≠ "bits" → low = 0
def opsL : List String := ["not", "neg", "add", "sub", "mul", "and", "or", "xor", "shl", "shr", "lt", "le", "eq", "ne", "pick", "bits", "join", "wide", "sign", "any", "all", "odd"]
theorem ops_split : Txt.split (Str.ofString "not neg add sub mul and or xor shl shr lt le eq ne pick bits join wide sign any all odd") (Str.ofString " ") = opsL.map Str.ofString := by decide +kernel
section
variable {G : Str → Option PC.D} {k : Nat} {m : Mem}
theorem drawG : DrawG (runF (tabP tab) G (k + 1)) := fun n s r h1 h2 => by
  rw [u_l_draw]; exact draw_ok h1 h2
theorem popG : PopG (runF (tabP tab) G (k + 2)) := fun s r j ys h1 h2 h3 h4 => by
  rw [u_l_pop]; exact pop_ok drawG h1 h2 h3 h4
def GotShape (op : String) (s : DS) (r : Mem) (d : PC.D) (m : Mem) : Prop :=
  ∃ (s' : DS) (w : Nat) (ws : List Nat) (low : Nat), d = .tup [natD w, .ref (r.length + 2), natD low] ∧ m = s'.mem (r ++ [.lst (ws.map natD)]) ∧ s'.xs = s.xs ∧ Good op w ws low
theorem got_shape {op : String} {s s' : DS} {r : Mem} {w low : Nat} {ws : List Nat} (hx : s'.xs = s.xs) (hg : Good op w ws low) : (gcD (s.mem r) (.tup [natD w, .ref (r.length + 2), natD low]) (s'.mem (r ++ [.lst (ws.map natD)]))).wp (GotShape op s r) := by
  have : gcD (s.mem r) (.tup [natD w, .ref (r.length + 2), natD low]) (s'.mem (r ++ [.lst (ws.map natD)])) = .ok (.tup [natD w, .ref (r.length + 2), natD low]) (s'.mem (r ++ [.lst (ws.map natD)])) := by
    unfold gcD
    split
    · rw [if_neg (by simp)]
    · rfl
  rw [this]
  exact ⟨s', w, ws, low, rfl, rfl, hx, hg⟩
theorem one_ok {a v : Nat} (h : 0 < a ∧ a ≤ 8) : v ∈ [a] → 0 < v ∧ v ≤ 8 := by intro hv; simp at hv; subst hv; exact h
theorem two_ok {a b v : Nat} (h : 0 < a ∧ a ≤ 8) (h2 : 0 < b ∧ b ≤ 8) : v ∈ [a, b] → 0 < v ∧ v ≤ 8 := by intro hv; simp at hv; rcases hv with rfl | rfl <;> assumption
theorem g_not {a : Nat} (h : 0 < a ∧ a ≤ 8) : Good "not" a [a] 0 := ⟨fun xs hf => by
  obtain ⟨x, rfl, hx⟩ := fit1 hf
  exact p_not h.2 h.1 hx, fun v => one_ok h, by simp, fun _ => rfl⟩
theorem g_neg {a : Nat} (h : 0 < a ∧ a ≤ 8) : Good "neg" a [a] 0 := ⟨fun xs hf => by
  obtain ⟨x, rfl, hx⟩ := fit1 hf
  exact p_neg h.2 h.1 hx, fun v => one_ok h, by simp, fun _ => rfl⟩
theorem g_odd {a : Nat} (h : 0 < a ∧ a ≤ 8) : Good "odd" 1 [a] 0 := ⟨fun xs hf => by
  obtain ⟨x, rfl, hx⟩ := fit1 hf
  exact p_odd h.2 h.1 hx, fun v => one_ok h, by simp, fun _ => rfl⟩
theorem g_any {a : Nat} (h : 0 < a ∧ a ≤ 8) : Good "any" 1 [a] 0 := ⟨fun xs hf => by
  obtain ⟨x, rfl, hx⟩ := fit1 hf
  by_cases hc : x = 0
  · exact p_any0 h.2 h.1 hx hc
  · exact p_any1 h.2 h.1 hx hc, fun v => one_ok h, by simp, fun _ => rfl⟩
theorem g_all {a : Nat} (h : 0 < a ∧ a ≤ 8) : Good "all" 1 [a] 0 := ⟨fun xs hf => by
  obtain ⟨x, rfl, hx⟩ := fit1 hf
  by_cases hc : (x : Int) = 2 ^ a - 1
  · exact p_all1 h.2 h.1 hx hc
  · exact p_all0 h.2 h.1 hx hc, fun v => one_ok h, by simp, fun _ => rfl⟩
theorem g_wide {a b : Nat} (h : 0 < a ∧ a ≤ 8) (h2 : 0 < b ∧ b ≤ 8) : Good "wide" b [a] 0 := ⟨fun xs hf => by
  obtain ⟨x, rfl, hx⟩ := fit1 hf
  exact p_wide h.2 h.1 h2.2 hx, fun v => one_ok h, by simp, fun _ => rfl⟩
theorem g_sign {a b : Nat} (h : 0 < a ∧ a ≤ 8) (hab : a ≤ b) (hb : b ≤ 8) : Good "sign" b [a] 0 := ⟨fun xs hf => by
  obtain ⟨x, rfl, hx⟩ := fit1 hf
  by_cases hc : x / 2 ^ (a - 1) = 0
  · exact p_sign0 h.2 h.1 hab hb hx hc
  · exact p_sign1 h.2 h.1 hab hb hx hc, fun v => one_ok h, by simp, fun _ => rfl⟩
theorem g_bits {a w l : Nat} (h : 0 < a ∧ a ≤ 8) (hw : w ≤ 8) : Good "bits" w [a] l := ⟨fun xs hf => by
  obtain ⟨x, rfl, hx⟩ := fit1 hf
  exact p_bits h.2 h.1 hw hx, fun v => one_ok h, by simp, fun e => absurd rfl e⟩
theorem g_pick {a : Nat} (h : 0 < a ∧ a ≤ 8) : Good "pick" a [1, a, a] 0 := ⟨fun xs hf => by
  obtain ⟨x, y, z, rfl, hx, hy, hz⟩ := fit3 hf
  by_cases hc : x = 1
  · exact p_pick1 h.2 h.1 hc
  · exact p_pick0 h.2 h.1 hc, fun v hv => by simp at hv; rcases hv with rfl | rfl <;> omega, by simp, fun _ => rfl⟩
theorem g_join {a b : Nat} (h : 0 < a ∧ a ≤ 8) (h2 : 0 < b ∧ b ≤ 8) : Good "join" (a + b) [a, b] 0 := ⟨fun xs hf => by
  obtain ⟨x, y, rfl, hx, hy⟩ := fit2 hf
  exact p_join h.2 h.1 h2.2 hx hy, fun v => two_ok h h2, by simp, fun _ => rfl⟩
theorem g_shl {a b : Nat} (h : 0 < a ∧ a ≤ 8) (h2 : 0 < b ∧ b ≤ 8) : Good "shl" a [a, b] 0 := ⟨fun xs hf => by
  obtain ⟨x, y, rfl, hx, hy⟩ := fit2 hf
  by_cases hc : a ≤ y
  · exact p_shl1 h.2 h.1 h2.2 hx hy hc
  · exact p_shl0 h.2 h.1 h2.2 hx hy hc, fun v => two_ok h h2, by simp, fun _ => rfl⟩
theorem g_shr {a b : Nat} (h : 0 < a ∧ a ≤ 8) (h2 : 0 < b ∧ b ≤ 8) : Good "shr" a [a, b] 0 := ⟨fun xs hf => by
  obtain ⟨x, y, rfl, hx, hy⟩ := fit2 hf
  by_cases hc : a ≤ y
  · exact p_shr1 h.2 h.1 h2.2 hx hy hc
  · exact p_shr0 h.2 h.1 h2.2 hx hy hc, fun v => two_ok h h2, by simp, fun _ => rfl⟩
theorem g_lt {a : Nat} (h : 0 < a ∧ a ≤ 8) : Good "lt" 1 [a, a] 0 := ⟨fun xs hf => by
  obtain ⟨x, y, rfl, hx, hy⟩ := fit2 hf
  by_cases hc : (x : Int) < y
  · exact p_lt1 h.2 h.1 hc
  · exact p_lt0 h.2 h.1 hc, fun v => two_ok h h, by simp, fun _ => rfl⟩
theorem g_le {a : Nat} (h : 0 < a ∧ a ≤ 8) : Good "le" 1 [a, a] 0 := ⟨fun xs hf => by
  obtain ⟨x, y, rfl, hx, hy⟩ := fit2 hf
  by_cases hc : (x : Int) ≤ y
  · exact p_le1 h.2 h.1 hc
  · exact p_le0 h.2 h.1 hc, fun v => two_ok h h, by simp, fun _ => rfl⟩
theorem g_eq {a : Nat} (h : 0 < a ∧ a ≤ 8) : Good "eq" 1 [a, a] 0 := ⟨fun xs hf => by
  obtain ⟨x, y, rfl, hx, hy⟩ := fit2 hf
  by_cases hc : (x : Int) = y
  · exact p_eq1 h.2 h.1 hc
  · exact p_eq0 h.2 h.1 hc, fun v => two_ok h h, by simp, fun _ => rfl⟩
theorem g_ne {a : Nat} (h : 0 < a ∧ a ≤ 8) : Good "ne" 1 [a, a] 0 := ⟨fun xs hf => by
  obtain ⟨x, y, rfl, hx, hy⟩ := fit2 hf
  by_cases hc : (x : Int) = y
  · exact p_ne1 h.2 h.1 hc
  · exact p_ne0 h.2 h.1 hc, fun v => two_ok h h, by simp, fun _ => rfl⟩
theorem g_add {a : Nat} (h : 0 < a ∧ a ≤ 8) : Good "add" a [a, a] 0 := ⟨fun xs hf => by
  obtain ⟨x, y, rfl, hx, hy⟩ := fit2 hf
  exact p_add h.2 h.1 hx hy, fun v => two_ok h h, by simp, fun _ => rfl⟩
theorem g_sub {a : Nat} (h : 0 < a ∧ a ≤ 8) : Good "sub" a [a, a] 0 := ⟨fun xs hf => by
  obtain ⟨x, y, rfl, hx, hy⟩ := fit2 hf
  exact p_sub h.2 h.1 hx hy, fun v => two_ok h h, by simp, fun _ => rfl⟩
theorem g_mul {a : Nat} (h : 0 < a ∧ a ≤ 8) : Good "mul" a [a, a] 0 := ⟨fun xs hf => by
  obtain ⟨x, y, rfl, hx, hy⟩ := fit2 hf
  exact p_mul h.2 h.1 hx hy, fun v => two_ok h h, by simp, fun _ => rfl⟩
theorem g_and {a : Nat} (h : 0 < a ∧ a ≤ 8) : Good "and" a [a, a] 0 := ⟨fun xs hf => by
  obtain ⟨x, y, rfl, hx, hy⟩ := fit2 hf
  exact p_and h.2 h.1 hx hy, fun v => two_ok h h, by simp, fun _ => rfl⟩
theorem g_or {a : Nat} (h : 0 < a ∧ a ≤ 8) : Good "or" a [a, a] 0 := ⟨fun xs hf => by
  obtain ⟨x, y, rfl, hx, hy⟩ := fit2 hf
  exact p_or h.2 h.1 hx hy, fun v => two_ok h h, by simp, fun _ => rfl⟩
theorem g_xor {a : Nat} (h : 0 < a ∧ a ≤ 8) : Good "xor" a [a, a] 0 := ⟨fun xs hf => by
  obtain ⟨x, y, rfl, hx, hy⟩ := fit2 hf
  exact p_xor h.2 h.1 hx hy, fun v => two_ok h h, by simp, fun _ => rfl⟩
theorem r_shape {op : String} {most : Nat} {s : DS} {r : Mem} (hop : op ∈ opsL) (h0 : 0 < most) (h8 : most ≤ 8) : (runF (tabP tab) G (k + 2) "_law_shape" [.ref 1, .str op, natD most] (s.mem r)).wp (GotShape op s r) := by
  rw [u_l_shape, c_l_shape, wp_fin]
  refine step ?_
  simp only [dE_var, dE_lit, dE_bin, dE_neg, dE_inv, dE_cmp, dE_chain, dE_and, dE_or, dE_not, dE_ife, dE_tup, dE_lst, dE_idx, dE_slc, dE_call, dE_bi, dE_isin, dE_meth, dE_comp, dE_gc, dE_lrng1, dE_lrng2, dEs_nil, dEs_cons, dO_none, dO_some, dB_and, dB_or, dB_not, dB_val, dBO_none, dBO_some, dI_plain, dI_rng1, dI_rng2, dI_zip, dI_enum, dI_rev, dT_name, dT_tup, dT_sub, dTs_nil, dTs_cons, dS_asg, dS_aug, dS_augS, dS_par3, dS_expr, dS_ret, dS_retN, dS_pass, dS_brk, dS_cont, dS_ite, dS_whl, dS_fr, dSs_nil, Res.ok_bind, Res.bad_bind, Res.ok_to, Res.bad_to, SR.nx_seq, SR.rt_seq, SR.bk_seq, SR.ct_seq, wp_ok, wp_bind, wp_to, swp_nx, swp_rt, swp_bk, swp_ct, swp_seq, wp_fin, fin_rt, fin_nx, wipe_nil, wipe_cons, List.getElem?_cons_zero, List.getElem?_cons_succ, List.set_cons_zero, List.set_cons_succ, List.getElem?_nil, newL_eq, seq_tup, seq_kl, iterD_tup, iterD_kl, iterS_tup, iterS_kl, truR_bool, if_true, Bool.false_eq_true, if_false, Bool.not_true, Bool.not_false]
  refine (drawG (k := k) most s r (by omega) (by omega)).imp ?_
  rintro d m ⟨a, s1, rfl, ha, hx1, rfl⟩
  simp only [dE_var, dE_lit, dE_bin, dE_neg, dE_inv, dE_cmp, dE_chain, dE_and, dE_or, dE_not, dE_ife, dE_tup, dE_lst, dE_idx, dE_slc, dE_call, dE_bi, dE_isin, dE_meth, dE_comp, dE_gc, dE_lrng1, dE_lrng2, dEs_nil, dEs_cons, dO_none, dO_some, dB_and, dB_or, dB_not, dB_val, dBO_none, dBO_some, dI_plain, dI_rng1, dI_rng2, dI_zip, dI_enum, dI_rev, dT_name, dT_tup, dT_sub, dTs_nil, dTs_cons, dS_asg, dS_aug, dS_augS, dS_par3, dS_expr, dS_ret, dS_retN, dS_pass, dS_brk, dS_cont, dS_ite, dS_whl, dS_fr, dSs_nil, Res.ok_bind, Res.bad_bind, Res.ok_to, Res.bad_to, SR.nx_seq, SR.rt_seq, SR.bk_seq, SR.ct_seq, wp_ok, wp_bind, wp_to, swp_nx, swp_rt, swp_bk, swp_ct, swp_seq, wp_fin, fin_rt, fin_nx, wipe_nil, wipe_cons, List.getElem?_cons_zero, List.getElem?_cons_succ, List.set_cons_zero, List.set_cons_succ, List.getElem?_nil, newL_eq, seq_tup, seq_kl, iterD_tup, iterD_kl, iterS_tup, iterS_kl, truR_bool, if_true, Bool.false_eq_true, if_false, Bool.not_true, Bool.not_false, natD_1, addN]
  refine step ?_
  simp only [dE_var, dE_lit, dE_bin, dE_neg, dE_inv, dE_cmp, dE_chain, dE_and, dE_or, dE_not, dE_ife, dE_tup, dE_lst, dE_idx, dE_slc, dE_call, dE_bi, dE_isin, dE_meth, dE_comp, dE_gc, dE_lrng1, dE_lrng2, dEs_nil, dEs_cons, dO_none, dO_some, dB_and, dB_or, dB_not, dB_val, dBO_none, dBO_some, dI_plain, dI_rng1, dI_rng2, dI_zip, dI_enum, dI_rev, dT_name, dT_tup, dT_sub, dTs_nil, dTs_cons, dS_asg, dS_aug, dS_augS, dS_par3, dS_expr, dS_ret, dS_retN, dS_pass, dS_brk, dS_cont, dS_ite, dS_whl, dS_fr, dSs_nil, Res.ok_bind, Res.bad_bind, Res.ok_to, Res.bad_to, SR.nx_seq, SR.rt_seq, SR.bk_seq, SR.ct_seq, wp_ok, wp_bind, wp_to, swp_nx, swp_rt, swp_bk, swp_ct, swp_seq, wp_fin, fin_rt, fin_nx, wipe_nil, wipe_cons, List.getElem?_cons_zero, List.getElem?_cons_succ, List.set_cons_zero, List.set_cons_succ, List.getElem?_nil, newL_eq, seq_tup, seq_kl, iterD_tup, iterD_kl, iterS_tup, iterS_kl, truR_bool, if_true, Bool.false_eq_true, if_false, Bool.not_true, Bool.not_false]
  refine (drawG (k := k) most s1 r (by omega) (by omega)).imp ?_
  rintro d m ⟨b, s2, rfl, hb, hx2, rfl⟩
  simp only [dE_var, dE_lit, dE_bin, dE_neg, dE_inv, dE_cmp, dE_chain, dE_and, dE_or, dE_not, dE_ife, dE_tup, dE_lst, dE_idx, dE_slc, dE_call, dE_bi, dE_isin, dE_meth, dE_comp, dE_gc, dE_lrng1, dE_lrng2, dEs_nil, dEs_cons, dO_none, dO_some, dB_and, dB_or, dB_not, dB_val, dBO_none, dBO_some, dI_plain, dI_rng1, dI_rng2, dI_zip, dI_enum, dI_rev, dT_name, dT_tup, dT_sub, dTs_nil, dTs_cons, dS_asg, dS_aug, dS_augS, dS_par3, dS_expr, dS_ret, dS_retN, dS_pass, dS_brk, dS_cont, dS_ite, dS_whl, dS_fr, dSs_nil, Res.ok_bind, Res.bad_bind, Res.ok_to, Res.bad_to, SR.nx_seq, SR.rt_seq, SR.bk_seq, SR.ct_seq, wp_ok, wp_bind, wp_to, swp_nx, swp_rt, swp_bk, swp_ct, swp_seq, wp_fin, fin_rt, fin_nx, wipe_nil, wipe_cons, List.getElem?_cons_zero, List.getElem?_cons_succ, List.set_cons_zero, List.set_cons_succ, List.getElem?_nil, newL_eq, seq_tup, seq_kl, iterD_tup, iterD_kl, iterS_tup, iterS_kl, truR_bool, if_true, Bool.false_eq_true, if_false, Bool.not_true, Bool.not_false, natD_1, addN]
  have hA : 0 < 1 + a ∧ 1 + a ≤ 8 := by omega
  have hB : 0 < 1 + b ∧ 1 + b ≤ 8 := by omega
  have hx : s2.xs = s.xs := hx2.trans hx1
  generalize 1 + a = A at *
  generalize 1 + b = B at *
  simp only [opsL, List.mem_cons, List.not_mem_nil, or_false] at hop
  rcases hop with rfl | rfl | rfl | rfl | rfl | rfl | rfl | rfl | rfl | rfl | rfl | rfl | rfl | rfl | rfl | rfl | rfl | rfl | rfl | rfl | rfl | rfl

  · repeat (refine step ?_; simp only [dE_var, dE_lit, dE_bin, dE_neg, dE_inv, dE_cmp, dE_chain, dE_and, dE_or, dE_not, dE_ife, dE_tup, dE_lst, dE_idx, dE_slc, dE_call, dE_bi, dE_isin, dE_meth, dE_comp, dE_gc, dE_lrng1, dE_lrng2, dEs_nil, dEs_cons, dO_none, dO_some, dB_and, dB_or, dB_not, dB_val, dBO_none, dBO_some, dI_plain, dI_rng1, dI_rng2, dI_zip, dI_enum, dI_rev, dT_name, dT_tup, dT_sub, dTs_nil, dTs_cons, dS_asg, dS_aug, dS_augS, dS_par3, dS_expr, dS_ret, dS_retN, dS_pass, dS_brk, dS_cont, dS_ite, dS_whl, dS_fr, dSs_nil, Res.ok_bind, Res.bad_bind, Res.ok_to, Res.bad_to, SR.nx_seq, SR.rt_seq, SR.bk_seq, SR.ct_seq, wp_ok, wp_bind, wp_to, swp_nx, swp_rt, swp_bk, swp_ct, swp_seq, wp_fin, fin_rt, fin_nx, wipe_nil, wipe_cons, List.getElem?_cons_zero, List.getElem?_cons_succ, List.set_cons_zero, List.set_cons_succ, List.getElem?_nil, newL_eq, seq_tup, seq_kl, iterD_tup, iterD_kl, iterS_tup, iterS_kl, truR_bool, if_true, Bool.false_eq_true, if_false, Bool.not_true, Bool.not_false, opC_eq, eqS, ofB_some, opC_inS, inS2, inS3, inS4, String.reduceBEq, Bool.or_false, Bool.or_true, Bool.false_or, Bool.true_or, bi_max, bi_min, natD_1, addN, DS.len, DS.app])
    exact got_shape (ws := [A]) hx (g_not hA)
  · repeat (refine step ?_; simp only [dE_var, dE_lit, dE_bin, dE_neg, dE_inv, dE_cmp, dE_chain, dE_and, dE_or, dE_not, dE_ife, dE_tup, dE_lst, dE_idx, dE_slc, dE_call, dE_bi, dE_isin, dE_meth, dE_comp, dE_gc, dE_lrng1, dE_lrng2, dEs_nil, dEs_cons, dO_none, dO_some, dB_and, dB_or, dB_not, dB_val, dBO_none, dBO_some, dI_plain, dI_rng1, dI_rng2, dI_zip, dI_enum, dI_rev, dT_name, dT_tup, dT_sub, dTs_nil, dTs_cons, dS_asg, dS_aug, dS_augS, dS_par3, dS_expr, dS_ret, dS_retN, dS_pass, dS_brk, dS_cont, dS_ite, dS_whl, dS_fr, dSs_nil, Res.ok_bind, Res.bad_bind, Res.ok_to, Res.bad_to, SR.nx_seq, SR.rt_seq, SR.bk_seq, SR.ct_seq, wp_ok, wp_bind, wp_to, swp_nx, swp_rt, swp_bk, swp_ct, swp_seq, wp_fin, fin_rt, fin_nx, wipe_nil, wipe_cons, List.getElem?_cons_zero, List.getElem?_cons_succ, List.set_cons_zero, List.set_cons_succ, List.getElem?_nil, newL_eq, seq_tup, seq_kl, iterD_tup, iterD_kl, iterS_tup, iterS_kl, truR_bool, if_true, Bool.false_eq_true, if_false, Bool.not_true, Bool.not_false, opC_eq, eqS, ofB_some, opC_inS, inS2, inS3, inS4, String.reduceBEq, Bool.or_false, Bool.or_true, Bool.false_or, Bool.true_or, bi_max, bi_min, natD_1, addN, DS.len, DS.app])
    exact got_shape (ws := [A]) hx (g_neg hA)
  · repeat (refine step ?_; simp only [dE_var, dE_lit, dE_bin, dE_neg, dE_inv, dE_cmp, dE_chain, dE_and, dE_or, dE_not, dE_ife, dE_tup, dE_lst, dE_idx, dE_slc, dE_call, dE_bi, dE_isin, dE_meth, dE_comp, dE_gc, dE_lrng1, dE_lrng2, dEs_nil, dEs_cons, dO_none, dO_some, dB_and, dB_or, dB_not, dB_val, dBO_none, dBO_some, dI_plain, dI_rng1, dI_rng2, dI_zip, dI_enum, dI_rev, dT_name, dT_tup, dT_sub, dTs_nil, dTs_cons, dS_asg, dS_aug, dS_augS, dS_par3, dS_expr, dS_ret, dS_retN, dS_pass, dS_brk, dS_cont, dS_ite, dS_whl, dS_fr, dSs_nil, Res.ok_bind, Res.bad_bind, Res.ok_to, Res.bad_to, SR.nx_seq, SR.rt_seq, SR.bk_seq, SR.ct_seq, wp_ok, wp_bind, wp_to, swp_nx, swp_rt, swp_bk, swp_ct, swp_seq, wp_fin, fin_rt, fin_nx, wipe_nil, wipe_cons, List.getElem?_cons_zero, List.getElem?_cons_succ, List.set_cons_zero, List.set_cons_succ, List.getElem?_nil, newL_eq, seq_tup, seq_kl, iterD_tup, iterD_kl, iterS_tup, iterS_kl, truR_bool, if_true, Bool.false_eq_true, if_false, Bool.not_true, Bool.not_false, opC_eq, eqS, ofB_some, opC_inS, inS2, inS3, inS4, String.reduceBEq, Bool.or_false, Bool.or_true, Bool.false_or, Bool.true_or, bi_max, bi_min, natD_1, addN, DS.len, DS.app])
    exact got_shape (ws := [A, A]) hx (g_add hA)
  · repeat (refine step ?_; simp only [dE_var, dE_lit, dE_bin, dE_neg, dE_inv, dE_cmp, dE_chain, dE_and, dE_or, dE_not, dE_ife, dE_tup, dE_lst, dE_idx, dE_slc, dE_call, dE_bi, dE_isin, dE_meth, dE_comp, dE_gc, dE_lrng1, dE_lrng2, dEs_nil, dEs_cons, dO_none, dO_some, dB_and, dB_or, dB_not, dB_val, dBO_none, dBO_some, dI_plain, dI_rng1, dI_rng2, dI_zip, dI_enum, dI_rev, dT_name, dT_tup, dT_sub, dTs_nil, dTs_cons, dS_asg, dS_aug, dS_augS, dS_par3, dS_expr, dS_ret, dS_retN, dS_pass, dS_brk, dS_cont, dS_ite, dS_whl, dS_fr, dSs_nil, Res.ok_bind, Res.bad_bind, Res.ok_to, Res.bad_to, SR.nx_seq, SR.rt_seq, SR.bk_seq, SR.ct_seq, wp_ok, wp_bind, wp_to, swp_nx, swp_rt, swp_bk, swp_ct, swp_seq, wp_fin, fin_rt, fin_nx, wipe_nil, wipe_cons, List.getElem?_cons_zero, List.getElem?_cons_succ, List.set_cons_zero, List.set_cons_succ, List.getElem?_nil, newL_eq, seq_tup, seq_kl, iterD_tup, iterD_kl, iterS_tup, iterS_kl, truR_bool, if_true, Bool.false_eq_true, if_false, Bool.not_true, Bool.not_false, opC_eq, eqS, ofB_some, opC_inS, inS2, inS3, inS4, String.reduceBEq, Bool.or_false, Bool.or_true, Bool.false_or, Bool.true_or, bi_max, bi_min, natD_1, addN, DS.len, DS.app])
    exact got_shape (ws := [A, A]) hx (g_sub hA)
  · repeat (refine step ?_; simp only [dE_var, dE_lit, dE_bin, dE_neg, dE_inv, dE_cmp, dE_chain, dE_and, dE_or, dE_not, dE_ife, dE_tup, dE_lst, dE_idx, dE_slc, dE_call, dE_bi, dE_isin, dE_meth, dE_comp, dE_gc, dE_lrng1, dE_lrng2, dEs_nil, dEs_cons, dO_none, dO_some, dB_and, dB_or, dB_not, dB_val, dBO_none, dBO_some, dI_plain, dI_rng1, dI_rng2, dI_zip, dI_enum, dI_rev, dT_name, dT_tup, dT_sub, dTs_nil, dTs_cons, dS_asg, dS_aug, dS_augS, dS_par3, dS_expr, dS_ret, dS_retN, dS_pass, dS_brk, dS_cont, dS_ite, dS_whl, dS_fr, dSs_nil, Res.ok_bind, Res.bad_bind, Res.ok_to, Res.bad_to, SR.nx_seq, SR.rt_seq, SR.bk_seq, SR.ct_seq, wp_ok, wp_bind, wp_to, swp_nx, swp_rt, swp_bk, swp_ct, swp_seq, wp_fin, fin_rt, fin_nx, wipe_nil, wipe_cons, List.getElem?_cons_zero, List.getElem?_cons_succ, List.set_cons_zero, List.set_cons_succ, List.getElem?_nil, newL_eq, seq_tup, seq_kl, iterD_tup, iterD_kl, iterS_tup, iterS_kl, truR_bool, if_true, Bool.false_eq_true, if_false, Bool.not_true, Bool.not_false, opC_eq, eqS, ofB_some, opC_inS, inS2, inS3, inS4, String.reduceBEq, Bool.or_false, Bool.or_true, Bool.false_or, Bool.true_or, bi_max, bi_min, natD_1, addN, DS.len, DS.app])
    exact got_shape (ws := [A, A]) hx (g_mul hA)
  · repeat (refine step ?_; simp only [dE_var, dE_lit, dE_bin, dE_neg, dE_inv, dE_cmp, dE_chain, dE_and, dE_or, dE_not, dE_ife, dE_tup, dE_lst, dE_idx, dE_slc, dE_call, dE_bi, dE_isin, dE_meth, dE_comp, dE_gc, dE_lrng1, dE_lrng2, dEs_nil, dEs_cons, dO_none, dO_some, dB_and, dB_or, dB_not, dB_val, dBO_none, dBO_some, dI_plain, dI_rng1, dI_rng2, dI_zip, dI_enum, dI_rev, dT_name, dT_tup, dT_sub, dTs_nil, dTs_cons, dS_asg, dS_aug, dS_augS, dS_par3, dS_expr, dS_ret, dS_retN, dS_pass, dS_brk, dS_cont, dS_ite, dS_whl, dS_fr, dSs_nil, Res.ok_bind, Res.bad_bind, Res.ok_to, Res.bad_to, SR.nx_seq, SR.rt_seq, SR.bk_seq, SR.ct_seq, wp_ok, wp_bind, wp_to, swp_nx, swp_rt, swp_bk, swp_ct, swp_seq, wp_fin, fin_rt, fin_nx, wipe_nil, wipe_cons, List.getElem?_cons_zero, List.getElem?_cons_succ, List.set_cons_zero, List.set_cons_succ, List.getElem?_nil, newL_eq, seq_tup, seq_kl, iterD_tup, iterD_kl, iterS_tup, iterS_kl, truR_bool, if_true, Bool.false_eq_true, if_false, Bool.not_true, Bool.not_false, opC_eq, eqS, ofB_some, opC_inS, inS2, inS3, inS4, String.reduceBEq, Bool.or_false, Bool.or_true, Bool.false_or, Bool.true_or, bi_max, bi_min, natD_1, addN, DS.len, DS.app])
    exact got_shape (ws := [A, A]) hx (g_and hA)
  · repeat (refine step ?_; simp only [dE_var, dE_lit, dE_bin, dE_neg, dE_inv, dE_cmp, dE_chain, dE_and, dE_or, dE_not, dE_ife, dE_tup, dE_lst, dE_idx, dE_slc, dE_call, dE_bi, dE_isin, dE_meth, dE_comp, dE_gc, dE_lrng1, dE_lrng2, dEs_nil, dEs_cons, dO_none, dO_some, dB_and, dB_or, dB_not, dB_val, dBO_none, dBO_some, dI_plain, dI_rng1, dI_rng2, dI_zip, dI_enum, dI_rev, dT_name, dT_tup, dT_sub, dTs_nil, dTs_cons, dS_asg, dS_aug, dS_augS, dS_par3, dS_expr, dS_ret, dS_retN, dS_pass, dS_brk, dS_cont, dS_ite, dS_whl, dS_fr, dSs_nil, Res.ok_bind, Res.bad_bind, Res.ok_to, Res.bad_to, SR.nx_seq, SR.rt_seq, SR.bk_seq, SR.ct_seq, wp_ok, wp_bind, wp_to, swp_nx, swp_rt, swp_bk, swp_ct, swp_seq, wp_fin, fin_rt, fin_nx, wipe_nil, wipe_cons, List.getElem?_cons_zero, List.getElem?_cons_succ, List.set_cons_zero, List.set_cons_succ, List.getElem?_nil, newL_eq, seq_tup, seq_kl, iterD_tup, iterD_kl, iterS_tup, iterS_kl, truR_bool, if_true, Bool.false_eq_true, if_false, Bool.not_true, Bool.not_false, opC_eq, eqS, ofB_some, opC_inS, inS2, inS3, inS4, String.reduceBEq, Bool.or_false, Bool.or_true, Bool.false_or, Bool.true_or, bi_max, bi_min, natD_1, addN, DS.len, DS.app])
    exact got_shape (ws := [A, A]) hx (g_or hA)
  · repeat (refine step ?_; simp only [dE_var, dE_lit, dE_bin, dE_neg, dE_inv, dE_cmp, dE_chain, dE_and, dE_or, dE_not, dE_ife, dE_tup, dE_lst, dE_idx, dE_slc, dE_call, dE_bi, dE_isin, dE_meth, dE_comp, dE_gc, dE_lrng1, dE_lrng2, dEs_nil, dEs_cons, dO_none, dO_some, dB_and, dB_or, dB_not, dB_val, dBO_none, dBO_some, dI_plain, dI_rng1, dI_rng2, dI_zip, dI_enum, dI_rev, dT_name, dT_tup, dT_sub, dTs_nil, dTs_cons, dS_asg, dS_aug, dS_augS, dS_par3, dS_expr, dS_ret, dS_retN, dS_pass, dS_brk, dS_cont, dS_ite, dS_whl, dS_fr, dSs_nil, Res.ok_bind, Res.bad_bind, Res.ok_to, Res.bad_to, SR.nx_seq, SR.rt_seq, SR.bk_seq, SR.ct_seq, wp_ok, wp_bind, wp_to, swp_nx, swp_rt, swp_bk, swp_ct, swp_seq, wp_fin, fin_rt, fin_nx, wipe_nil, wipe_cons, List.getElem?_cons_zero, List.getElem?_cons_succ, List.set_cons_zero, List.set_cons_succ, List.getElem?_nil, newL_eq, seq_tup, seq_kl, iterD_tup, iterD_kl, iterS_tup, iterS_kl, truR_bool, if_true, Bool.false_eq_true, if_false, Bool.not_true, Bool.not_false, opC_eq, eqS, ofB_some, opC_inS, inS2, inS3, inS4, String.reduceBEq, Bool.or_false, Bool.or_true, Bool.false_or, Bool.true_or, bi_max, bi_min, natD_1, addN, DS.len, DS.app])
    exact got_shape (ws := [A, A]) hx (g_xor hA)
  · repeat (refine step ?_; simp only [dE_var, dE_lit, dE_bin, dE_neg, dE_inv, dE_cmp, dE_chain, dE_and, dE_or, dE_not, dE_ife, dE_tup, dE_lst, dE_idx, dE_slc, dE_call, dE_bi, dE_isin, dE_meth, dE_comp, dE_gc, dE_lrng1, dE_lrng2, dEs_nil, dEs_cons, dO_none, dO_some, dB_and, dB_or, dB_not, dB_val, dBO_none, dBO_some, dI_plain, dI_rng1, dI_rng2, dI_zip, dI_enum, dI_rev, dT_name, dT_tup, dT_sub, dTs_nil, dTs_cons, dS_asg, dS_aug, dS_augS, dS_par3, dS_expr, dS_ret, dS_retN, dS_pass, dS_brk, dS_cont, dS_ite, dS_whl, dS_fr, dSs_nil, Res.ok_bind, Res.bad_bind, Res.ok_to, Res.bad_to, SR.nx_seq, SR.rt_seq, SR.bk_seq, SR.ct_seq, wp_ok, wp_bind, wp_to, swp_nx, swp_rt, swp_bk, swp_ct, swp_seq, wp_fin, fin_rt, fin_nx, wipe_nil, wipe_cons, List.getElem?_cons_zero, List.getElem?_cons_succ, List.set_cons_zero, List.set_cons_succ, List.getElem?_nil, newL_eq, seq_tup, seq_kl, iterD_tup, iterD_kl, iterS_tup, iterS_kl, truR_bool, if_true, Bool.false_eq_true, if_false, Bool.not_true, Bool.not_false, opC_eq, eqS, ofB_some, opC_inS, inS2, inS3, inS4, String.reduceBEq, Bool.or_false, Bool.or_true, Bool.false_or, Bool.true_or, bi_max, bi_min, natD_1, addN, DS.len, DS.app])
    exact got_shape (ws := [A, B]) hx (g_shl hA hB)
  · repeat (refine step ?_; simp only [dE_var, dE_lit, dE_bin, dE_neg, dE_inv, dE_cmp, dE_chain, dE_and, dE_or, dE_not, dE_ife, dE_tup, dE_lst, dE_idx, dE_slc, dE_call, dE_bi, dE_isin, dE_meth, dE_comp, dE_gc, dE_lrng1, dE_lrng2, dEs_nil, dEs_cons, dO_none, dO_some, dB_and, dB_or, dB_not, dB_val, dBO_none, dBO_some, dI_plain, dI_rng1, dI_rng2, dI_zip, dI_enum, dI_rev, dT_name, dT_tup, dT_sub, dTs_nil, dTs_cons, dS_asg, dS_aug, dS_augS, dS_par3, dS_expr, dS_ret, dS_retN, dS_pass, dS_brk, dS_cont, dS_ite, dS_whl, dS_fr, dSs_nil, Res.ok_bind, Res.bad_bind, Res.ok_to, Res.bad_to, SR.nx_seq, SR.rt_seq, SR.bk_seq, SR.ct_seq, wp_ok, wp_bind, wp_to, swp_nx, swp_rt, swp_bk, swp_ct, swp_seq, wp_fin, fin_rt, fin_nx, wipe_nil, wipe_cons, List.getElem?_cons_zero, List.getElem?_cons_succ, List.set_cons_zero, List.set_cons_succ, List.getElem?_nil, newL_eq, seq_tup, seq_kl, iterD_tup, iterD_kl, iterS_tup, iterS_kl, truR_bool, if_true, Bool.false_eq_true, if_false, Bool.not_true, Bool.not_false, opC_eq, eqS, ofB_some, opC_inS, inS2, inS3, inS4, String.reduceBEq, Bool.or_false, Bool.or_true, Bool.false_or, Bool.true_or, bi_max, bi_min, natD_1, addN, DS.len, DS.app])
    exact got_shape (ws := [A, B]) hx (g_shr hA hB)
  · repeat (refine step ?_; simp only [dE_var, dE_lit, dE_bin, dE_neg, dE_inv, dE_cmp, dE_chain, dE_and, dE_or, dE_not, dE_ife, dE_tup, dE_lst, dE_idx, dE_slc, dE_call, dE_bi, dE_isin, dE_meth, dE_comp, dE_gc, dE_lrng1, dE_lrng2, dEs_nil, dEs_cons, dO_none, dO_some, dB_and, dB_or, dB_not, dB_val, dBO_none, dBO_some, dI_plain, dI_rng1, dI_rng2, dI_zip, dI_enum, dI_rev, dT_name, dT_tup, dT_sub, dTs_nil, dTs_cons, dS_asg, dS_aug, dS_augS, dS_par3, dS_expr, dS_ret, dS_retN, dS_pass, dS_brk, dS_cont, dS_ite, dS_whl, dS_fr, dSs_nil, Res.ok_bind, Res.bad_bind, Res.ok_to, Res.bad_to, SR.nx_seq, SR.rt_seq, SR.bk_seq, SR.ct_seq, wp_ok, wp_bind, wp_to, swp_nx, swp_rt, swp_bk, swp_ct, swp_seq, wp_fin, fin_rt, fin_nx, wipe_nil, wipe_cons, List.getElem?_cons_zero, List.getElem?_cons_succ, List.set_cons_zero, List.set_cons_succ, List.getElem?_nil, newL_eq, seq_tup, seq_kl, iterD_tup, iterD_kl, iterS_tup, iterS_kl, truR_bool, if_true, Bool.false_eq_true, if_false, Bool.not_true, Bool.not_false, opC_eq, eqS, ofB_some, opC_inS, inS2, inS3, inS4, String.reduceBEq, Bool.or_false, Bool.or_true, Bool.false_or, Bool.true_or, bi_max, bi_min, natD_1, addN, DS.len, DS.app])
    exact got_shape (ws := [A, A]) hx (g_lt hA)
  · repeat (refine step ?_; simp only [dE_var, dE_lit, dE_bin, dE_neg, dE_inv, dE_cmp, dE_chain, dE_and, dE_or, dE_not, dE_ife, dE_tup, dE_lst, dE_idx, dE_slc, dE_call, dE_bi, dE_isin, dE_meth, dE_comp, dE_gc, dE_lrng1, dE_lrng2, dEs_nil, dEs_cons, dO_none, dO_some, dB_and, dB_or, dB_not, dB_val, dBO_none, dBO_some, dI_plain, dI_rng1, dI_rng2, dI_zip, dI_enum, dI_rev, dT_name, dT_tup, dT_sub, dTs_nil, dTs_cons, dS_asg, dS_aug, dS_augS, dS_par3, dS_expr, dS_ret, dS_retN, dS_pass, dS_brk, dS_cont, dS_ite, dS_whl, dS_fr, dSs_nil, Res.ok_bind, Res.bad_bind, Res.ok_to, Res.bad_to, SR.nx_seq, SR.rt_seq, SR.bk_seq, SR.ct_seq, wp_ok, wp_bind, wp_to, swp_nx, swp_rt, swp_bk, swp_ct, swp_seq, wp_fin, fin_rt, fin_nx, wipe_nil, wipe_cons, List.getElem?_cons_zero, List.getElem?_cons_succ, List.set_cons_zero, List.set_cons_succ, List.getElem?_nil, newL_eq, seq_tup, seq_kl, iterD_tup, iterD_kl, iterS_tup, iterS_kl, truR_bool, if_true, Bool.false_eq_true, if_false, Bool.not_true, Bool.not_false, opC_eq, eqS, ofB_some, opC_inS, inS2, inS3, inS4, String.reduceBEq, Bool.or_false, Bool.or_true, Bool.false_or, Bool.true_or, bi_max, bi_min, natD_1, addN, DS.len, DS.app])
    exact got_shape (ws := [A, A]) hx (g_le hA)
  · repeat (refine step ?_; simp only [dE_var, dE_lit, dE_bin, dE_neg, dE_inv, dE_cmp, dE_chain, dE_and, dE_or, dE_not, dE_ife, dE_tup, dE_lst, dE_idx, dE_slc, dE_call, dE_bi, dE_isin, dE_meth, dE_comp, dE_gc, dE_lrng1, dE_lrng2, dEs_nil, dEs_cons, dO_none, dO_some, dB_and, dB_or, dB_not, dB_val, dBO_none, dBO_some, dI_plain, dI_rng1, dI_rng2, dI_zip, dI_enum, dI_rev, dT_name, dT_tup, dT_sub, dTs_nil, dTs_cons, dS_asg, dS_aug, dS_augS, dS_par3, dS_expr, dS_ret, dS_retN, dS_pass, dS_brk, dS_cont, dS_ite, dS_whl, dS_fr, dSs_nil, Res.ok_bind, Res.bad_bind, Res.ok_to, Res.bad_to, SR.nx_seq, SR.rt_seq, SR.bk_seq, SR.ct_seq, wp_ok, wp_bind, wp_to, swp_nx, swp_rt, swp_bk, swp_ct, swp_seq, wp_fin, fin_rt, fin_nx, wipe_nil, wipe_cons, List.getElem?_cons_zero, List.getElem?_cons_succ, List.set_cons_zero, List.set_cons_succ, List.getElem?_nil, newL_eq, seq_tup, seq_kl, iterD_tup, iterD_kl, iterS_tup, iterS_kl, truR_bool, if_true, Bool.false_eq_true, if_false, Bool.not_true, Bool.not_false, opC_eq, eqS, ofB_some, opC_inS, inS2, inS3, inS4, String.reduceBEq, Bool.or_false, Bool.or_true, Bool.false_or, Bool.true_or, bi_max, bi_min, natD_1, addN, DS.len, DS.app])
    exact got_shape (ws := [A, A]) hx (g_eq hA)
  · repeat (refine step ?_; simp only [dE_var, dE_lit, dE_bin, dE_neg, dE_inv, dE_cmp, dE_chain, dE_and, dE_or, dE_not, dE_ife, dE_tup, dE_lst, dE_idx, dE_slc, dE_call, dE_bi, dE_isin, dE_meth, dE_comp, dE_gc, dE_lrng1, dE_lrng2, dEs_nil, dEs_cons, dO_none, dO_some, dB_and, dB_or, dB_not, dB_val, dBO_none, dBO_some, dI_plain, dI_rng1, dI_rng2, dI_zip, dI_enum, dI_rev, dT_name, dT_tup, dT_sub, dTs_nil, dTs_cons, dS_asg, dS_aug, dS_augS, dS_par3, dS_expr, dS_ret, dS_retN, dS_pass, dS_brk, dS_cont, dS_ite, dS_whl, dS_fr, dSs_nil, Res.ok_bind, Res.bad_bind, Res.ok_to, Res.bad_to, SR.nx_seq, SR.rt_seq, SR.bk_seq, SR.ct_seq, wp_ok, wp_bind, wp_to, swp_nx, swp_rt, swp_bk, swp_ct, swp_seq, wp_fin, fin_rt, fin_nx, wipe_nil, wipe_cons, List.getElem?_cons_zero, List.getElem?_cons_succ, List.set_cons_zero, List.set_cons_succ, List.getElem?_nil, newL_eq, seq_tup, seq_kl, iterD_tup, iterD_kl, iterS_tup, iterS_kl, truR_bool, if_true, Bool.false_eq_true, if_false, Bool.not_true, Bool.not_false, opC_eq, eqS, ofB_some, opC_inS, inS2, inS3, inS4, String.reduceBEq, Bool.or_false, Bool.or_true, Bool.false_or, Bool.true_or, bi_max, bi_min, natD_1, addN, DS.len, DS.app])
    exact got_shape (ws := [A, A]) hx (g_ne hA)
  · repeat (refine step ?_; simp only [dE_var, dE_lit, dE_bin, dE_neg, dE_inv, dE_cmp, dE_chain, dE_and, dE_or, dE_not, dE_ife, dE_tup, dE_lst, dE_idx, dE_slc, dE_call, dE_bi, dE_isin, dE_meth, dE_comp, dE_gc, dE_lrng1, dE_lrng2, dEs_nil, dEs_cons, dO_none, dO_some, dB_and, dB_or, dB_not, dB_val, dBO_none, dBO_some, dI_plain, dI_rng1, dI_rng2, dI_zip, dI_enum, dI_rev, dT_name, dT_tup, dT_sub, dTs_nil, dTs_cons, dS_asg, dS_aug, dS_augS, dS_par3, dS_expr, dS_ret, dS_retN, dS_pass, dS_brk, dS_cont, dS_ite, dS_whl, dS_fr, dSs_nil, Res.ok_bind, Res.bad_bind, Res.ok_to, Res.bad_to, SR.nx_seq, SR.rt_seq, SR.bk_seq, SR.ct_seq, wp_ok, wp_bind, wp_to, swp_nx, swp_rt, swp_bk, swp_ct, swp_seq, wp_fin, fin_rt, fin_nx, wipe_nil, wipe_cons, List.getElem?_cons_zero, List.getElem?_cons_succ, List.set_cons_zero, List.set_cons_succ, List.getElem?_nil, newL_eq, seq_tup, seq_kl, iterD_tup, iterD_kl, iterS_tup, iterS_kl, truR_bool, if_true, Bool.false_eq_true, if_false, Bool.not_true, Bool.not_false, opC_eq, eqS, ofB_some, opC_inS, inS2, inS3, inS4, String.reduceBEq, Bool.or_false, Bool.or_true, Bool.false_or, Bool.true_or, bi_max, bi_min, natD_1, addN, DS.len, DS.app])
    exact got_shape (ws := [1, A, A]) hx (g_pick hA)
  · repeat (refine step ?_; simp only [dE_var, dE_lit, dE_bin, dE_neg, dE_inv, dE_cmp, dE_chain, dE_and, dE_or, dE_not, dE_ife, dE_tup, dE_lst, dE_idx, dE_slc, dE_call, dE_bi, dE_isin, dE_meth, dE_comp, dE_gc, dE_lrng1, dE_lrng2, dEs_nil, dEs_cons, dO_none, dO_some, dB_and, dB_or, dB_not, dB_val, dBO_none, dBO_some, dI_plain, dI_rng1, dI_rng2, dI_zip, dI_enum, dI_rev, dT_name, dT_tup, dT_sub, dTs_nil, dTs_cons, dS_asg, dS_aug, dS_augS, dS_par3, dS_expr, dS_ret, dS_retN, dS_pass, dS_brk, dS_cont, dS_ite, dS_whl, dS_fr, dSs_nil, Res.ok_bind, Res.bad_bind, Res.ok_to, Res.bad_to, SR.nx_seq, SR.rt_seq, SR.bk_seq, SR.ct_seq, wp_ok, wp_bind, wp_to, swp_nx, swp_rt, swp_bk, swp_ct, swp_seq, wp_fin, fin_rt, fin_nx, wipe_nil, wipe_cons, List.getElem?_cons_zero, List.getElem?_cons_succ, List.set_cons_zero, List.set_cons_succ, List.getElem?_nil, newL_eq, seq_tup, seq_kl, iterD_tup, iterD_kl, iterS_tup, iterS_kl, truR_bool, if_true, Bool.false_eq_true, if_false, Bool.not_true, Bool.not_false, opC_eq, eqS, ofB_some, opC_inS, inS2, inS3, inS4, String.reduceBEq, Bool.or_false, Bool.or_true, Bool.false_or, Bool.true_or, bi_max, bi_min, natD_1, addN, DS.len, DS.app])
    refine (drawG (k := k) A s2 r (by omega) (by omega)).imp ?_
    rintro d m ⟨l, s3, rfl, hl, hx3, rfl⟩
    refine step ?_
    simp only [dE_var, dE_lit, dE_bin, dE_neg, dE_inv, dE_cmp, dE_chain, dE_and, dE_or, dE_not, dE_ife, dE_tup, dE_lst, dE_idx, dE_slc, dE_call, dE_bi, dE_isin, dE_meth, dE_comp, dE_gc, dE_lrng1, dE_lrng2, dEs_nil, dEs_cons, dO_none, dO_some, dB_and, dB_or, dB_not, dB_val, dBO_none, dBO_some, dI_plain, dI_rng1, dI_rng2, dI_zip, dI_enum, dI_rev, dT_name, dT_tup, dT_sub, dTs_nil, dTs_cons, dS_asg, dS_aug, dS_augS, dS_par3, dS_expr, dS_ret, dS_retN, dS_pass, dS_brk, dS_cont, dS_ite, dS_whl, dS_fr, dSs_nil, Res.ok_bind, Res.bad_bind, Res.ok_to, Res.bad_to, SR.nx_seq, SR.rt_seq, SR.bk_seq, SR.ct_seq, wp_ok, wp_bind, wp_to, swp_nx, swp_rt, swp_bk, swp_ct, swp_seq, wp_fin, fin_rt, fin_nx, wipe_nil, wipe_cons, List.getElem?_cons_zero, List.getElem?_cons_succ, List.set_cons_zero, List.set_cons_succ, List.getElem?_nil, newL_eq, seq_tup, seq_kl, iterD_tup, iterD_kl, iterS_tup, iterS_kl, truR_bool, if_true, Bool.false_eq_true, if_false, Bool.not_true, Bool.not_false, subN (show l ≤ A by omega)]
    refine (drawG (k := k) (A - l) s3 r (by omega) (by omega)).imp ?_
    rintro d m ⟨w, s4, rfl, hw, hx4, rfl⟩
    simp only [dE_var, dE_lit, dE_bin, dE_neg, dE_inv, dE_cmp, dE_chain, dE_and, dE_or, dE_not, dE_ife, dE_tup, dE_lst, dE_idx, dE_slc, dE_call, dE_bi, dE_isin, dE_meth, dE_comp, dE_gc, dE_lrng1, dE_lrng2, dEs_nil, dEs_cons, dO_none, dO_some, dB_and, dB_or, dB_not, dB_val, dBO_none, dBO_some, dI_plain, dI_rng1, dI_rng2, dI_zip, dI_enum, dI_rev, dT_name, dT_tup, dT_sub, dTs_nil, dTs_cons, dS_asg, dS_aug, dS_augS, dS_par3, dS_expr, dS_ret, dS_retN, dS_pass, dS_brk, dS_cont, dS_ite, dS_whl, dS_fr, dSs_nil, Res.ok_bind, Res.bad_bind, Res.ok_to, Res.bad_to, SR.nx_seq, SR.rt_seq, SR.bk_seq, SR.ct_seq, wp_ok, wp_bind, wp_to, swp_nx, swp_rt, swp_bk, swp_ct, swp_seq, wp_fin, fin_rt, fin_nx, wipe_nil, wipe_cons, List.getElem?_cons_zero, List.getElem?_cons_succ, List.set_cons_zero, List.set_cons_succ, List.getElem?_nil, newL_eq, seq_tup, seq_kl, iterD_tup, iterD_kl, iterS_tup, iterS_kl, truR_bool, if_true, Bool.false_eq_true, if_false, Bool.not_true, Bool.not_false, natD_1, addN, DS.len, DS.app]
    exact got_shape (ws := [A]) (hx4.trans (hx3.trans hx)) (g_bits hA (by omega))
  · have m4 : ∀ (A : Nat) (m : Mem), biD .min2 [natD A, .int 4] m = .ok (natD (min A 4)) m := fun A m => by rw [bi_min]; congr 2; split <;> omega
    repeat (refine step ?_; simp only [dE_var, dE_lit, dE_bin, dE_neg, dE_inv, dE_cmp, dE_chain, dE_and, dE_or, dE_not, dE_ife, dE_tup, dE_lst, dE_idx, dE_slc, dE_call, dE_bi, dE_isin, dE_meth, dE_comp, dE_gc, dE_lrng1, dE_lrng2, dEs_nil, dEs_cons, dO_none, dO_some, dB_and, dB_or, dB_not, dB_val, dBO_none, dBO_some, dI_plain, dI_rng1, dI_rng2, dI_zip, dI_enum, dI_rev, dT_name, dT_tup, dT_sub, dTs_nil, dTs_cons, dS_asg, dS_aug, dS_augS, dS_par3, dS_expr, dS_ret, dS_retN, dS_pass, dS_brk, dS_cont, dS_ite, dS_whl, dS_fr, dSs_nil, Res.ok_bind, Res.bad_bind, Res.ok_to, Res.bad_to, SR.nx_seq, SR.rt_seq, SR.bk_seq, SR.ct_seq, wp_ok, wp_bind, wp_to, swp_nx, swp_rt, swp_bk, swp_ct, swp_seq, wp_fin, fin_rt, fin_nx, wipe_nil, wipe_cons, List.getElem?_cons_zero, List.getElem?_cons_succ, List.set_cons_zero, List.set_cons_succ, List.getElem?_nil, newL_eq, seq_tup, seq_kl, iterD_tup, iterD_kl, iterS_tup, iterS_kl, truR_bool, if_true, Bool.false_eq_true, if_false, Bool.not_true, Bool.not_false, opC_eq, eqS, ofB_some, opC_inS, inS2, inS3, inS4, String.reduceBEq, Bool.or_false, Bool.or_true, Bool.false_or, Bool.true_or, natD_1, addN, DS.len, DS.app, m4])
    exact got_shape (ws := [min A 4, min B 4]) hx (g_join (by omega) (by omega))
  · repeat (refine step ?_; simp only [dE_var, dE_lit, dE_bin, dE_neg, dE_inv, dE_cmp, dE_chain, dE_and, dE_or, dE_not, dE_ife, dE_tup, dE_lst, dE_idx, dE_slc, dE_call, dE_bi, dE_isin, dE_meth, dE_comp, dE_gc, dE_lrng1, dE_lrng2, dEs_nil, dEs_cons, dO_none, dO_some, dB_and, dB_or, dB_not, dB_val, dBO_none, dBO_some, dI_plain, dI_rng1, dI_rng2, dI_zip, dI_enum, dI_rev, dT_name, dT_tup, dT_sub, dTs_nil, dTs_cons, dS_asg, dS_aug, dS_augS, dS_par3, dS_expr, dS_ret, dS_retN, dS_pass, dS_brk, dS_cont, dS_ite, dS_whl, dS_fr, dSs_nil, Res.ok_bind, Res.bad_bind, Res.ok_to, Res.bad_to, SR.nx_seq, SR.rt_seq, SR.bk_seq, SR.ct_seq, wp_ok, wp_bind, wp_to, swp_nx, swp_rt, swp_bk, swp_ct, swp_seq, wp_fin, fin_rt, fin_nx, wipe_nil, wipe_cons, List.getElem?_cons_zero, List.getElem?_cons_succ, List.set_cons_zero, List.set_cons_succ, List.getElem?_nil, newL_eq, seq_tup, seq_kl, iterD_tup, iterD_kl, iterS_tup, iterS_kl, truR_bool, if_true, Bool.false_eq_true, if_false, Bool.not_true, Bool.not_false, opC_eq, eqS, ofB_some, opC_inS, inS2, inS3, inS4, String.reduceBEq, Bool.or_false, Bool.or_true, Bool.false_or, Bool.true_or, bi_max, bi_min, natD_1, addN, DS.len, DS.app])
    exact got_shape (ws := [A]) hx (g_wide hA hB)
  · have mn : ∀ (m : Mem), biD .min2 [natD A, natD B] m = .ok (natD (min A B)) m := fun m => by rw [bi_min]; congr 2; split <;> omega
    have mx : ∀ (m : Mem), biD .max2 [natD A, natD B] m = .ok (natD (max A B)) m := fun m => by rw [bi_max]; congr 2; split <;> omega
    repeat (refine step ?_; simp only [dE_var, dE_lit, dE_bin, dE_neg, dE_inv, dE_cmp, dE_chain, dE_and, dE_or, dE_not, dE_ife, dE_tup, dE_lst, dE_idx, dE_slc, dE_call, dE_bi, dE_isin, dE_meth, dE_comp, dE_gc, dE_lrng1, dE_lrng2, dEs_nil, dEs_cons, dO_none, dO_some, dB_and, dB_or, dB_not, dB_val, dBO_none, dBO_some, dI_plain, dI_rng1, dI_rng2, dI_zip, dI_enum, dI_rev, dT_name, dT_tup, dT_sub, dTs_nil, dTs_cons, dS_asg, dS_aug, dS_augS, dS_par3, dS_expr, dS_ret, dS_retN, dS_pass, dS_brk, dS_cont, dS_ite, dS_whl, dS_fr, dSs_nil, Res.ok_bind, Res.bad_bind, Res.ok_to, Res.bad_to, SR.nx_seq, SR.rt_seq, SR.bk_seq, SR.ct_seq, wp_ok, wp_bind, wp_to, swp_nx, swp_rt, swp_bk, swp_ct, swp_seq, wp_fin, fin_rt, fin_nx, wipe_nil, wipe_cons, List.getElem?_cons_zero, List.getElem?_cons_succ, List.set_cons_zero, List.set_cons_succ, List.getElem?_nil, newL_eq, seq_tup, seq_kl, iterD_tup, iterD_kl, iterS_tup, iterS_kl, truR_bool, if_true, Bool.false_eq_true, if_false, Bool.not_true, Bool.not_false, opC_eq, eqS, ofB_some, opC_inS, inS2, inS3, inS4, String.reduceBEq, Bool.or_false, Bool.or_true, Bool.false_or, Bool.true_or, natD_1, addN, DS.len, DS.app, mn, mx])
    exact got_shape (ws := [min A B]) hx (g_sign (by omega) (by omega) (by omega))
  · repeat (refine step ?_; simp only [dE_var, dE_lit, dE_bin, dE_neg, dE_inv, dE_cmp, dE_chain, dE_and, dE_or, dE_not, dE_ife, dE_tup, dE_lst, dE_idx, dE_slc, dE_call, dE_bi, dE_isin, dE_meth, dE_comp, dE_gc, dE_lrng1, dE_lrng2, dEs_nil, dEs_cons, dO_none, dO_some, dB_and, dB_or, dB_not, dB_val, dBO_none, dBO_some, dI_plain, dI_rng1, dI_rng2, dI_zip, dI_enum, dI_rev, dT_name, dT_tup, dT_sub, dTs_nil, dTs_cons, dS_asg, dS_aug, dS_augS, dS_par3, dS_expr, dS_ret, dS_retN, dS_pass, dS_brk, dS_cont, dS_ite, dS_whl, dS_fr, dSs_nil, Res.ok_bind, Res.bad_bind, Res.ok_to, Res.bad_to, SR.nx_seq, SR.rt_seq, SR.bk_seq, SR.ct_seq, wp_ok, wp_bind, wp_to, swp_nx, swp_rt, swp_bk, swp_ct, swp_seq, wp_fin, fin_rt, fin_nx, wipe_nil, wipe_cons, List.getElem?_cons_zero, List.getElem?_cons_succ, List.set_cons_zero, List.set_cons_succ, List.getElem?_nil, newL_eq, seq_tup, seq_kl, iterD_tup, iterD_kl, iterS_tup, iterS_kl, truR_bool, if_true, Bool.false_eq_true, if_false, Bool.not_true, Bool.not_false, opC_eq, eqS, ofB_some, opC_inS, inS2, inS3, inS4, String.reduceBEq, Bool.or_false, Bool.or_true, Bool.false_or, Bool.true_or, bi_max, bi_min, natD_1, addN, DS.len, DS.app])
    exact got_shape (ws := [A]) hx (g_any hA)
  · repeat (refine step ?_; simp only [dE_var, dE_lit, dE_bin, dE_neg, dE_inv, dE_cmp, dE_chain, dE_and, dE_or, dE_not, dE_ife, dE_tup, dE_lst, dE_idx, dE_slc, dE_call, dE_bi, dE_isin, dE_meth, dE_comp, dE_gc, dE_lrng1, dE_lrng2, dEs_nil, dEs_cons, dO_none, dO_some, dB_and, dB_or, dB_not, dB_val, dBO_none, dBO_some, dI_plain, dI_rng1, dI_rng2, dI_zip, dI_enum, dI_rev, dT_name, dT_tup, dT_sub, dTs_nil, dTs_cons, dS_asg, dS_aug, dS_augS, dS_par3, dS_expr, dS_ret, dS_retN, dS_pass, dS_brk, dS_cont, dS_ite, dS_whl, dS_fr, dSs_nil, Res.ok_bind, Res.bad_bind, Res.ok_to, Res.bad_to, SR.nx_seq, SR.rt_seq, SR.bk_seq, SR.ct_seq, wp_ok, wp_bind, wp_to, swp_nx, swp_rt, swp_bk, swp_ct, swp_seq, wp_fin, fin_rt, fin_nx, wipe_nil, wipe_cons, List.getElem?_cons_zero, List.getElem?_cons_succ, List.set_cons_zero, List.set_cons_succ, List.getElem?_nil, newL_eq, seq_tup, seq_kl, iterD_tup, iterD_kl, iterS_tup, iterS_kl, truR_bool, if_true, Bool.false_eq_true, if_false, Bool.not_true, Bool.not_false, opC_eq, eqS, ofB_some, opC_inS, inS2, inS3, inS4, String.reduceBEq, Bool.or_false, Bool.or_true, Bool.false_or, Bool.true_or, bi_max, bi_min, natD_1, addN, DS.len, DS.app])
    exact got_shape (ws := [A]) hx (g_all hA)
  · repeat (refine step ?_; simp only [dE_var, dE_lit, dE_bin, dE_neg, dE_inv, dE_cmp, dE_chain, dE_and, dE_or, dE_not, dE_ife, dE_tup, dE_lst, dE_idx, dE_slc, dE_call, dE_bi, dE_isin, dE_meth, dE_comp, dE_gc, dE_lrng1, dE_lrng2, dEs_nil, dEs_cons, dO_none, dO_some, dB_and, dB_or, dB_not, dB_val, dBO_none, dBO_some, dI_plain, dI_rng1, dI_rng2, dI_zip, dI_enum, dI_rev, dT_name, dT_tup, dT_sub, dTs_nil, dTs_cons, dS_asg, dS_aug, dS_augS, dS_par3, dS_expr, dS_ret, dS_retN, dS_pass, dS_brk, dS_cont, dS_ite, dS_whl, dS_fr, dSs_nil, Res.ok_bind, Res.bad_bind, Res.ok_to, Res.bad_to, SR.nx_seq, SR.rt_seq, SR.bk_seq, SR.ct_seq, wp_ok, wp_bind, wp_to, swp_nx, swp_rt, swp_bk, swp_ct, swp_seq, wp_fin, fin_rt, fin_nx, wipe_nil, wipe_cons, List.getElem?_cons_zero, List.getElem?_cons_succ, List.set_cons_zero, List.set_cons_succ, List.getElem?_nil, newL_eq, seq_tup, seq_kl, iterD_tup, iterD_kl, iterS_tup, iterS_kl, truR_bool, if_true, Bool.false_eq_true, if_false, Bool.not_true, Bool.not_false, opC_eq, eqS, ofB_some, opC_inS, inS2, inS3, inS4, String.reduceBEq, Bool.or_false, Bool.or_true, Bool.false_or, Bool.true_or, bi_max, bi_min, natD_1, addN, DS.len, DS.app])
    exact got_shape (ws := [A]) hx (g_odd hA)
end
end PC.K01

namespace PC.K01
open PySem L2 Classical
section
variable {G : Str → Option PC.D} {k : Nat} {m : Mem}
abbrev bD (bs : List Nat) : PC.D := .tup (bs.map natD)
def GotRows (ws : List Nat) (s : DS) (r : Mem) (d : PC.D) (m : Mem) : Prop :=
  ∃ (s' : DS) (rows : List (List Nat)), d = .ref (r.length + 2) ∧ m = s'.mem (r ++ [.lst (rows.map bD)]) ∧ s'.xs = s.xs ∧ (∀ xs ∈ rows, Fit xs ws) ∧ rows.length ≤ 100
theorem got_rows {ws : List Nat} {s s' : DS} {r j : Mem} {rows : List (List Nat)} (hx : s'.xs = s.xs) (hf : ∀ xs ∈ rows, Fit xs ws) (hl : rows.length ≤ 100) : (gcD (s.mem r) (.ref (r.length + 2)) (s'.mem (r ++ .lst (rows.map bD) :: j))).wp (GotRows ws s r) := by
  rw [gc_dsN (o := .lst (rows.map bD)) hx (by simp) (by omega) (by simp)]
  exact ⟨s', rows, rfl, rfl, hx, hf, hl⟩
theorem f2_snoc {α β : Type} {p : α → β → Prop} {l : List α} {k : List β} {a : α} {b : β} (h : F2 p l k) (e : p a b) : F2 p (l ++ [a]) (k ++ [b]) := f2_app h (.cons e .nil)
def IR1 (q : Nat) (ws : List Nat) (many : PC.D) (s : DS) (r : Mem) (done : List Nat) (σ : Loc) (m : Mem) : Prop :=
  ∃ (rows : List (List Nat)) (j : Mem) (x y z : Option PC.D), σ = [some (.ref 1), some (.ref q), some many, some (.ref (r.length + 2)), x, y, z, none, none] ∧ m = s.mem (r ++ .lst (rows.map bD) :: j) ∧ (∀ xs ∈ rows, Fit xs ws) ∧ rows.length = done.length
def IR2 (q : Nat) (many : PC.D) (s : DS) (r : Mem) (rows : List (List Nat)) (j : Mem) (done : List Nat) (σ : Loc) (m : Mem) : Prop :=
  ∃ (n : Nat) (xs : List Nat) (z : Option PC.D), σ = [some (.ref 1), some (.ref q), some many, some (.ref (r.length + 2)), some (natD n), some (.ref (r.length + j.length + 3)), z, none, none] ∧ m = s.mem (r ++ .lst (rows.map bD) :: (j ++ [.lst (xs.map natD)])) ∧ Fit xs done
def IR3 (q : Nat) (ws : List Nat) (many : PC.D) (s : DS) (r : Mem) (done : List Nat) (σ : Loc) (m : Mem) : Prop :=
  ∃ (s' : DS) (rows : List (List Nat)) (j : Mem) (y z u v : Option PC.D), σ = [some (.ref 1), some (.ref q), some many, some (.ref (r.length + 2)), none, y, z, u, v] ∧ m = s'.mem (r ++ .lst (rows.map bD) :: j) ∧ (∀ xs ∈ rows, Fit xs ws) ∧ rows.length = done.length ∧ s'.xs = s.xs
def IR4 (q : Nat) (many : PC.D) (s : DS) (r : Mem) (rows : List (List Nat)) (l0 : Nat) (u : Option PC.D) (done : List Nat) (σ : Loc) (m : Mem) : Prop :=
  ∃ (s' : DS) (xs : List Nat) (j j2 : Mem) (z v : Option PC.D), σ = [some (.ref 1), some (.ref q), some many, some (.ref (r.length + 2)), none, some (.ref (r.length + l0 + 3)), z, u, v] ∧ m = s'.mem (r ++ .lst (rows.map bD) :: (j ++ .lst (xs.map natD) :: j2)) ∧ j.length = l0 ∧ Fit xs done ∧ s'.xs = s.xs
theorem r_rows {q : Nat} {ws : List Nat} {s : DS} {r : Mem} (hq : r[q]? = some (.lst (ws.map natD))) (hsm : ∀ v ∈ ws, 0 < v ∧ v ≤ 8) (hlen : ws.length ≤ 3) : (runF (tabP tab) G (k + 2) "_law_rows" [.ref 1, .ref (q + 2)] (s.mem r)).wp (GotRows ws s r) := by
  have hql : q < r.length := (List.getElem?_eq_some_iff.mp hq).1
  have gq : ∀ (s : DS) (j : Mem), (s.mem (r ++ j))[q + 2]? = some (.lst (ws.map natD)) := fun s j => by
    rw [DS.get2]; exact pre_get (List.prefix_append _ _) hq
  have es : biD .sum [.ref (q + 2)] (s.mem r) = .ok (natD ws.sum) (s.mem r) := by
    have g0 : (s.mem r)[q + 2]? = some (.lst (ws.map natD)) := by rw [DS.get2]; exact hq
    have e : intsD (ws.map natD) = some (ws.map fun b : Nat => (b : Int)) := intsD_mapf
    rw [bi_sum, seqL g0]
    simp only [Option.bind_some, e]
    have sc : ∀ (l : List Nat), (l.map fun p : Nat => (p : Int)).sum = ((l.sum : Nat) : Int) := by
      intro l
      induction l with
      | nil => rfl
      | cons b l ih => simp only [List.map_cons, List.sum_cons, ih, Int.natCast_add]
    rw [sc]
  rw [u_l_rows, c_l_rows, wp_fin]
  refine step ?_
  simp only [dE_var, dE_lit, dE_bin, dE_neg, dE_inv, dE_cmp, dE_chain, dE_and, dE_or, dE_not, dE_ife, dE_tup, dE_lst, dE_idx, dE_slc, dE_call, dE_bi, dE_isin, dE_meth, dE_comp, dE_gc, dE_lrng1, dE_lrng2, dEs_nil, dEs_cons, dO_none, dO_some, dB_and, dB_or, dB_not, dB_val, dBO_none, dBO_some, dI_plain, dI_rng1, dI_rng2, dI_zip, dI_enum, dI_rev, dT_name, dT_tup, dT_sub, dTs_nil, dTs_cons, dS_asg, dS_aug, dS_augS, dS_par3, dS_expr, dS_ret, dS_retN, dS_pass, dS_brk, dS_cont, dS_ite, dS_whl, dS_fr, dSs_nil, Res.ok_bind, Res.bad_bind, Res.ok_to, Res.bad_to, SR.nx_seq, SR.rt_seq, SR.bk_seq, SR.ct_seq, wp_ok, wp_bind, wp_to, swp_nx, swp_rt, swp_bk, swp_ct, swp_seq, wp_fin, fin_rt, fin_nx, wipe_nil, wipe_cons, List.getElem?_cons_zero, List.getElem?_cons_succ, List.set_cons_zero, List.set_cons_succ, List.getElem?_nil, newL_eq, seq_tup, seq_kl, iterD_tup, iterD_kl, iterS_tup, iterS_kl, truR_bool, if_true, Bool.false_eq_true, if_false, Bool.not_true, Bool.not_false, es]
  refine step ?_
  simp only [dE_var, dE_lit, dE_bin, dE_neg, dE_inv, dE_cmp, dE_chain, dE_and, dE_or, dE_not, dE_ife, dE_tup, dE_lst, dE_idx, dE_slc, dE_call, dE_bi, dE_isin, dE_meth, dE_comp, dE_gc, dE_lrng1, dE_lrng2, dEs_nil, dEs_cons, dO_none, dO_some, dB_and, dB_or, dB_not, dB_val, dBO_none, dBO_some, dI_plain, dI_rng1, dI_rng2, dI_zip, dI_enum, dI_rev, dT_name, dT_tup, dT_sub, dTs_nil, dTs_cons, dS_asg, dS_aug, dS_augS, dS_par3, dS_expr, dS_ret, dS_retN, dS_pass, dS_brk, dS_cont, dS_ite, dS_whl, dS_fr, dSs_nil, Res.ok_bind, Res.bad_bind, Res.ok_to, Res.bad_to, SR.nx_seq, SR.rt_seq, SR.bk_seq, SR.ct_seq, wp_ok, wp_bind, wp_to, swp_nx, swp_rt, swp_bk, swp_ct, swp_seq, wp_fin, fin_rt, fin_nx, wipe_nil, wipe_cons, List.getElem?_cons_zero, List.getElem?_cons_succ, List.set_cons_zero, List.set_cons_succ, List.getElem?_nil, newL_eq, seq_tup, seq_kl, iterD_tup, iterD_kl, iterS_tup, iterS_kl, truR_bool, if_true, Bool.false_eq_true, if_false, Bool.not_true, Bool.not_false, DS.len, DS.app]
  refine step ?_
  simp only [dE_var, dE_lit, dE_bin, dE_neg, dE_inv, dE_cmp, dE_chain, dE_and, dE_or, dE_not, dE_ife, dE_tup, dE_lst, dE_idx, dE_slc, dE_call, dE_bi, dE_isin, dE_meth, dE_comp, dE_gc, dE_lrng1, dE_lrng2, dEs_nil, dEs_cons, dO_none, dO_some, dB_and, dB_or, dB_not, dB_val, dBO_none, dBO_some, dI_plain, dI_rng1, dI_rng2, dI_zip, dI_enum, dI_rev, dT_name, dT_tup, dT_sub, dTs_nil, dTs_cons, dS_asg, dS_aug, dS_augS, dS_par3, dS_expr, dS_ret, dS_retN, dS_pass, dS_brk, dS_cont, dS_ite, dS_whl, dS_fr, dSs_nil, Res.ok_bind, Res.bad_bind, Res.ok_to, Res.bad_to, SR.nx_seq, SR.rt_seq, SR.bk_seq, SR.ct_seq, wp_ok, wp_bind, wp_to, swp_nx, swp_rt, swp_bk, swp_ct, swp_seq, wp_fin, fin_rt, fin_nx, wipe_nil, wipe_cons, List.getElem?_cons_zero, List.getElem?_cons_succ, List.set_cons_zero, List.set_cons_succ, List.getElem?_nil, newL_eq, seq_tup, seq_kl, iterD_tup, iterD_kl, iterS_tup, iterS_kl, truR_bool, if_true, Bool.false_eq_true, if_false, Bool.not_true, Bool.not_false, opC_le]
  by_cases h6 : (ws.sum : Int) ≤ 6
  · simp only [h6, decide_true, if_true]
    refine step ?_
    have h64 : 2 ^ ws.sum ≤ 64 := Nat.pow_le_pow_right (n := 2) (by omega) (show ws.sum ≤ 6 by omega)
    have r0 : rngOk ((2 ^ ws.sum : Nat) : Int) := rngOk_nat (by omega)
    simp only [dE_var, dE_lit, dE_bin, dE_neg, dE_inv, dE_cmp, dE_chain, dE_and, dE_or, dE_not, dE_ife, dE_tup, dE_lst, dE_idx, dE_slc, dE_call, dE_bi, dE_isin, dE_meth, dE_comp, dE_gc, dE_lrng1, dE_lrng2, dEs_nil, dEs_cons, dO_none, dO_some, dB_and, dB_or, dB_not, dB_val, dBO_none, dBO_some, dI_plain, dI_rng1, dI_rng2, dI_zip, dI_enum, dI_rev, dT_name, dT_tup, dT_sub, dTs_nil, dTs_cons, dS_asg, dS_aug, dS_augS, dS_par3, dS_expr, dS_ret, dS_retN, dS_pass, dS_brk, dS_cont, dS_ite, dS_whl, dS_fr, dSs_nil, Res.ok_bind, Res.bad_bind, Res.ok_to, Res.bad_to, SR.nx_seq, SR.rt_seq, SR.bk_seq, SR.ct_seq, wp_ok, wp_bind, wp_to, swp_nx, swp_rt, swp_bk, swp_ct, swp_seq, wp_fin, fin_rt, fin_nx, wipe_nil, wipe_cons, List.getElem?_cons_zero, List.getElem?_cons_succ, List.set_cons_zero, List.set_cons_succ, List.getElem?_nil, newL_eq, seq_tup, seq_kl, iterD_tup, iterD_kl, iterS_tup, iterS_kl, truR_bool, if_true, Bool.false_eq_true, if_false, Bool.not_true, Bool.not_false, natD_1, shl1 (show ws.sum ≤ 1000000 by omega), if_pos r0, rng_nat]
    refine for_wpL (IR1 (q + 2) ws (natD ws.sum) s r) ⟨[], [], none, none, none, rfl, rfl, by simp, rfl⟩ (fun _ _ _ _ => by simp) ?_ ?_
    · rintro done n σ m hn hpre ⟨rows, j, x, y, z, rfl, rfl, hf, hrl⟩
      have hdn : done.length < 2 ^ ws.sum := by have := hpre.length_le; simp at this; omega
      simp only [dE_var, dE_lit, dE_bin, dE_neg, dE_inv, dE_cmp, dE_chain, dE_and, dE_or, dE_not, dE_ife, dE_tup, dE_lst, dE_idx, dE_slc, dE_call, dE_bi, dE_isin, dE_meth, dE_comp, dE_gc, dE_lrng1, dE_lrng2, dEs_nil, dEs_cons, dO_none, dO_some, dB_and, dB_or, dB_not, dB_val, dBO_none, dBO_some, dI_plain, dI_rng1, dI_rng2, dI_zip, dI_enum, dI_rev, dT_name, dT_tup, dT_sub, dTs_nil, dTs_cons, dS_asg, dS_aug, dS_augS, dS_par3, dS_expr, dS_ret, dS_retN, dS_pass, dS_brk, dS_cont, dS_ite, dS_whl, dS_fr, dSs_nil, Res.ok_bind, Res.bad_bind, Res.ok_to, Res.bad_to, SR.nx_seq, SR.rt_seq, SR.bk_seq, SR.ct_seq, wp_ok, wp_bind, wp_to, swp_nx, swp_rt, swp_bk, swp_ct, swp_seq, wp_fin, fin_rt, fin_nx, wipe_nil, wipe_cons, List.getElem?_cons_zero, List.getElem?_cons_succ, List.set_cons_zero, List.set_cons_succ, List.getElem?_nil, newL_eq, seq_tup, seq_kl, iterD_tup, iterD_kl, iterS_tup, iterS_kl, truR_bool, if_true, Bool.false_eq_true, if_false, Bool.not_true, Bool.not_false]
      refine step ?_
      simp only [dE_var, dE_lit, dE_bin, dE_neg, dE_inv, dE_cmp, dE_chain, dE_and, dE_or, dE_not, dE_ife, dE_tup, dE_lst, dE_idx, dE_slc, dE_call, dE_bi, dE_isin, dE_meth, dE_comp, dE_gc, dE_lrng1, dE_lrng2, dEs_nil, dEs_cons, dO_none, dO_some, dB_and, dB_or, dB_not, dB_val, dBO_none, dBO_some, dI_plain, dI_rng1, dI_rng2, dI_zip, dI_enum, dI_rev, dT_name, dT_tup, dT_sub, dTs_nil, dTs_cons, dS_asg, dS_aug, dS_augS, dS_par3, dS_expr, dS_ret, dS_retN, dS_pass, dS_brk, dS_cont, dS_ite, dS_whl, dS_fr, dSs_nil, Res.ok_bind, Res.bad_bind, Res.ok_to, Res.bad_to, SR.nx_seq, SR.rt_seq, SR.bk_seq, SR.ct_seq, wp_ok, wp_bind, wp_to, swp_nx, swp_rt, swp_bk, swp_ct, swp_seq, wp_fin, fin_rt, fin_nx, wipe_nil, wipe_cons, List.getElem?_cons_zero, List.getElem?_cons_succ, List.set_cons_zero, List.set_cons_succ, List.getElem?_nil, newL_eq, seq_tup, seq_kl, iterD_tup, iterD_kl, iterS_tup, iterS_kl, truR_bool, if_true, Bool.false_eq_true, if_false, Bool.not_true, Bool.not_false, DS.len, DS.app, List.append_assoc, List.cons_append, List.length_append, List.length_cons]
      refine step ?_
      have g1 := gq s (.lst (rows.map bD) :: (j ++ [MO.lst []]))
      simp only [dE_var, dE_lit, dE_bin, dE_neg, dE_inv, dE_cmp, dE_chain, dE_and, dE_or, dE_not, dE_ife, dE_tup, dE_lst, dE_idx, dE_slc, dE_call, dE_bi, dE_isin, dE_meth, dE_comp, dE_gc, dE_lrng1, dE_lrng2, dEs_nil, dEs_cons, dO_none, dO_some, dB_and, dB_or, dB_not, dB_val, dBO_none, dBO_some, dI_plain, dI_rng1, dI_rng2, dI_zip, dI_enum, dI_rev, dT_name, dT_tup, dT_sub, dTs_nil, dTs_cons, dS_asg, dS_aug, dS_augS, dS_par3, dS_expr, dS_ret, dS_retN, dS_pass, dS_brk, dS_cont, dS_ite, dS_whl, dS_fr, dSs_nil, Res.ok_bind, Res.bad_bind, Res.ok_to, Res.bad_to, SR.nx_seq, SR.rt_seq, SR.bk_seq, SR.ct_seq, wp_ok, wp_bind, wp_to, swp_nx, swp_rt, swp_bk, swp_ct, swp_seq, wp_fin, fin_rt, fin_nx, wipe_nil, wipe_cons, List.getElem?_cons_zero, List.getElem?_cons_succ, List.set_cons_zero, List.set_cons_succ, List.getElem?_nil, newL_eq, seq_tup, seq_kl, iterD_tup, iterD_kl, iterS_tup, iterS_kl, truR_bool, if_true, Bool.false_eq_true, if_false, Bool.not_true, Bool.not_false, iterL g1]
      refine for_wpL (IR2 (q + 2) (natD ws.sum) s r rows j) ⟨n, [], _, by simp [Nat.add_assoc]; rfl, rfl, .nil⟩ ?_ ?_ ?_
      · rintro done2 σ m ⟨n2, xs, z, rfl, rfl, hfx⟩
        simp only [guard_one]; exact gq _ _
      · rintro done2 w σ m hw hpre2 ⟨n2, xs, z, rfl, rfl, hfx⟩
        have hw8 := hsm w hw
        have hd2 : done2.length < 3 := by have := hpre2.length_le; simp at this; omega
        have hxl := f2_len hfx
        have g2 : (s.mem (r ++ .lst (rows.map bD) :: (j ++ [MO.lst (xs.map natD)])))[r.length + j.length + 3]? = some (.lst (xs.map natD)) := by
          rw [show r.length + j.length + 3 = (r.length + (j.length + 1)) + 2 by omega, DS.get2, List.getElem?_append_right (by omega)]
          simp
        have hand : ∀ m : Mem, opB .BitAnd (natD n2) (natD (2 ^ w - 1)) m = .ok (natD (n2 % 2 ^ w)) m := fun m => by
          rw [opB_band, bandN, Nat.and_two_pow_sub_one_eq_mod]
        have hsr : ∀ m : Mem, opB .RShift (natD n2) (natD w) m = .ok (natD (n2 / 2 ^ w)) m := fun m => by
          rw [opB_shr (by omega)]; simp
        simp only [dE_var, dE_lit, dE_bin, dE_neg, dE_inv, dE_cmp, dE_chain, dE_and, dE_or, dE_not, dE_ife, dE_tup, dE_lst, dE_idx, dE_slc, dE_call, dE_bi, dE_isin, dE_meth, dE_comp, dE_gc, dE_lrng1, dE_lrng2, dEs_nil, dEs_cons, dO_none, dO_some, dB_and, dB_or, dB_not, dB_val, dBO_none, dBO_some, dI_plain, dI_rng1, dI_rng2, dI_zip, dI_enum, dI_rev, dT_name, dT_tup, dT_sub, dTs_nil, dTs_cons, dS_asg, dS_aug, dS_augS, dS_par3, dS_expr, dS_ret, dS_retN, dS_pass, dS_brk, dS_cont, dS_ite, dS_whl, dS_fr, dSs_nil, Res.ok_bind, Res.bad_bind, Res.ok_to, Res.bad_to, SR.nx_seq, SR.rt_seq, SR.bk_seq, SR.ct_seq, wp_ok, wp_bind, wp_to, swp_nx, swp_rt, swp_bk, swp_ct, swp_seq, wp_fin, fin_rt, fin_nx, wipe_nil, wipe_cons, List.getElem?_cons_zero, List.getElem?_cons_succ, List.set_cons_zero, List.set_cons_succ, List.getElem?_nil, newL_eq, seq_tup, seq_kl, iterD_tup, iterD_kl, iterS_tup, iterS_kl, truR_bool, if_true, Bool.false_eq_true, if_false, Bool.not_true, Bool.not_false]
        refine step ?_
        simp only [dE_var, dE_lit, dE_bin, dE_neg, dE_inv, dE_cmp, dE_chain, dE_and, dE_or, dE_not, dE_ife, dE_tup, dE_lst, dE_idx, dE_slc, dE_call, dE_bi, dE_isin, dE_meth, dE_comp, dE_gc, dE_lrng1, dE_lrng2, dEs_nil, dEs_cons, dO_none, dO_some, dB_and, dB_or, dB_not, dB_val, dBO_none, dBO_some, dI_plain, dI_rng1, dI_rng2, dI_zip, dI_enum, dI_rev, dT_name, dT_tup, dT_sub, dTs_nil, dTs_cons, dS_asg, dS_aug, dS_augS, dS_par3, dS_expr, dS_ret, dS_retN, dS_pass, dS_brk, dS_cont, dS_ite, dS_whl, dS_fr, dSs_nil, Res.ok_bind, Res.bad_bind, Res.ok_to, Res.bad_to, SR.nx_seq, SR.rt_seq, SR.bk_seq, SR.ct_seq, wp_ok, wp_bind, wp_to, swp_nx, swp_rt, swp_bk, swp_ct, swp_seq, wp_fin, fin_rt, fin_nx, wipe_nil, wipe_cons, List.getElem?_cons_zero, List.getElem?_cons_succ, List.set_cons_zero, List.set_cons_succ, List.getElem?_nil, newL_eq, seq_tup, seq_kl, iterD_tup, iterD_kl, iterS_tup, iterS_kl, truR_bool, if_true, Bool.false_eq_true, if_false, Bool.not_true, Bool.not_false, preApp g2, natD_1, shl1 (show w ≤ 1000000 by omega), subN (Nat.one_le_two_pow), hand, app_N g2 (by rw [sizeLine_eq]; simp; omega)]
        refine step ?_
        simp only [dE_var, dE_lit, dE_bin, dE_neg, dE_inv, dE_cmp, dE_chain, dE_and, dE_or, dE_not, dE_ife, dE_tup, dE_lst, dE_idx, dE_slc, dE_call, dE_bi, dE_isin, dE_meth, dE_comp, dE_gc, dE_lrng1, dE_lrng2, dEs_nil, dEs_cons, dO_none, dO_some, dB_and, dB_or, dB_not, dB_val, dBO_none, dBO_some, dI_plain, dI_rng1, dI_rng2, dI_zip, dI_enum, dI_rev, dT_name, dT_tup, dT_sub, dTs_nil, dTs_cons, dS_asg, dS_aug, dS_augS, dS_par3, dS_expr, dS_ret, dS_retN, dS_pass, dS_brk, dS_cont, dS_ite, dS_whl, dS_fr, dSs_nil, Res.ok_bind, Res.bad_bind, Res.ok_to, Res.bad_to, SR.nx_seq, SR.rt_seq, SR.bk_seq, SR.ct_seq, wp_ok, wp_bind, wp_to, swp_nx, swp_rt, swp_bk, swp_ct, swp_seq, wp_fin, fin_rt, fin_nx, wipe_nil, wipe_cons, List.getElem?_cons_zero, List.getElem?_cons_succ, List.set_cons_zero, List.set_cons_succ, List.getElem?_nil, newL_eq, seq_tup, seq_kl, iterD_tup, iterD_kl, iterS_tup, iterS_kl, truR_bool, if_true, Bool.false_eq_true, if_false, Bool.not_true, Bool.not_false, hsr]
        refine ⟨n2 / 2 ^ w, xs ++ [n2 % 2 ^ w], _, rfl, ?_, f2_snoc hfx (Nat.mod_lt _ (Nat.two_pow_pos _))⟩
        rw [show r.length + j.length + 3 = (r.length + (j.length + 1)) + 2 by omega, DS.set2, List.set_append_right _ _ (by omega)]
        simp
      · rintro σ m ⟨n2, xs, z, rfl, rfl, hfx⟩
        have g2 : (s.mem (r ++ .lst (rows.map bD) :: (j ++ [MO.lst (xs.map natD)])))[r.length + j.length + 3]? = some (.lst (xs.map natD)) := by
          rw [show r.length + j.length + 3 = (r.length + (j.length + 1)) + 2 by omega, DS.get2, List.getElem?_append_right (by omega)]
          simp
        have g3 : (s.mem (r ++ .lst (rows.map bD) :: (j ++ [MO.lst (xs.map natD)])))[r.length + 2]? = some (.lst (rows.map bD)) := by
          rw [DS.get2, List.getElem?_append_right (by omega)]; simp
        refine step ?_
        simp only [dE_var, dE_lit, dE_bin, dE_neg, dE_inv, dE_cmp, dE_chain, dE_and, dE_or, dE_not, dE_ife, dE_tup, dE_lst, dE_idx, dE_slc, dE_call, dE_bi, dE_isin, dE_meth, dE_comp, dE_gc, dE_lrng1, dE_lrng2, dEs_nil, dEs_cons, dO_none, dO_some, dB_and, dB_or, dB_not, dB_val, dBO_none, dBO_some, dI_plain, dI_rng1, dI_rng2, dI_zip, dI_enum, dI_rev, dT_name, dT_tup, dT_sub, dTs_nil, dTs_cons, dS_asg, dS_aug, dS_augS, dS_par3, dS_expr, dS_ret, dS_retN, dS_pass, dS_brk, dS_cont, dS_ite, dS_whl, dS_fr, dSs_nil, Res.ok_bind, Res.bad_bind, Res.ok_to, Res.bad_to, SR.nx_seq, SR.rt_seq, SR.bk_seq, SR.ct_seq, wp_ok, wp_bind, wp_to, swp_nx, swp_rt, swp_bk, swp_ct, swp_seq, wp_fin, fin_rt, fin_nx, wipe_nil, wipe_cons, List.getElem?_cons_zero, List.getElem?_cons_succ, List.set_cons_zero, List.set_cons_succ, List.getElem?_nil, newL_eq, seq_tup, seq_kl, iterD_tup, iterD_kl, iterS_tup, iterS_kl, truR_bool, if_true, Bool.false_eq_true, if_false, Bool.not_true, Bool.not_false, preApp g3, bi_tuple, seqL g2, app_N g3 (by rw [sizeLine_eq]; simp; omega)]
        refine ⟨rows ++ [xs], j ++ [MO.lst (xs.map natD)], _, _, _, rfl, ?_, ?_, by simp [hrl]⟩
        · rw [DS.set2, List.set_append_right _ _ (by omega)]
          simp
        · intro ys hy
          rcases List.mem_append.mp hy with h | h
          · exact hf ys h
          · rw [List.mem_singleton.mp h]; exact hfx
    · rintro σ m ⟨rows, j, x, y, z, rfl, rfl, hf, hrl⟩
      refine step ?_
      simp only [dE_var, dE_lit, dE_bin, dE_neg, dE_inv, dE_cmp, dE_chain, dE_and, dE_or, dE_not, dE_ife, dE_tup, dE_lst, dE_idx, dE_slc, dE_call, dE_bi, dE_isin, dE_meth, dE_comp, dE_gc, dE_lrng1, dE_lrng2, dEs_nil, dEs_cons, dO_none, dO_some, dB_and, dB_or, dB_not, dB_val, dBO_none, dBO_some, dI_plain, dI_rng1, dI_rng2, dI_zip, dI_enum, dI_rev, dT_name, dT_tup, dT_sub, dTs_nil, dTs_cons, dS_asg, dS_aug, dS_augS, dS_par3, dS_expr, dS_ret, dS_retN, dS_pass, dS_brk, dS_cont, dS_ite, dS_whl, dS_fr, dSs_nil, Res.ok_bind, Res.bad_bind, Res.ok_to, Res.bad_to, SR.nx_seq, SR.rt_seq, SR.bk_seq, SR.ct_seq, wp_ok, wp_bind, wp_to, swp_nx, swp_rt, swp_bk, swp_ct, swp_seq, wp_fin, fin_rt, fin_nx, wipe_nil, wipe_cons, List.getElem?_cons_zero, List.getElem?_cons_succ, List.set_cons_zero, List.set_cons_succ, List.getElem?_nil, newL_eq, seq_tup, seq_kl, iterD_tup, iterD_kl, iterS_tup, iterS_kl, truR_bool, if_true, Bool.false_eq_true, if_false, Bool.not_true, Bool.not_false]
      exact got_rows rfl hf (by simp at hrl; omega)
  · simp only [h6, decide_false, Bool.false_eq_true, if_false]
    simp only [dE_var, dE_lit, dE_bin, dE_neg, dE_inv, dE_cmp, dE_chain, dE_and, dE_or, dE_not, dE_ife, dE_tup, dE_lst, dE_idx, dE_slc, dE_call, dE_bi, dE_isin, dE_meth, dE_comp, dE_gc, dE_lrng1, dE_lrng2, dEs_nil, dEs_cons, dO_none, dO_some, dB_and, dB_or, dB_not, dB_val, dBO_none, dBO_some, dI_plain, dI_rng1, dI_rng2, dI_zip, dI_enum, dI_rev, dT_name, dT_tup, dT_sub, dTs_nil, dTs_cons, dS_asg, dS_aug, dS_augS, dS_par3, dS_expr, dS_ret, dS_retN, dS_pass, dS_brk, dS_cont, dS_ite, dS_whl, dS_fr, dSs_nil, Res.ok_bind, Res.bad_bind, Res.ok_to, Res.bad_to, SR.nx_seq, SR.rt_seq, SR.bk_seq, SR.ct_seq, wp_ok, wp_bind, wp_to, swp_nx, swp_rt, swp_bk, swp_ct, swp_seq, wp_fin, fin_rt, fin_nx, wipe_nil, wipe_cons, List.getElem?_cons_zero, List.getElem?_cons_succ, List.set_cons_zero, List.set_cons_succ, List.getElem?_nil, newL_eq, seq_tup, seq_kl, iterD_tup, iterD_kl, iterS_tup, iterS_kl, truR_bool, if_true, Bool.false_eq_true, if_false, Bool.not_true, Bool.not_false]
    refine step ?_
    have r40 : rngOk 40 := ⟨by decide, by decide⟩
    have r40' : rngD 0 40 = (List.range 40).map fun i => .int (i : Nat) := rng_nat (n := 40)
    simp only [dE_var, dE_lit, dE_bin, dE_neg, dE_inv, dE_cmp, dE_chain, dE_and, dE_or, dE_not, dE_ife, dE_tup, dE_lst, dE_idx, dE_slc, dE_call, dE_bi, dE_isin, dE_meth, dE_comp, dE_gc, dE_lrng1, dE_lrng2, dEs_nil, dEs_cons, dO_none, dO_some, dB_and, dB_or, dB_not, dB_val, dBO_none, dBO_some, dI_plain, dI_rng1, dI_rng2, dI_zip, dI_enum, dI_rev, dT_name, dT_tup, dT_sub, dTs_nil, dTs_cons, dS_asg, dS_aug, dS_augS, dS_par3, dS_expr, dS_ret, dS_retN, dS_pass, dS_brk, dS_cont, dS_ite, dS_whl, dS_fr, dSs_nil, Res.ok_bind, Res.bad_bind, Res.ok_to, Res.bad_to, SR.nx_seq, SR.rt_seq, SR.bk_seq, SR.ct_seq, wp_ok, wp_bind, wp_to, swp_nx, swp_rt, swp_bk, swp_ct, swp_seq, wp_fin, fin_rt, fin_nx, wipe_nil, wipe_cons, List.getElem?_cons_zero, List.getElem?_cons_succ, List.set_cons_zero, List.set_cons_succ, List.getElem?_nil, newL_eq, seq_tup, seq_kl, iterD_tup, iterD_kl, iterS_tup, iterS_kl, truR_bool, if_true, Bool.false_eq_true, if_false, Bool.not_true, Bool.not_false, if_pos r40, r40']
    refine for_wpL (IR3 (q + 2) ws (natD ws.sum) s r) ⟨s, [], [], none, none, none, none, rfl, rfl, by simp, rfl, rfl⟩ (fun _ _ _ _ => by simp) ?_ ?_
    · rintro done n σ m hn hpre ⟨s1, rows, j, y, z, u, v, rfl, rfl, hf, hrl, hx⟩
      have hdn : done.length < 40 := by have := hpre.length_le; simp at this; omega
      simp only [dE_var, dE_lit, dE_bin, dE_neg, dE_inv, dE_cmp, dE_chain, dE_and, dE_or, dE_not, dE_ife, dE_tup, dE_lst, dE_idx, dE_slc, dE_call, dE_bi, dE_isin, dE_meth, dE_comp, dE_gc, dE_lrng1, dE_lrng2, dEs_nil, dEs_cons, dO_none, dO_some, dB_and, dB_or, dB_not, dB_val, dBO_none, dBO_some, dI_plain, dI_rng1, dI_rng2, dI_zip, dI_enum, dI_rev, dT_name, dT_tup, dT_sub, dTs_nil, dTs_cons, dS_asg, dS_aug, dS_augS, dS_par3, dS_expr, dS_ret, dS_retN, dS_pass, dS_brk, dS_cont, dS_ite, dS_whl, dS_fr, dSs_nil, Res.ok_bind, Res.bad_bind, Res.ok_to, Res.bad_to, SR.nx_seq, SR.rt_seq, SR.bk_seq, SR.ct_seq, wp_ok, wp_bind, wp_to, swp_nx, swp_rt, swp_bk, swp_ct, swp_seq, wp_fin, fin_rt, fin_nx, wipe_nil, wipe_cons, List.getElem?_cons_zero, List.getElem?_cons_succ, List.set_cons_zero, List.set_cons_succ, List.getElem?_nil, newL_eq, seq_tup, seq_kl, iterD_tup, iterD_kl, iterS_tup, iterS_kl, truR_bool, if_true, Bool.false_eq_true, if_false, Bool.not_true, Bool.not_false]
      refine step ?_
      simp only [dE_var, dE_lit, dE_bin, dE_neg, dE_inv, dE_cmp, dE_chain, dE_and, dE_or, dE_not, dE_ife, dE_tup, dE_lst, dE_idx, dE_slc, dE_call, dE_bi, dE_isin, dE_meth, dE_comp, dE_gc, dE_lrng1, dE_lrng2, dEs_nil, dEs_cons, dO_none, dO_some, dB_and, dB_or, dB_not, dB_val, dBO_none, dBO_some, dI_plain, dI_rng1, dI_rng2, dI_zip, dI_enum, dI_rev, dT_name, dT_tup, dT_sub, dTs_nil, dTs_cons, dS_asg, dS_aug, dS_augS, dS_par3, dS_expr, dS_ret, dS_retN, dS_pass, dS_brk, dS_cont, dS_ite, dS_whl, dS_fr, dSs_nil, Res.ok_bind, Res.bad_bind, Res.ok_to, Res.bad_to, SR.nx_seq, SR.rt_seq, SR.bk_seq, SR.ct_seq, wp_ok, wp_bind, wp_to, swp_nx, swp_rt, swp_bk, swp_ct, swp_seq, wp_fin, fin_rt, fin_nx, wipe_nil, wipe_cons, List.getElem?_cons_zero, List.getElem?_cons_succ, List.set_cons_zero, List.set_cons_succ, List.getElem?_nil, newL_eq, seq_tup, seq_kl, iterD_tup, iterD_kl, iterS_tup, iterS_kl, truR_bool, if_true, Bool.false_eq_true, if_false, Bool.not_true, Bool.not_false, DS.len, DS.app, List.append_assoc, List.cons_append, List.length_append, List.length_cons]
      refine step ?_
      have g1 := gq s1 (.lst (rows.map bD) :: (j ++ [MO.lst []]))
      simp only [dE_var, dE_lit, dE_bin, dE_neg, dE_inv, dE_cmp, dE_chain, dE_and, dE_or, dE_not, dE_ife, dE_tup, dE_lst, dE_idx, dE_slc, dE_call, dE_bi, dE_isin, dE_meth, dE_comp, dE_gc, dE_lrng1, dE_lrng2, dEs_nil, dEs_cons, dO_none, dO_some, dB_and, dB_or, dB_not, dB_val, dBO_none, dBO_some, dI_plain, dI_rng1, dI_rng2, dI_zip, dI_enum, dI_rev, dT_name, dT_tup, dT_sub, dTs_nil, dTs_cons, dS_asg, dS_aug, dS_augS, dS_par3, dS_expr, dS_ret, dS_retN, dS_pass, dS_brk, dS_cont, dS_ite, dS_whl, dS_fr, dSs_nil, Res.ok_bind, Res.bad_bind, Res.ok_to, Res.bad_to, SR.nx_seq, SR.rt_seq, SR.bk_seq, SR.ct_seq, wp_ok, wp_bind, wp_to, swp_nx, swp_rt, swp_bk, swp_ct, swp_seq, wp_fin, fin_rt, fin_nx, wipe_nil, wipe_cons, List.getElem?_cons_zero, List.getElem?_cons_succ, List.set_cons_zero, List.set_cons_succ, List.getElem?_nil, newL_eq, seq_tup, seq_kl, iterD_tup, iterD_kl, iterS_tup, iterS_kl, truR_bool, if_true, Bool.false_eq_true, if_false, Bool.not_true, Bool.not_false, iterL g1]
      refine for_wpL (IR4 (q + 2) (natD ws.sum) s r rows j.length (some (natD n))) ⟨s1, [], j, [], _, _, by simp [Nat.add_assoc]; exact ⟨rfl, rfl⟩, by simp, rfl, .nil, hx⟩ ?_ ?_ ?_
      · rintro done2 σ m ⟨s2, xs, j1, j2, z, v, rfl, rfl, hj, hfx, hx2⟩
        simp only [guard_one]; exact gq _ _
      · rintro done2 w σ m hw hpre2 ⟨s2, xs, j1, j2, z, v, rfl, rfl, hj, hfx, hx2⟩
        have hw8 := hsm w hw
        have hd2 : done2.length < 3 := by have := hpre2.length_le; simp at this; omega
        have hxl := f2_len hfx
        have hpw : 2 ^ w ≤ 2 ^ 8 := Nat.pow_le_pow_right (by omega) hw8.2
        have g2 : ∀ (s : DS) (t : Mem), (s.mem (r ++ .lst (rows.map bD) :: (j1 ++ MO.lst (xs.map natD) :: t)))[r.length + j.length + 3]? = some (.lst (xs.map natD)) := fun s t => by
          rw [show r.length + j.length + 3 = (r.length + (j1.length + 1)) + 2 by omega, DS.get2, List.getElem?_append_right (by omega)]
          simp
        have st2 : ∀ (s : DS) (t : Mem) (o : MO), (s.mem (r ++ .lst (rows.map bD) :: (j1 ++ MO.lst (xs.map natD) :: t))).set (r.length + j.length + 3) o = s.mem (r ++ .lst (rows.map bD) :: (j1 ++ o :: t)) := fun s t o => by
          rw [show r.length + j.length + 3 = (r.length + (j1.length + 1)) + 2 by omega, DS.set2, List.set_append_right _ _ (by omega)]
          simp
        simp only [dE_var, dE_lit, dE_bin, dE_neg, dE_inv, dE_cmp, dE_chain, dE_and, dE_or, dE_not, dE_ife, dE_tup, dE_lst, dE_idx, dE_slc, dE_call, dE_bi, dE_isin, dE_meth, dE_comp, dE_gc, dE_lrng1, dE_lrng2, dEs_nil, dEs_cons, dO_none, dO_some, dB_and, dB_or, dB_not, dB_val, dBO_none, dBO_some, dI_plain, dI_rng1, dI_rng2, dI_zip, dI_enum, dI_rev, dT_name, dT_tup, dT_sub, dTs_nil, dTs_cons, dS_asg, dS_aug, dS_augS, dS_par3, dS_expr, dS_ret, dS_retN, dS_pass, dS_brk, dS_cont, dS_ite, dS_whl, dS_fr, dSs_nil, Res.ok_bind, Res.bad_bind, Res.ok_to, Res.bad_to, SR.nx_seq, SR.rt_seq, SR.bk_seq, SR.ct_seq, wp_ok, wp_bind, wp_to, swp_nx, swp_rt, swp_bk, swp_ct, swp_seq, wp_fin, fin_rt, fin_nx, wipe_nil, wipe_cons, List.getElem?_cons_zero, List.getElem?_cons_succ, List.set_cons_zero, List.set_cons_succ, List.getElem?_nil, newL_eq, seq_tup, seq_kl, iterD_tup, iterD_kl, iterS_tup, iterS_kl, truR_bool, if_true, Bool.false_eq_true, if_false, Bool.not_true, Bool.not_false]
        refine step ?_
        simp only [dE_var, dE_lit, dE_bin, dE_neg, dE_inv, dE_cmp, dE_chain, dE_and, dE_or, dE_not, dE_ife, dE_tup, dE_lst, dE_idx, dE_slc, dE_call, dE_bi, dE_isin, dE_meth, dE_comp, dE_gc, dE_lrng1, dE_lrng2, dEs_nil, dEs_cons, dO_none, dO_some, dB_and, dB_or, dB_not, dB_val, dBO_none, dBO_some, dI_plain, dI_rng1, dI_rng2, dI_zip, dI_enum, dI_rev, dT_name, dT_tup, dT_sub, dTs_nil, dTs_cons, dS_asg, dS_aug, dS_augS, dS_par3, dS_expr, dS_ret, dS_retN, dS_pass, dS_brk, dS_cont, dS_ite, dS_whl, dS_fr, dSs_nil, Res.ok_bind, Res.bad_bind, Res.ok_to, Res.bad_to, SR.nx_seq, SR.rt_seq, SR.bk_seq, SR.ct_seq, wp_ok, wp_bind, wp_to, swp_nx, swp_rt, swp_bk, swp_ct, swp_seq, wp_fin, fin_rt, fin_nx, wipe_nil, wipe_cons, List.getElem?_cons_zero, List.getElem?_cons_succ, List.set_cons_zero, List.set_cons_succ, List.getElem?_nil, newL_eq, seq_tup, seq_kl, iterD_tup, iterD_kl, iterS_tup, iterS_kl, truR_bool, if_true, Bool.false_eq_true, if_false, Bool.not_true, Bool.not_false]
        refine (drawG (k := k) 5 s2 _ (by omega) (by omega)).imp ?_
        rintro d m ⟨e, s3, rfl, he, hx3, rfl⟩
        refine step ?_
        simp only [dE_var, dE_lit, dE_bin, dE_neg, dE_inv, dE_cmp, dE_chain, dE_and, dE_or, dE_not, dE_ife, dE_tup, dE_lst, dE_idx, dE_slc, dE_call, dE_bi, dE_isin, dE_meth, dE_comp, dE_gc, dE_lrng1, dE_lrng2, dEs_nil, dEs_cons, dO_none, dO_some, dB_and, dB_or, dB_not, dB_val, dBO_none, dBO_some, dI_plain, dI_rng1, dI_rng2, dI_zip, dI_enum, dI_rev, dT_name, dT_tup, dT_sub, dTs_nil, dTs_cons, dS_asg, dS_aug, dS_augS, dS_par3, dS_expr, dS_ret, dS_retN, dS_pass, dS_brk, dS_cont, dS_ite, dS_whl, dS_fr, dSs_nil, Res.ok_bind, Res.bad_bind, Res.ok_to, Res.bad_to, SR.nx_seq, SR.rt_seq, SR.bk_seq, SR.ct_seq, wp_ok, wp_bind, wp_to, swp_nx, swp_rt, swp_bk, swp_ct, swp_seq, wp_fin, fin_rt, fin_nx, wipe_nil, wipe_cons, List.getElem?_cons_zero, List.getElem?_cons_succ, List.set_cons_zero, List.set_cons_succ, List.getElem?_nil, newL_eq, seq_tup, seq_kl, iterD_tup, iterD_kl, iterS_tup, iterS_kl, truR_bool, if_true, Bool.false_eq_true, if_false, Bool.not_true, Bool.not_false, preApp (g2 s3 j2), opC_lt]
        by_cases h3 : (e : Int) < 3
        · simp only [h3, decide_true, if_true]
          have l1 : ∀ m : Mem, opB .LShift (.int 1) (natD w) m = .ok (natD (2 ^ w)) m := fun m => shl1 (by omega)
          have l2 : ∀ m : Mem, opB .Sub (natD (2 ^ w)) (.int 1) m = .ok (natD (2 ^ w - 1)) m := fun m => subN (b := 1) (Nat.one_le_two_pow)
          have l3 : ∀ m : Mem, opB .Sub (natD w) (.int 1) m = .ok (natD (w - 1)) m := fun m => subN (b := 1) (by omega)
          have l4 : ∀ m : Mem, opB .LShift (.int 1) (natD (w - 1)) m = .ok (natD (2 ^ (w - 1))) m := fun m => shl1 (by omega)
          simp only [dE_var, dE_lit, dE_bin, dE_neg, dE_inv, dE_cmp, dE_chain, dE_and, dE_or, dE_not, dE_ife, dE_tup, dE_lst, dE_idx, dE_slc, dE_call, dE_bi, dE_isin, dE_meth, dE_comp, dE_gc, dE_lrng1, dE_lrng2, dEs_nil, dEs_cons, dO_none, dO_some, dB_and, dB_or, dB_not, dB_val, dBO_none, dBO_some, dI_plain, dI_rng1, dI_rng2, dI_zip, dI_enum, dI_rev, dT_name, dT_tup, dT_sub, dTs_nil, dTs_cons, dS_asg, dS_aug, dS_augS, dS_par3, dS_expr, dS_ret, dS_retN, dS_pass, dS_brk, dS_cont, dS_ite, dS_whl, dS_fr, dSs_nil, Res.ok_bind, Res.bad_bind, Res.ok_to, Res.bad_to, SR.nx_seq, SR.rt_seq, SR.bk_seq, SR.ct_seq, wp_ok, wp_bind, wp_to, swp_nx, swp_rt, swp_bk, swp_ct, swp_seq, wp_fin, fin_rt, fin_nx, wipe_nil, wipe_cons, List.getElem?_cons_zero, List.getElem?_cons_succ, List.set_cons_zero, List.set_cons_succ, List.getElem?_nil, newL_eq, seq_tup, seq_kl, iterD_tup, iterD_kl, iterS_tup, iterS_kl, truR_bool, if_true, Bool.false_eq_true, if_false, Bool.not_true, Bool.not_false, l1, l2, l3, l4, DS.len, DS.app]
          have hv : ∃ v : Nat, v < 2 ^ w ∧ [D.int 0, natD (2 ^ w - 1), natD (2 ^ (w - 1))][e]? = some (natD v) := by
            have h1 := Nat.one_le_two_pow (n := w)
            have h2 : 2 ^ (w - 1) < 2 ^ w := Nat.pow_lt_pow_right (by omega) (by omega)
            rcases (show e = 0 ∨ e = 1 ∨ e = 2 by omega) with rfl | rfl | rfl
            · exact ⟨0, by omega, rfl⟩
            · exact ⟨2 ^ w - 1, by omega, rfl⟩
            · exact ⟨2 ^ (w - 1), h2, rfl⟩
          obtain ⟨v, hv1, hv2⟩ := hv
          generalize hT : (r ++ MO.lst (rows.map bD) :: (j1 ++ MO.lst (xs.map natD) :: j2)) = T
          have gx : (s3.mem (T ++ [MO.lst [D.int 0, natD (2 ^ w - 1), natD (2 ^ (w - 1))]]))[T.length + 2]? = some (.lst [D.int 0, natD (2 ^ w - 1), natD (2 ^ (w - 1))]) := by rw [DS.get2]; simp
          simp only [dE_var, dE_lit, dE_bin, dE_neg, dE_inv, dE_cmp, dE_chain, dE_and, dE_or, dE_not, dE_ife, dE_tup, dE_lst, dE_idx, dE_slc, dE_call, dE_bi, dE_isin, dE_meth, dE_comp, dE_gc, dE_lrng1, dE_lrng2, dEs_nil, dEs_cons, dO_none, dO_some, dB_and, dB_or, dB_not, dB_val, dBO_none, dBO_some, dI_plain, dI_rng1, dI_rng2, dI_zip, dI_enum, dI_rev, dT_name, dT_tup, dT_sub, dTs_nil, dTs_cons, dS_asg, dS_aug, dS_augS, dS_par3, dS_expr, dS_ret, dS_retN, dS_pass, dS_brk, dS_cont, dS_ite, dS_whl, dS_fr, dSs_nil, Res.ok_bind, Res.bad_bind, Res.ok_to, Res.bad_to, SR.nx_seq, SR.rt_seq, SR.bk_seq, SR.ct_seq, wp_ok, wp_bind, wp_to, swp_nx, swp_rt, swp_bk, swp_ct, swp_seq, wp_fin, fin_rt, fin_nx, wipe_nil, wipe_cons, List.getElem?_cons_zero, List.getElem?_cons_succ, List.set_cons_zero, List.set_cons_succ, List.getElem?_nil, newL_eq, seq_tup, seq_kl, iterD_tup, iterD_kl, iterS_tup, iterS_kl, truR_bool, if_true, Bool.false_eq_true, if_false, Bool.not_true, Bool.not_false, idxL gx hv2]
          rw [gc_ds rfl (by simp)]
          have g2' := g2 s3 j2
          rw [hT] at g2'
          simp only [dE_var, dE_lit, dE_bin, dE_neg, dE_inv, dE_cmp, dE_chain, dE_and, dE_or, dE_not, dE_ife, dE_tup, dE_lst, dE_idx, dE_slc, dE_call, dE_bi, dE_isin, dE_meth, dE_comp, dE_gc, dE_lrng1, dE_lrng2, dEs_nil, dEs_cons, dO_none, dO_some, dB_and, dB_or, dB_not, dB_val, dBO_none, dBO_some, dI_plain, dI_rng1, dI_rng2, dI_zip, dI_enum, dI_rev, dT_name, dT_tup, dT_sub, dTs_nil, dTs_cons, dS_asg, dS_aug, dS_augS, dS_par3, dS_expr, dS_ret, dS_retN, dS_pass, dS_brk, dS_cont, dS_ite, dS_whl, dS_fr, dSs_nil, Res.ok_bind, Res.bad_bind, Res.ok_to, Res.bad_to, SR.nx_seq, SR.rt_seq, SR.bk_seq, SR.ct_seq, wp_ok, wp_bind, wp_to, swp_nx, swp_rt, swp_bk, swp_ct, swp_seq, wp_fin, fin_rt, fin_nx, wipe_nil, wipe_cons, List.getElem?_cons_zero, List.getElem?_cons_succ, List.set_cons_zero, List.set_cons_succ, List.getElem?_nil, newL_eq, seq_tup, seq_kl, iterD_tup, iterD_kl, iterS_tup, iterS_kl, truR_bool, if_true, Bool.false_eq_true, if_false, Bool.not_true, Bool.not_false, app_N (d := natD v) g2' (by rw [sizeLine_eq]; simp; omega)]
          rw [← hT]
          exact ⟨s3, xs ++ [v], j1, j2, _, _, rfl, by rw [st2]; simp, hj, f2_snoc hfx hv1, hx3.trans hx2⟩
        · simp only [h3, decide_false, Bool.false_eq_true, if_false]
          simp only [dE_var, dE_lit, dE_bin, dE_neg, dE_inv, dE_cmp, dE_chain, dE_and, dE_or, dE_not, dE_ife, dE_tup, dE_lst, dE_idx, dE_slc, dE_call, dE_bi, dE_isin, dE_meth, dE_comp, dE_gc, dE_lrng1, dE_lrng2, dEs_nil, dEs_cons, dO_none, dO_some, dB_and, dB_or, dB_not, dB_val, dBO_none, dBO_some, dI_plain, dI_rng1, dI_rng2, dI_zip, dI_enum, dI_rev, dT_name, dT_tup, dT_sub, dTs_nil, dTs_cons, dS_asg, dS_aug, dS_augS, dS_par3, dS_expr, dS_ret, dS_retN, dS_pass, dS_brk, dS_cont, dS_ite, dS_whl, dS_fr, dSs_nil, Res.ok_bind, Res.bad_bind, Res.ok_to, Res.bad_to, SR.nx_seq, SR.rt_seq, SR.bk_seq, SR.ct_seq, wp_ok, wp_bind, wp_to, swp_nx, swp_rt, swp_bk, swp_ct, swp_seq, wp_fin, fin_rt, fin_nx, wipe_nil, wipe_cons, List.getElem?_cons_zero, List.getElem?_cons_succ, List.set_cons_zero, List.set_cons_succ, List.getElem?_nil, newL_eq, seq_tup, seq_kl, iterD_tup, iterD_kl, iterS_tup, iterS_kl, truR_bool, if_true, Bool.false_eq_true, if_false, Bool.not_true, Bool.not_false, natD_1, shl1 (show w ≤ 1000000 by omega)]
          refine (drawG (k := k) (2 ^ w) s3 _ (Nat.two_pow_pos _) (by omega)).imp ?_
          rintro d m ⟨v, s4, rfl, hv, hx4, rfl⟩
          simp only [dE_var, dE_lit, dE_bin, dE_neg, dE_inv, dE_cmp, dE_chain, dE_and, dE_or, dE_not, dE_ife, dE_tup, dE_lst, dE_idx, dE_slc, dE_call, dE_bi, dE_isin, dE_meth, dE_comp, dE_gc, dE_lrng1, dE_lrng2, dEs_nil, dEs_cons, dO_none, dO_some, dB_and, dB_or, dB_not, dB_val, dBO_none, dBO_some, dI_plain, dI_rng1, dI_rng2, dI_zip, dI_enum, dI_rev, dT_name, dT_tup, dT_sub, dTs_nil, dTs_cons, dS_asg, dS_aug, dS_augS, dS_par3, dS_expr, dS_ret, dS_retN, dS_pass, dS_brk, dS_cont, dS_ite, dS_whl, dS_fr, dSs_nil, Res.ok_bind, Res.bad_bind, Res.ok_to, Res.bad_to, SR.nx_seq, SR.rt_seq, SR.bk_seq, SR.ct_seq, wp_ok, wp_bind, wp_to, swp_nx, swp_rt, swp_bk, swp_ct, swp_seq, wp_fin, fin_rt, fin_nx, wipe_nil, wipe_cons, List.getElem?_cons_zero, List.getElem?_cons_succ, List.set_cons_zero, List.set_cons_succ, List.getElem?_nil, newL_eq, seq_tup, seq_kl, iterD_tup, iterD_kl, iterS_tup, iterS_kl, truR_bool, if_true, Bool.false_eq_true, if_false, Bool.not_true, Bool.not_false, app_N (d := natD v) (g2 s4 j2) (by rw [sizeLine_eq]; simp; omega)]
          exact ⟨s4, xs ++ [v], j1, j2, _, _, rfl, by rw [st2]; simp, hj, f2_snoc hfx hv, hx4.trans (hx3.trans hx2)⟩
      · rintro σ m ⟨s2, xs, j1, j2, z, v, rfl, rfl, hj, hfx, hx2⟩
        have g2 : (s2.mem (r ++ .lst (rows.map bD) :: (j1 ++ MO.lst (xs.map natD) :: j2)))[r.length + j.length + 3]? = some (.lst (xs.map natD)) := by
          rw [show r.length + j.length + 3 = (r.length + (j1.length + 1)) + 2 by omega, DS.get2, List.getElem?_append_right (by omega)]
          simp
        have g3 : (s2.mem (r ++ .lst (rows.map bD) :: (j1 ++ MO.lst (xs.map natD) :: j2)))[r.length + 2]? = some (.lst (rows.map bD)) := by
          rw [DS.get2, List.getElem?_append_right (by omega)]; simp
        refine step ?_
        simp only [dE_var, dE_lit, dE_bin, dE_neg, dE_inv, dE_cmp, dE_chain, dE_and, dE_or, dE_not, dE_ife, dE_tup, dE_lst, dE_idx, dE_slc, dE_call, dE_bi, dE_isin, dE_meth, dE_comp, dE_gc, dE_lrng1, dE_lrng2, dEs_nil, dEs_cons, dO_none, dO_some, dB_and, dB_or, dB_not, dB_val, dBO_none, dBO_some, dI_plain, dI_rng1, dI_rng2, dI_zip, dI_enum, dI_rev, dT_name, dT_tup, dT_sub, dTs_nil, dTs_cons, dS_asg, dS_aug, dS_augS, dS_par3, dS_expr, dS_ret, dS_retN, dS_pass, dS_brk, dS_cont, dS_ite, dS_whl, dS_fr, dSs_nil, Res.ok_bind, Res.bad_bind, Res.ok_to, Res.bad_to, SR.nx_seq, SR.rt_seq, SR.bk_seq, SR.ct_seq, wp_ok, wp_bind, wp_to, swp_nx, swp_rt, swp_bk, swp_ct, swp_seq, wp_fin, fin_rt, fin_nx, wipe_nil, wipe_cons, List.getElem?_cons_zero, List.getElem?_cons_succ, List.set_cons_zero, List.set_cons_succ, List.getElem?_nil, newL_eq, seq_tup, seq_kl, iterD_tup, iterD_kl, iterS_tup, iterS_kl, truR_bool, if_true, Bool.false_eq_true, if_false, Bool.not_true, Bool.not_false, preApp g3, bi_tuple, seqL g2, app_N g3 (by rw [sizeLine_eq]; simp; omega)]
        refine ⟨s2, rows ++ [xs], j1 ++ MO.lst (xs.map natD) :: j2, _, _, _, _, rfl, ?_, ?_, by simp [hrl], hx2⟩
        · rw [DS.set2, List.set_append_right _ _ (by omega)]
          simp
        · intro ys hy
          rcases List.mem_append.mp hy with h | h
          · exact hf ys h
          · rw [List.mem_singleton.mp h]; exact hfx
    · rintro σ m ⟨s1, rows, j, y, z, u, v, rfl, rfl, hf, hrl, hx⟩
      refine step ?_
      simp only [dE_var, dE_lit, dE_bin, dE_neg, dE_inv, dE_cmp, dE_chain, dE_and, dE_or, dE_not, dE_ife, dE_tup, dE_lst, dE_idx, dE_slc, dE_call, dE_bi, dE_isin, dE_meth, dE_comp, dE_gc, dE_lrng1, dE_lrng2, dEs_nil, dEs_cons, dO_none, dO_some, dB_and, dB_or, dB_not, dB_val, dBO_none, dBO_some, dI_plain, dI_rng1, dI_rng2, dI_zip, dI_enum, dI_rev, dT_name, dT_tup, dT_sub, dTs_nil, dTs_cons, dS_asg, dS_aug, dS_augS, dS_par3, dS_expr, dS_ret, dS_retN, dS_pass, dS_brk, dS_cont, dS_ite, dS_whl, dS_fr, dSs_nil, Res.ok_bind, Res.bad_bind, Res.ok_to, Res.bad_to, SR.nx_seq, SR.rt_seq, SR.bk_seq, SR.ct_seq, wp_ok, wp_bind, wp_to, swp_nx, swp_rt, swp_bk, swp_ct, swp_seq, wp_fin, fin_rt, fin_nx, wipe_nil, wipe_cons, List.getElem?_cons_zero, List.getElem?_cons_succ, List.set_cons_zero, List.set_cons_succ, List.getElem?_nil, newL_eq, seq_tup, seq_kl, iterD_tup, iterD_kl, iterS_tup, iterS_kl, truR_bool, if_true, Bool.false_eq_true, if_false, Bool.not_true, Bool.not_false]
      exact got_rows hx hf (by simp at hrl; omega)
end
end PC.K01

namespace PC.K01
open PySem L2 Classical
section
variable {G : Str → Option PC.D} {k : Nat} {m : Mem}
theorem gc_nil {d : PC.D} (h : below 0 d = true) : gcD [] d m = .ok d [] := gc_same (m0 := []) (j := m) h
theorem r_is_int {i : Int} : runF (tabP tab) G (k + 1) "_law_is_int" [.int i] m = .ok (.bool true) m := by
  rw [u_l_is_int]; exact is_int_ok
abbrev opD (s : String) : PC.D := .str (Str.ofString s)
def I1 (sc : PC.D) (most : Nat) (done : List Nat) (σ : Loc) (m : Mem) : Prop :=
  ∃ (s : DS) (L : List String) (j : Mem) (x y z u v w p q : Option PC.D), σ = [some sc, some (.ref 1), some (.ref 2), some (natD most), x, y, z, u, v, w, p, q] ∧ m = s.mem (.lst (L.map opD) :: j) ∧ L.length + done.length = 22 ∧ ∀ x ∈ L, x ∈ opsL
def I2 (sc : PC.D) (most i : Nat) (op : String) (w low q : Nat) (B : Mem) (done : List (List Nat)) (σ : Loc) (m : Mem) : Prop :=
  ∃ (j : Mem) (x y z : Option PC.D), σ = [some sc, some (.ref 1), some (.ref 2), some (natD most), some (natD i), some (opD op), some (natD w), some (.ref q), some (natD low), x, y, z] ∧ m = B ++ j
theorem r_law {ns : List Int} (hl : ns.length ≤ 63) : (runF (tabP tab) G (k + 10) "law" [.kl (ns.map .int)] []).wp fun d _ => d = .bool true := by
  rw [u_law]
  have e0 : runF (tabP tab) G (k + 9) "_law_begin" [.kl (ns.map .int)] [] = .ok (.ref 1) (DS.mem ⟨ns, 0, 0, 7⟩ []) := by
    rw [u_l_begin]; exact begin_ok (by omega)
  rw [c_law, wp_fin]
  refine step ?_
  simp only [dE_var, dE_lit, dE_bin, dE_neg, dE_inv, dE_cmp, dE_chain, dE_and, dE_or, dE_not, dE_ife, dE_tup, dE_lst, dE_idx, dE_slc, dE_call, dE_bi, dE_isin, dE_meth, dE_comp, dE_gc, dE_lrng1, dE_lrng2, dEs_nil, dEs_cons, dO_none, dO_some, dB_and, dB_or, dB_not, dB_val, dBO_none, dBO_some, dI_plain, dI_rng1, dI_rng2, dI_zip, dI_enum, dI_rev, dT_name, dT_tup, dT_sub, dTs_nil, dTs_cons, dS_asg, dS_aug, dS_augS, dS_par3, dS_expr, dS_ret, dS_retN, dS_pass, dS_brk, dS_cont, dS_ite, dS_whl, dS_fr, dSs_nil, Res.ok_bind, Res.bad_bind, Res.ok_to, Res.bad_to, SR.nx_seq, SR.rt_seq, SR.bk_seq, SR.ct_seq, wp_ok, wp_bind, wp_to, swp_nx, swp_rt, swp_bk, swp_ct, swp_seq, wp_fin, fin_rt, fin_nx, wipe_nil, wipe_cons, List.getElem?_cons_zero, List.getElem?_cons_succ, List.set_cons_zero, List.set_cons_succ, List.getElem?_nil, newL_eq, seq_tup, seq_kl, iterD_tup, iterD_kl, iterS_tup, iterS_kl, truR_bool, if_true, Bool.false_eq_true, if_false, Bool.not_true, Bool.not_false, e0]
  refine step ?_
  have sp1 : Str.length (Str.ofString " ") ≠ 0 := by decide +kernel
  have sp2 : Str.length (Str.ofString "not neg add sub mul and or xor shl shr lt le eq ne pick bits join wide sign any all odd") + 2 ≤ sizeLine := by decide +kernel
  simp only [dE_var, dE_lit, dE_bin, dE_neg, dE_inv, dE_cmp, dE_chain, dE_and, dE_or, dE_not, dE_ife, dE_tup, dE_lst, dE_idx, dE_slc, dE_call, dE_bi, dE_isin, dE_meth, dE_comp, dE_gc, dE_lrng1, dE_lrng2, dEs_nil, dEs_cons, dO_none, dO_some, dB_and, dB_or, dB_not, dB_val, dBO_none, dBO_some, dI_plain, dI_rng1, dI_rng2, dI_zip, dI_enum, dI_rev, dT_name, dT_tup, dT_sub, dTs_nil, dTs_cons, dS_asg, dS_aug, dS_augS, dS_par3, dS_expr, dS_ret, dS_retN, dS_pass, dS_brk, dS_cont, dS_ite, dS_whl, dS_fr, dSs_nil, Res.ok_bind, Res.bad_bind, Res.ok_to, Res.bad_to, SR.nx_seq, SR.rt_seq, SR.bk_seq, SR.ct_seq, wp_ok, wp_bind, wp_to, swp_nx, swp_rt, swp_bk, swp_ct, swp_seq, wp_fin, fin_rt, fin_nx, wipe_nil, wipe_cons, List.getElem?_cons_zero, List.getElem?_cons_succ, List.set_cons_zero, List.set_cons_succ, List.getElem?_nil, newL_eq, seq_tup, seq_kl, iterD_tup, iterD_kl, iterS_tup, iterS_kl, truR_bool, if_true, Bool.false_eq_true, if_false, Bool.not_true, Bool.not_false, pre_spl, mt_spl sp1 sp2, ops_split, List.map_map]
  refine step ?_
  simp only [dE_var, dE_lit, dE_bin, dE_neg, dE_inv, dE_cmp, dE_chain, dE_and, dE_or, dE_not, dE_ife, dE_tup, dE_lst, dE_idx, dE_slc, dE_call, dE_bi, dE_isin, dE_meth, dE_comp, dE_gc, dE_lrng1, dE_lrng2, dEs_nil, dEs_cons, dO_none, dO_some, dB_and, dB_or, dB_not, dB_val, dBO_none, dBO_some, dI_plain, dI_rng1, dI_rng2, dI_zip, dI_enum, dI_rev, dT_name, dT_tup, dT_sub, dTs_nil, dTs_cons, dS_asg, dS_aug, dS_augS, dS_par3, dS_expr, dS_ret, dS_retN, dS_pass, dS_brk, dS_cont, dS_ite, dS_whl, dS_fr, dSs_nil, Res.ok_bind, Res.bad_bind, Res.ok_to, Res.bad_to, SR.nx_seq, SR.rt_seq, SR.bk_seq, SR.ct_seq, wp_ok, wp_bind, wp_to, swp_nx, swp_rt, swp_bk, swp_ct, swp_seq, wp_fin, fin_rt, fin_nx, wipe_nil, wipe_cons, List.getElem?_cons_zero, List.getElem?_cons_succ, List.set_cons_zero, List.set_cons_succ, List.getElem?_nil, newL_eq, seq_tup, seq_kl, iterD_tup, iterD_kl, iterS_tup, iterS_kl, truR_bool, if_true, Bool.false_eq_true, if_false, Bool.not_true, Bool.not_false]
  generalize hs0 : (⟨ns, 0, 0, 7⟩ : DS) = s0
  refine (drawG (k := k + 8) 2 s0 [.lst (opsL.map opD)] (by omega) (by omega)).imp ?_
  rintro d m ⟨t, s1, rfl, ht, hx1, rfl⟩
  have hmost : ∃ most : Nat, most ≤ 8 ∧ 0 < most ∧ ∀ m : Mem, (if decide ((t : Int) = 0) = true then Res.ok (D.int 3) m else Res.ok (D.int 8) m) = .ok (natD most) m := by
    by_cases h : (t : Int) = 0
    · exact ⟨3, by omega, by omega, fun m => by simp [h]⟩
    · exact ⟨8, by omega, by omega, fun m => by rw [if_neg (by simpa using h)]; rfl⟩
  obtain ⟨most, hm8, hm0, hm⟩ := hmost
  simp only [dE_var, dE_lit, dE_bin, dE_neg, dE_inv, dE_cmp, dE_chain, dE_and, dE_or, dE_not, dE_ife, dE_tup, dE_lst, dE_idx, dE_slc, dE_call, dE_bi, dE_isin, dE_meth, dE_comp, dE_gc, dE_lrng1, dE_lrng2, dEs_nil, dEs_cons, dO_none, dO_some, dB_and, dB_or, dB_not, dB_val, dBO_none, dBO_some, dI_plain, dI_rng1, dI_rng2, dI_zip, dI_enum, dI_rev, dT_name, dT_tup, dT_sub, dTs_nil, dTs_cons, dS_asg, dS_aug, dS_augS, dS_par3, dS_expr, dS_ret, dS_retN, dS_pass, dS_brk, dS_cont, dS_ite, dS_whl, dS_fr, dSs_nil, Res.ok_bind, Res.bad_bind, Res.ok_to, Res.bad_to, SR.nx_seq, SR.rt_seq, SR.bk_seq, SR.ct_seq, wp_ok, wp_bind, wp_to, swp_nx, swp_rt, swp_bk, swp_ct, swp_seq, wp_fin, fin_rt, fin_nx, wipe_nil, wipe_cons, List.getElem?_cons_zero, List.getElem?_cons_succ, List.set_cons_zero, List.set_cons_succ, List.getElem?_nil, newL_eq, seq_tup, seq_kl, iterD_tup, iterD_kl, iterS_tup, iterS_kl, truR_bool, if_true, Bool.false_eq_true, if_false, Bool.not_true, Bool.not_false, opC_eq, eq_int, ofB_some, hm]
  refine step ?_
  have r4 : rngOk 4 := ⟨by decide, by decide⟩
  have r4' : rngD 0 4 = (List.range 4).map fun i => .int (i : Nat) := rng_nat (n := 4)
  simp only [dE_var, dE_lit, dE_bin, dE_neg, dE_inv, dE_cmp, dE_chain, dE_and, dE_or, dE_not, dE_ife, dE_tup, dE_lst, dE_idx, dE_slc, dE_call, dE_bi, dE_isin, dE_meth, dE_comp, dE_gc, dE_lrng1, dE_lrng2, dEs_nil, dEs_cons, dO_none, dO_some, dB_and, dB_or, dB_not, dB_val, dBO_none, dBO_some, dI_plain, dI_rng1, dI_rng2, dI_zip, dI_enum, dI_rev, dT_name, dT_tup, dT_sub, dTs_nil, dTs_cons, dS_asg, dS_aug, dS_augS, dS_par3, dS_expr, dS_ret, dS_retN, dS_pass, dS_brk, dS_cont, dS_ite, dS_whl, dS_fr, dSs_nil, Res.ok_bind, Res.bad_bind, Res.ok_to, Res.bad_to, SR.nx_seq, SR.rt_seq, SR.bk_seq, SR.ct_seq, wp_ok, wp_bind, wp_to, swp_nx, swp_rt, swp_bk, swp_ct, swp_seq, wp_fin, fin_rt, fin_nx, wipe_nil, wipe_cons, List.getElem?_cons_zero, List.getElem?_cons_succ, List.set_cons_zero, List.set_cons_succ, List.getElem?_nil, newL_eq, seq_tup, seq_kl, iterD_tup, iterD_kl, iterS_tup, iterS_kl, truR_bool, if_true, Bool.false_eq_true, if_false, Bool.not_true, Bool.not_false, if_pos r4, r4']
  refine for_wpL (I1 (.kl (ns.map .int)) most) ⟨s1, opsL, [], none, none, none, none, none, none, none, none, rfl, rfl, rfl, fun _ h => h⟩ (fun _ _ _ _ => by simp) ?_ ?_
  · rintro done i σ m hi hpre ⟨s, L, j, x, y, z, u, v, w, p, q, rfl, rfl, hL, hsub⟩
    have hdn : done.length < 4 := by have := hpre.length_le; simp at this; omega
    simp only [dE_var, dE_lit, dE_bin, dE_neg, dE_inv, dE_cmp, dE_chain, dE_and, dE_or, dE_not, dE_ife, dE_tup, dE_lst, dE_idx, dE_slc, dE_call, dE_bi, dE_isin, dE_meth, dE_comp, dE_gc, dE_lrng1, dE_lrng2, dEs_nil, dEs_cons, dO_none, dO_some, dB_and, dB_or, dB_not, dB_val, dBO_none, dBO_some, dI_plain, dI_rng1, dI_rng2, dI_zip, dI_enum, dI_rev, dT_name, dT_tup, dT_sub, dTs_nil, dTs_cons, dS_asg, dS_aug, dS_augS, dS_par3, dS_expr, dS_ret, dS_retN, dS_pass, dS_brk, dS_cont, dS_ite, dS_whl, dS_fr, dSs_nil, Res.ok_bind, Res.bad_bind, Res.ok_to, Res.bad_to, SR.nx_seq, SR.rt_seq, SR.bk_seq, SR.ct_seq, wp_ok, wp_bind, wp_to, swp_nx, swp_rt, swp_bk, swp_ct, swp_seq, wp_fin, fin_rt, fin_nx, wipe_nil, wipe_cons, List.getElem?_cons_zero, List.getElem?_cons_succ, List.set_cons_zero, List.set_cons_succ, List.getElem?_nil, newL_eq, seq_tup, seq_kl, iterD_tup, iterD_kl, iterS_tup, iterS_kl, truR_bool, if_true, Bool.false_eq_true, if_false, Bool.not_true, Bool.not_false]
    refine step ?_
    simp only [dE_var, dE_lit, dE_bin, dE_neg, dE_inv, dE_cmp, dE_chain, dE_and, dE_or, dE_not, dE_ife, dE_tup, dE_lst, dE_idx, dE_slc, dE_call, dE_bi, dE_isin, dE_meth, dE_comp, dE_gc, dE_lrng1, dE_lrng2, dEs_nil, dEs_cons, dO_none, dO_some, dB_and, dB_or, dB_not, dB_val, dBO_none, dBO_some, dI_plain, dI_rng1, dI_rng2, dI_zip, dI_enum, dI_rev, dT_name, dT_tup, dT_sub, dTs_nil, dTs_cons, dS_asg, dS_aug, dS_augS, dS_par3, dS_expr, dS_ret, dS_retN, dS_pass, dS_brk, dS_cont, dS_ite, dS_whl, dS_fr, dSs_nil, Res.ok_bind, Res.bad_bind, Res.ok_to, Res.bad_to, SR.nx_seq, SR.rt_seq, SR.bk_seq, SR.ct_seq, wp_ok, wp_bind, wp_to, swp_nx, swp_rt, swp_bk, swp_ct, swp_seq, wp_fin, fin_rt, fin_nx, wipe_nil, wipe_cons, List.getElem?_cons_zero, List.getElem?_cons_succ, List.set_cons_zero, List.set_cons_succ, List.getElem?_nil, newL_eq, seq_tup, seq_kl, iterD_tup, iterD_kl, iterS_tup, iterS_kl, truR_bool, if_true, Bool.false_eq_true, if_false, Bool.not_true, Bool.not_false]
    refine (popG (G := G) (k := k + 7) s (.lst (L.map opD) :: j) 0 (L.map opD) rfl (by simp; omega) (by simp; omega) (by simp)).imp ?_
    rintro d m ⟨ix, s2, hd, hx2, rfl⟩
    rw [List.getElem?_map] at hd
    obtain ⟨op, hop, rfl⟩ := Option.map_eq_some_iff.mp hd
    have hix := (List.getElem?_eq_some_iff.mp hop).1
    have hopm := hsub op (List.mem_of_getElem? hop)
    have hmem : (MO.lst (L.map opD) :: j).set 0 (.lst ((L.map opD).eraseIdx ix)) = .lst ((L.eraseIdx ix).map opD) :: j := by simp [map_erase]
    rw [hmem]
    refine step ?_
    simp only [dE_var, dE_lit, dE_bin, dE_neg, dE_inv, dE_cmp, dE_chain, dE_and, dE_or, dE_not, dE_ife, dE_tup, dE_lst, dE_idx, dE_slc, dE_call, dE_bi, dE_isin, dE_meth, dE_comp, dE_gc, dE_lrng1, dE_lrng2, dEs_nil, dEs_cons, dO_none, dO_some, dB_and, dB_or, dB_not, dB_val, dBO_none, dBO_some, dI_plain, dI_rng1, dI_rng2, dI_zip, dI_enum, dI_rev, dT_name, dT_tup, dT_sub, dTs_nil, dTs_cons, dS_asg, dS_aug, dS_augS, dS_par3, dS_expr, dS_ret, dS_retN, dS_pass, dS_brk, dS_cont, dS_ite, dS_whl, dS_fr, dSs_nil, Res.ok_bind, Res.bad_bind, Res.ok_to, Res.bad_to, SR.nx_seq, SR.rt_seq, SR.bk_seq, SR.ct_seq, wp_ok, wp_bind, wp_to, swp_nx, swp_rt, swp_bk, swp_ct, swp_seq, wp_fin, fin_rt, fin_nx, wipe_nil, wipe_cons, List.getElem?_cons_zero, List.getElem?_cons_succ, List.set_cons_zero, List.set_cons_succ, List.getElem?_nil, newL_eq, seq_tup, seq_kl, iterD_tup, iterD_kl, iterS_tup, iterS_kl, truR_bool, if_true, Bool.false_eq_true, if_false, Bool.not_true, Bool.not_false]
    refine (r_shape (G := G) (k := k + 7) (s := s2) (r := .lst ((L.eraseIdx ix).map opD) :: j) hopm hm0 hm8).imp ?_
    rintro d m ⟨s3, wd, ws, low, rfl, rfl, hx3, hg⟩
    generalize hR : (MO.lst ((L.eraseIdx ix).map opD) :: j) = R
    simp only [dE_var, dE_lit, dE_bin, dE_neg, dE_inv, dE_cmp, dE_chain, dE_and, dE_or, dE_not, dE_ife, dE_tup, dE_lst, dE_idx, dE_slc, dE_call, dE_bi, dE_isin, dE_meth, dE_comp, dE_gc, dE_lrng1, dE_lrng2, dEs_nil, dEs_cons, dO_none, dO_some, dB_and, dB_or, dB_not, dB_val, dBO_none, dBO_some, dI_plain, dI_rng1, dI_rng2, dI_zip, dI_enum, dI_rev, dT_name, dT_tup, dT_sub, dTs_nil, dTs_cons, dS_asg, dS_aug, dS_augS, dS_par3, dS_expr, dS_ret, dS_retN, dS_pass, dS_brk, dS_cont, dS_ite, dS_whl, dS_fr, dSs_nil, Res.ok_bind, Res.bad_bind, Res.ok_to, Res.bad_to, SR.nx_seq, SR.rt_seq, SR.bk_seq, SR.ct_seq, wp_ok, wp_bind, wp_to, swp_nx, swp_rt, swp_bk, swp_ct, swp_seq, wp_fin, fin_rt, fin_nx, wipe_nil, wipe_cons, List.getElem?_cons_zero, List.getElem?_cons_succ, List.set_cons_zero, List.set_cons_succ, List.getElem?_nil, newL_eq, seq_tup, seq_kl, iterD_tup, iterD_kl, iterS_tup, iterS_kl, truR_bool, if_true, Bool.false_eq_true, if_false, Bool.not_true, Bool.not_false]
    refine step ?_
    simp only [dE_var, dE_lit, dE_bin, dE_neg, dE_inv, dE_cmp, dE_chain, dE_and, dE_or, dE_not, dE_ife, dE_tup, dE_lst, dE_idx, dE_slc, dE_call, dE_bi, dE_isin, dE_meth, dE_comp, dE_gc, dE_lrng1, dE_lrng2, dEs_nil, dEs_cons, dO_none, dO_some, dB_and, dB_or, dB_not, dB_val, dBO_none, dBO_some, dI_plain, dI_rng1, dI_rng2, dI_zip, dI_enum, dI_rev, dT_name, dT_tup, dT_sub, dTs_nil, dTs_cons, dS_asg, dS_aug, dS_augS, dS_par3, dS_expr, dS_ret, dS_retN, dS_pass, dS_brk, dS_cont, dS_ite, dS_whl, dS_fr, dSs_nil, Res.ok_bind, Res.bad_bind, Res.ok_to, Res.bad_to, SR.nx_seq, SR.rt_seq, SR.bk_seq, SR.ct_seq, wp_ok, wp_bind, wp_to, swp_nx, swp_rt, swp_bk, swp_ct, swp_seq, wp_fin, fin_rt, fin_nx, wipe_nil, wipe_cons, List.getElem?_cons_zero, List.getElem?_cons_succ, List.set_cons_zero, List.set_cons_succ, List.getElem?_nil, newL_eq, seq_tup, seq_kl, iterD_tup, iterD_kl, iterS_tup, iterS_kl, truR_bool, if_true, Bool.false_eq_true, if_false, Bool.not_true, Bool.not_false]
    refine (r_rows (G := G) (k := k + 7) (s := s3) (r := R ++ [.lst (ws.map natD)]) (q := R.length) (ws := ws) get_at hg.small hg.len).imp ?_
    rintro d m ⟨s4, rows, rfl, rfl, hx4, hf, hrl⟩
    generalize hB : s4.mem (R ++ [MO.lst (ws.map natD)] ++ [.lst (rows.map bD)]) = B
    have hBr : B[(R ++ [MO.lst (ws.map natD)]).length + 2]? = some (.lst (rows.map bD)) := by rw [← hB, DS.get2]; exact get_at
    have hBw : B[R.length + 2]? = some (.lst (ws.map natD)) := by rw [← hB, DS.get2, List.append_assoc]; simp
    simp only [dE_var, dE_lit, dE_bin, dE_neg, dE_inv, dE_cmp, dE_chain, dE_and, dE_or, dE_not, dE_ife, dE_tup, dE_lst, dE_idx, dE_slc, dE_call, dE_bi, dE_isin, dE_meth, dE_comp, dE_gc, dE_lrng1, dE_lrng2, dEs_nil, dEs_cons, dO_none, dO_some, dB_and, dB_or, dB_not, dB_val, dBO_none, dBO_some, dI_plain, dI_rng1, dI_rng2, dI_zip, dI_enum, dI_rev, dT_name, dT_tup, dT_sub, dTs_nil, dTs_cons, dS_asg, dS_aug, dS_augS, dS_par3, dS_expr, dS_ret, dS_retN, dS_pass, dS_brk, dS_cont, dS_ite, dS_whl, dS_fr, dSs_nil, Res.ok_bind, Res.bad_bind, Res.ok_to, Res.bad_to, SR.nx_seq, SR.rt_seq, SR.bk_seq, SR.ct_seq, wp_ok, wp_bind, wp_to, swp_nx, swp_rt, swp_bk, swp_ct, swp_seq, wp_fin, fin_rt, fin_nx, wipe_nil, wipe_cons, List.getElem?_cons_zero, List.getElem?_cons_succ, List.set_cons_zero, List.set_cons_succ, List.getElem?_nil, newL_eq, seq_tup, seq_kl, iterD_tup, iterD_kl, iterS_tup, iterS_kl, truR_bool, if_true, Bool.false_eq_true, if_false, Bool.not_true, Bool.not_false, iterL hBr]
    refine for_wpL (I2 (.kl (ns.map .int)) most i op wd low (R.length + 2) B) ⟨[], _, _, _, rfl, by simp⟩ ?_ ?_ ?_
    · rintro done2 σ m ⟨j2, x, y, z, rfl, rfl⟩
      simp only [guard_one]
      exact pre_get (List.prefix_append _ _) hBr
    · rintro done2 xs σ m hxs hpre2 ⟨j2, x, y, z, rfl, rfl⟩
      obtain ⟨v, hv⟩ := hg.p xs (hf xs hxs)
      generalize hM : B ++ j2 = M
      have gw : M[R.length + 2]? = some (.lst (ws.map natD)) := by rw [← hM]; exact pre_get (List.prefix_append _ _) hBw
      have gw2 : (M ++ [MO.lst (xs.map natD)])[R.length + 2]? = some (.lst (ws.map natD)) := pre_get (List.prefix_append _ _) gw
      obtain ⟨h1, h2⟩ := hv G (k + 6) (R.length + 2) M.length (M ++ [.lst (xs.map natD)]) gw2 get_at
      simp only [dE_var, dE_lit, dE_bin, dE_neg, dE_inv, dE_cmp, dE_chain, dE_and, dE_or, dE_not, dE_ife, dE_tup, dE_lst, dE_idx, dE_slc, dE_call, dE_bi, dE_isin, dE_meth, dE_comp, dE_gc, dE_lrng1, dE_lrng2, dEs_nil, dEs_cons, dO_none, dO_some, dB_and, dB_or, dB_not, dB_val, dBO_none, dBO_some, dI_plain, dI_rng1, dI_rng2, dI_zip, dI_enum, dI_rev, dT_name, dT_tup, dT_sub, dTs_nil, dTs_cons, dS_asg, dS_aug, dS_augS, dS_par3, dS_expr, dS_ret, dS_retN, dS_pass, dS_brk, dS_cont, dS_ite, dS_whl, dS_fr, dSs_nil, Res.ok_bind, Res.bad_bind, Res.ok_to, Res.bad_to, SR.nx_seq, SR.rt_seq, SR.bk_seq, SR.ct_seq, wp_ok, wp_bind, wp_to, swp_nx, swp_rt, swp_bk, swp_ct, swp_seq, wp_fin, fin_rt, fin_nx, wipe_nil, wipe_cons, List.getElem?_cons_zero, List.getElem?_cons_succ, List.set_cons_zero, List.set_cons_succ, List.getElem?_nil, newL_eq, seq_tup, seq_kl, iterD_tup, iterD_kl, iterS_tup, iterS_kl, truR_bool, if_true, Bool.false_eq_true, if_false, Bool.not_true, Bool.not_false]
      refine step ?_
      simp only [dE_var, dE_lit, dE_bin, dE_neg, dE_inv, dE_cmp, dE_chain, dE_and, dE_or, dE_not, dE_ife, dE_tup, dE_lst, dE_idx, dE_slc, dE_call, dE_bi, dE_isin, dE_meth, dE_comp, dE_gc, dE_lrng1, dE_lrng2, dEs_nil, dEs_cons, dO_none, dO_some, dB_and, dB_or, dB_not, dB_val, dBO_none, dBO_some, dI_plain, dI_rng1, dI_rng2, dI_zip, dI_enum, dI_rev, dT_name, dT_tup, dT_sub, dTs_nil, dTs_cons, dS_asg, dS_aug, dS_augS, dS_par3, dS_expr, dS_ret, dS_retN, dS_pass, dS_brk, dS_cont, dS_ite, dS_whl, dS_fr, dSs_nil, Res.ok_bind, Res.bad_bind, Res.ok_to, Res.bad_to, SR.nx_seq, SR.rt_seq, SR.bk_seq, SR.ct_seq, wp_ok, wp_bind, wp_to, swp_nx, swp_rt, swp_bk, swp_ct, swp_seq, wp_fin, fin_rt, fin_nx, wipe_nil, wipe_cons, List.getElem?_cons_zero, List.getElem?_cons_succ, List.set_cons_zero, List.set_cons_succ, List.getElem?_nil, newL_eq, seq_tup, seq_kl, iterD_tup, iterD_kl, iterS_tup, iterS_kl, truR_bool, if_true, Bool.false_eq_true, if_false, Bool.not_true, Bool.not_false, listOf (seq_tup (xs := xs.map natD)), h1]
      refine step ?_
      simp only [dE_var, dE_lit, dE_bin, dE_neg, dE_inv, dE_cmp, dE_chain, dE_and, dE_or, dE_not, dE_ife, dE_tup, dE_lst, dE_idx, dE_slc, dE_call, dE_bi, dE_isin, dE_meth, dE_comp, dE_gc, dE_lrng1, dE_lrng2, dEs_nil, dEs_cons, dO_none, dO_some, dB_and, dB_or, dB_not, dB_val, dBO_none, dBO_some, dI_plain, dI_rng1, dI_rng2, dI_zip, dI_enum, dI_rev, dT_name, dT_tup, dT_sub, dTs_nil, dTs_cons, dS_asg, dS_aug, dS_augS, dS_par3, dS_expr, dS_ret, dS_retN, dS_pass, dS_brk, dS_cont, dS_ite, dS_whl, dS_fr, dSs_nil, Res.ok_bind, Res.bad_bind, Res.ok_to, Res.bad_to, SR.nx_seq, SR.rt_seq, SR.bk_seq, SR.ct_seq, wp_ok, wp_bind, wp_to, swp_nx, swp_rt, swp_bk, swp_ct, swp_seq, wp_fin, fin_rt, fin_nx, wipe_nil, wipe_cons, List.getElem?_cons_zero, List.getElem?_cons_succ, List.set_cons_zero, List.set_cons_succ, List.getElem?_nil, newL_eq, seq_tup, seq_kl, iterD_tup, iterD_kl, iterS_tup, iterS_kl, truR_bool, if_true, Bool.false_eq_true, if_false, Bool.not_true, Bool.not_false, opC_eq, eqS, ofB_some]
      generalize hM2 : M ++ [MO.lst (xs.map natD)] = M2 at *
      have tw : ∀ (d : PC.D), d = .ref (R.length + 2) → biD .tuple [d] M2 = .ok (.tup (ws.map natD)) M2 := fun d e => by subst e; rw [bi_tuple, seqL gw2]
      have fin : I2 (.kl (ns.map .int)) most i op wd low (R.length + 2) B (done2 ++ [xs]) [some (.kl (ns.map .int)), some (.ref 1), some (.ref 2), some (natD most), some (natD i), some (opD op), some (natD wd), some (.ref (R.length + 2)), some (natD low), some (bD xs), some (.int v), some (.int v)] M2 := ⟨j2 ++ [.lst (xs.map natD)], _, _, _, rfl, by rw [← hM2, ← hM]; simp⟩
      cases hb : (op == "bits") with
      | true =>
        simp only [dE_var, dE_lit, dE_bin, dE_neg, dE_inv, dE_cmp, dE_chain, dE_and, dE_or, dE_not, dE_ife, dE_tup, dE_lst, dE_idx, dE_slc, dE_call, dE_bi, dE_isin, dE_meth, dE_comp, dE_gc, dE_lrng1, dE_lrng2, dEs_nil, dEs_cons, dO_none, dO_some, dB_and, dB_or, dB_not, dB_val, dBO_none, dBO_some, dI_plain, dI_rng1, dI_rng2, dI_zip, dI_enum, dI_rev, dT_name, dT_tup, dT_sub, dTs_nil, dTs_cons, dS_asg, dS_aug, dS_augS, dS_par3, dS_expr, dS_ret, dS_retN, dS_pass, dS_brk, dS_cont, dS_ite, dS_whl, dS_fr, dSs_nil, Res.ok_bind, Res.bad_bind, Res.ok_to, Res.bad_to, SR.nx_seq, SR.rt_seq, SR.bk_seq, SR.ct_seq, wp_ok, wp_bind, wp_to, swp_nx, swp_rt, swp_bk, swp_ct, swp_seq, wp_fin, fin_rt, fin_nx, wipe_nil, wipe_cons, List.getElem?_cons_zero, List.getElem?_cons_succ, List.set_cons_zero, List.set_cons_succ, List.getElem?_nil, newL_eq, seq_tup, seq_kl, iterD_tup, iterD_kl, iterS_tup, iterS_kl, truR_bool, if_true, Bool.false_eq_true, if_false, Bool.not_true, Bool.not_false]
        refine step ?_
        simp only [dE_var, dE_lit, dE_bin, dE_neg, dE_inv, dE_cmp, dE_chain, dE_and, dE_or, dE_not, dE_ife, dE_tup, dE_lst, dE_idx, dE_slc, dE_call, dE_bi, dE_isin, dE_meth, dE_comp, dE_gc, dE_lrng1, dE_lrng2, dEs_nil, dEs_cons, dO_none, dO_some, dB_and, dB_or, dB_not, dB_val, dBO_none, dBO_some, dI_plain, dI_rng1, dI_rng2, dI_zip, dI_enum, dI_rev, dT_name, dT_tup, dT_sub, dTs_nil, dTs_cons, dS_asg, dS_aug, dS_augS, dS_par3, dS_expr, dS_ret, dS_retN, dS_pass, dS_brk, dS_cont, dS_ite, dS_whl, dS_fr, dSs_nil, Res.ok_bind, Res.bad_bind, Res.ok_to, Res.bad_to, SR.nx_seq, SR.rt_seq, SR.bk_seq, SR.ct_seq, wp_ok, wp_bind, wp_to, swp_nx, swp_rt, swp_bk, swp_ct, swp_seq, wp_fin, fin_rt, fin_nx, wipe_nil, wipe_cons, List.getElem?_cons_zero, List.getElem?_cons_succ, List.set_cons_zero, List.set_cons_succ, List.getElem?_nil, newL_eq, seq_tup, seq_kl, iterD_tup, iterD_kl, iterS_tup, iterS_kl, truR_bool, if_true, Bool.false_eq_true, if_false, Bool.not_true, Bool.not_false, tw _ rfl, h2]
        refine step ?_
        simp only [dE_var, dE_lit, dE_bin, dE_neg, dE_inv, dE_cmp, dE_chain, dE_and, dE_or, dE_not, dE_ife, dE_tup, dE_lst, dE_idx, dE_slc, dE_call, dE_bi, dE_isin, dE_meth, dE_comp, dE_gc, dE_lrng1, dE_lrng2, dEs_nil, dEs_cons, dO_none, dO_some, dB_and, dB_or, dB_not, dB_val, dBO_none, dBO_some, dI_plain, dI_rng1, dI_rng2, dI_zip, dI_enum, dI_rev, dT_name, dT_tup, dT_sub, dTs_nil, dTs_cons, dS_asg, dS_aug, dS_augS, dS_par3, dS_expr, dS_ret, dS_retN, dS_pass, dS_brk, dS_cont, dS_ite, dS_whl, dS_fr, dSs_nil, Res.ok_bind, Res.bad_bind, Res.ok_to, Res.bad_to, SR.nx_seq, SR.rt_seq, SR.bk_seq, SR.ct_seq, wp_ok, wp_bind, wp_to, swp_nx, swp_rt, swp_bk, swp_ct, swp_seq, wp_fin, fin_rt, fin_nx, wipe_nil, wipe_cons, List.getElem?_cons_zero, List.getElem?_cons_succ, List.set_cons_zero, List.set_cons_succ, List.getElem?_nil, newL_eq, seq_tup, seq_kl, iterD_tup, iterD_kl, iterS_tup, iterS_kl, truR_bool, if_true, Bool.false_eq_true, if_false, Bool.not_true, Bool.not_false, r_is_int, opC_ne, eq_int, ofNB_some, decide_true]
        exact fin
      | false =>
        have h4 : runF (tabP tab) G (k + 9) "result" [opD op, natD wd, .tup (ws.map natD), .tup (xs.map natD)] M2 = .ok (.int v) M2 := by
          have hlow := hg.lo (by simpa using hb)
          rw [hlow, u_result] at h2
          rw [u1_result]; exact h2
        simp only [dE_var, dE_lit, dE_bin, dE_neg, dE_inv, dE_cmp, dE_chain, dE_and, dE_or, dE_not, dE_ife, dE_tup, dE_lst, dE_idx, dE_slc, dE_call, dE_bi, dE_isin, dE_meth, dE_comp, dE_gc, dE_lrng1, dE_lrng2, dEs_nil, dEs_cons, dO_none, dO_some, dB_and, dB_or, dB_not, dB_val, dBO_none, dBO_some, dI_plain, dI_rng1, dI_rng2, dI_zip, dI_enum, dI_rev, dT_name, dT_tup, dT_sub, dTs_nil, dTs_cons, dS_asg, dS_aug, dS_augS, dS_par3, dS_expr, dS_ret, dS_retN, dS_pass, dS_brk, dS_cont, dS_ite, dS_whl, dS_fr, dSs_nil, Res.ok_bind, Res.bad_bind, Res.ok_to, Res.bad_to, SR.nx_seq, SR.rt_seq, SR.bk_seq, SR.ct_seq, wp_ok, wp_bind, wp_to, swp_nx, swp_rt, swp_bk, swp_ct, swp_seq, wp_fin, fin_rt, fin_nx, wipe_nil, wipe_cons, List.getElem?_cons_zero, List.getElem?_cons_succ, List.set_cons_zero, List.set_cons_succ, List.getElem?_nil, newL_eq, seq_tup, seq_kl, iterD_tup, iterD_kl, iterS_tup, iterS_kl, truR_bool, if_true, Bool.false_eq_true, if_false, Bool.not_true, Bool.not_false]
        refine step ?_
        simp only [dE_var, dE_lit, dE_bin, dE_neg, dE_inv, dE_cmp, dE_chain, dE_and, dE_or, dE_not, dE_ife, dE_tup, dE_lst, dE_idx, dE_slc, dE_call, dE_bi, dE_isin, dE_meth, dE_comp, dE_gc, dE_lrng1, dE_lrng2, dEs_nil, dEs_cons, dO_none, dO_some, dB_and, dB_or, dB_not, dB_val, dBO_none, dBO_some, dI_plain, dI_rng1, dI_rng2, dI_zip, dI_enum, dI_rev, dT_name, dT_tup, dT_sub, dTs_nil, dTs_cons, dS_asg, dS_aug, dS_augS, dS_par3, dS_expr, dS_ret, dS_retN, dS_pass, dS_brk, dS_cont, dS_ite, dS_whl, dS_fr, dSs_nil, Res.ok_bind, Res.bad_bind, Res.ok_to, Res.bad_to, SR.nx_seq, SR.rt_seq, SR.bk_seq, SR.ct_seq, wp_ok, wp_bind, wp_to, swp_nx, swp_rt, swp_bk, swp_ct, swp_seq, wp_fin, fin_rt, fin_nx, wipe_nil, wipe_cons, List.getElem?_cons_zero, List.getElem?_cons_succ, List.set_cons_zero, List.set_cons_succ, List.getElem?_nil, newL_eq, seq_tup, seq_kl, iterD_tup, iterD_kl, iterS_tup, iterS_kl, truR_bool, if_true, Bool.false_eq_true, if_false, Bool.not_true, Bool.not_false, tw _ rfl, h4]
        refine step ?_
        simp only [dE_var, dE_lit, dE_bin, dE_neg, dE_inv, dE_cmp, dE_chain, dE_and, dE_or, dE_not, dE_ife, dE_tup, dE_lst, dE_idx, dE_slc, dE_call, dE_bi, dE_isin, dE_meth, dE_comp, dE_gc, dE_lrng1, dE_lrng2, dEs_nil, dEs_cons, dO_none, dO_some, dB_and, dB_or, dB_not, dB_val, dBO_none, dBO_some, dI_plain, dI_rng1, dI_rng2, dI_zip, dI_enum, dI_rev, dT_name, dT_tup, dT_sub, dTs_nil, dTs_cons, dS_asg, dS_aug, dS_augS, dS_par3, dS_expr, dS_ret, dS_retN, dS_pass, dS_brk, dS_cont, dS_ite, dS_whl, dS_fr, dSs_nil, Res.ok_bind, Res.bad_bind, Res.ok_to, Res.bad_to, SR.nx_seq, SR.rt_seq, SR.bk_seq, SR.ct_seq, wp_ok, wp_bind, wp_to, swp_nx, swp_rt, swp_bk, swp_ct, swp_seq, wp_fin, fin_rt, fin_nx, wipe_nil, wipe_cons, List.getElem?_cons_zero, List.getElem?_cons_succ, List.set_cons_zero, List.set_cons_succ, List.getElem?_nil, newL_eq, seq_tup, seq_kl, iterD_tup, iterD_kl, iterS_tup, iterS_kl, truR_bool, if_true, Bool.false_eq_true, if_false, Bool.not_true, Bool.not_false, r_is_int, opC_ne, eq_int, ofNB_some, decide_true]
        exact fin
    · rintro σ m ⟨j2, x, y, z, rfl, rfl⟩
      refine ⟨s4, L.eraseIdx ix, [MO.lst (ws.map natD)] ++ [.lst (rows.map bD)] ++ j2 |> fun t => (j ++ t), _, _, _, _, _, _, _, _, rfl, ?_, ?_, ?_⟩
      · rw [← hB, ← hR]; simp
      · rw [List.length_eraseIdx_of_lt hix]; simp; omega
      · intro x hx
        exact hsub x (List.mem_of_mem_eraseIdx hx)
  · rintro σ m ⟨s, L, j, x, y, z, u, v, w, p, q, rfl, rfl, hL, hsub⟩
    refine step ?_
    simp only [dE_var, dE_lit, dE_bin, dE_neg, dE_inv, dE_cmp, dE_chain, dE_and, dE_or, dE_not, dE_ife, dE_tup, dE_lst, dE_idx, dE_slc, dE_call, dE_bi, dE_isin, dE_meth, dE_comp, dE_gc, dE_lrng1, dE_lrng2, dEs_nil, dEs_cons, dO_none, dO_some, dB_and, dB_or, dB_not, dB_val, dBO_none, dBO_some, dI_plain, dI_rng1, dI_rng2, dI_zip, dI_enum, dI_rev, dT_name, dT_tup, dT_sub, dTs_nil, dTs_cons, dS_asg, dS_aug, dS_augS, dS_par3, dS_expr, dS_ret, dS_retN, dS_pass, dS_brk, dS_cont, dS_ite, dS_whl, dS_fr, dSs_nil, Res.ok_bind, Res.bad_bind, Res.ok_to, Res.bad_to, SR.nx_seq, SR.rt_seq, SR.bk_seq, SR.ct_seq, wp_ok, wp_bind, wp_to, swp_nx, swp_rt, swp_bk, swp_ct, swp_seq, wp_fin, fin_rt, fin_nx, wipe_nil, wipe_cons, List.getElem?_cons_zero, List.getElem?_cons_succ, List.set_cons_zero, List.set_cons_succ, List.getElem?_nil, newL_eq, seq_tup, seq_kl, iterD_tup, iterD_kl, iterS_tup, iterS_kl, truR_bool, if_true, Bool.false_eq_true, if_false, Bool.not_true, Bool.not_false]
    rw [gc_nil (by simp)]
    rfl
end
theorem law_true (ns : List Int) (hl : ns.length ≤ 63) : ∃ m, runF (tabP tab) G0 40 "law" [.kl (ns.map .int)] [] = .ok (.bool true) m := by
  obtain ⟨d, m, e, rfl⟩ := wp_ex_eq (r_law (G := G0) (k := 30) hl)
  exact ⟨m, e⟩
end PC.K01

namespace PC.K01
open PySem L2 Classical
theorem tab_law : (tab.find? fun g => g.name == FD.name f_law) = some f_law := by rfl
section
theorem all_mk {l : PySem.W.OpenLaw} {w : World} {K : PySem.W.Frag} {h : Heap} {mg : Str → Option Value} {fa a_0 a_1 a_2 a_3 a_4 a_5 a_6 a_7 a_8 a_9 a_10 a_11 a_12 : Addr} (X : K.In h) (G : h.Ns mainGlobals mg) (hfa : mg "law" = some (.ref fa))
    {od0 an0 od1 an1 od2 an2 od3 an3 od4 an4 od5 an5 od6 an6 od7 an7 od8 an8 od9 an9 od10 an10 od11 an11 od12 an12 : Option Addr} {sl0 sl1 sl2 sl3 sl4 sl5 sl6 sl7 sl8 sl9 sl10 sl11 sl12 : Array (Option Value)} {oc0 kV0 dc0 pm0 cd0 ct0 oc1 kV1 dc1 pm1 cd1 ct1 oc2 kV2 dc2 pm2 cd2 ct2 oc3 kV3 dc3 pm3 cd3 ct3 oc4 kV4 dc4 pm4 cd4 ct4 oc5 kV5 dc5 pm5 cd5 ct5 oc6 kV6 dc6 pm6 cd6 ct6 oc7 kV7 dc7 pm7 cd7 ct7 oc8 kV8 dc8 pm8 cd8 ct8 oc9 kV9 dc9 pm9 cd9 ct9 oc10 kV10 dc10 pm10 cd10 ct10 oc11 kV11 dc11 pm11 cd11 ct11 oc12 kV12 dc12 pm12 cd12 ct12 : Value}
    {dk0_0 : Tok}
    {dT0 : Addr} {dO0 : Option Addr} {dN0 : Nat} {dS0 : Array (Option Value)}
    (p0 : PySem.W.nsIn K mainGlobals "result" = some (some (.ref a_0))) (l0 : K.lookup a_0 = some ⟨oc0, od0, .func (PySem.W.fnOf "result" "result" (defArgs s_result) (defBody s_result) (defScope s_result) (.ref dT0) kV0 dc0 pm0 an0 cd0 ct0), sl0⟩) (c0 : PySem.W.codeIn K cd0 "result" = true) (k0 : PySem.W.keepIn K (.ref a_0) = true)
    (dl0 : K.lookup dT0 = some ⟨.type "tuple", dO0, .seq #[Value.int (0) dk0_0] dN0, dS0⟩)
    (p1 : PySem.W.nsIn K mainGlobals "of_one" = some (some (.ref a_1))) (l1 : K.lookup a_1 = some ⟨oc1, od1, .func (PySem.W.fnOf "of_one" "of_one" (defArgs s_of_one) (defBody s_of_one) (defScope s_of_one) .none kV1 dc1 pm1 an1 cd1 ct1), sl1⟩) (c1 : PySem.W.codeIn K cd1 "of_one" = true) (k1 : PySem.W.keepIn K (.ref a_1) = true)
    (p2 : PySem.W.nsIn K mainGlobals "of_two" = some (some (.ref a_2))) (l2 : K.lookup a_2 = some ⟨oc2, od2, .func (PySem.W.fnOf "of_two" "of_two" (defArgs s_of_two) (defBody s_of_two) (defScope s_of_two) .none kV2 dc2 pm2 an2 cd2 ct2), sl2⟩) (c2 : PySem.W.codeIn K cd2 "of_two" = true) (k2 : PySem.W.keepIn K (.ref a_2) = true)
    (p3 : PySem.W.nsIn K mainGlobals "compared_words" = some (some (.ref a_3))) (l3 : K.lookup a_3 = some ⟨oc3, od3, .func (PySem.W.fnOf "compared_words" "compared_words" (defArgs s_compared_words) (defBody s_compared_words) (defScope s_compared_words) .none kV3 dc3 pm3 an3 cd3 ct3), sl3⟩) (c3 : PySem.W.codeIn K cd3 "compared_words" = true) (k3 : PySem.W.keepIn K (.ref a_3) = true)
    (p4 : PySem.W.nsIn K mainGlobals "ones_of" = some (some (.ref a_4))) (l4 : K.lookup a_4 = some ⟨oc4, od4, .func (PySem.W.fnOf "ones_of" "ones_of" (defArgs s_ones_of) (defBody s_ones_of) (defScope s_ones_of) .none kV4 dc4 pm4 an4 cd4 ct4), sl4⟩) (c4 : PySem.W.codeIn K cd4 "ones_of" = true) (k4 : PySem.W.keepIn K (.ref a_4) = true)
    (p5 : PySem.W.nsIn K mainGlobals "_law_begin" = some (some (.ref a_5))) (l5 : K.lookup a_5 = some ⟨oc5, od5, .func (PySem.W.fnOf "_law_begin" "_law_begin" (defArgs s_l_begin) (defBody s_l_begin) (defScope s_l_begin) .none kV5 dc5 pm5 an5 cd5 ct5), sl5⟩) (c5 : PySem.W.codeIn K cd5 "_law_begin" = true) (k5 : PySem.W.keepIn K (.ref a_5) = true)
    (p6 : PySem.W.nsIn K mainGlobals "_law_draw" = some (some (.ref a_6))) (l6 : K.lookup a_6 = some ⟨oc6, od6, .func (PySem.W.fnOf "_law_draw" "_law_draw" (defArgs s_l_draw) (defBody s_l_draw) (defScope s_l_draw) .none kV6 dc6 pm6 an6 cd6 ct6), sl6⟩) (c6 : PySem.W.codeIn K cd6 "_law_draw" = true) (k6 : PySem.W.keepIn K (.ref a_6) = true)
    (p7 : PySem.W.nsIn K mainGlobals "_law_pop" = some (some (.ref a_7))) (l7 : K.lookup a_7 = some ⟨oc7, od7, .func (PySem.W.fnOf "_law_pop" "_law_pop" (defArgs s_l_pop) (defBody s_l_pop) (defScope s_l_pop) .none kV7 dc7 pm7 an7 cd7 ct7), sl7⟩) (c7 : PySem.W.codeIn K cd7 "_law_pop" = true) (k7 : PySem.W.keepIn K (.ref a_7) = true)
    (p8 : PySem.W.nsIn K mainGlobals "_law_is_int" = some (some (.ref a_8))) (l8 : K.lookup a_8 = some ⟨oc8, od8, .func (PySem.W.fnOf "_law_is_int" "_law_is_int" (defArgs s_l_is_int) (defBody s_l_is_int) (defScope s_l_is_int) .none kV8 dc8 pm8 an8 cd8 ct8), sl8⟩) (c8 : PySem.W.codeIn K cd8 "_law_is_int" = true) (k8 : PySem.W.keepIn K (.ref a_8) = true)
    (p9 : PySem.W.nsIn K mainGlobals "_law_word" = some (some (.ref a_9))) (l9 : K.lookup a_9 = some ⟨oc9, od9, .func (PySem.W.fnOf "_law_word" "_law_word" (defArgs s_l_word) (defBody s_l_word) (defScope s_l_word) .none kV9 dc9 pm9 an9 cd9 ct9), sl9⟩) (c9 : PySem.W.codeIn K cd9 "_law_word" = true) (k9 : PySem.W.keepIn K (.ref a_9) = true)
    (p10 : PySem.W.nsIn K mainGlobals "_law_shape" = some (some (.ref a_10))) (l10 : K.lookup a_10 = some ⟨oc10, od10, .func (PySem.W.fnOf "_law_shape" "_law_shape" (defArgs s_l_shape) (defBody s_l_shape) (defScope s_l_shape) .none kV10 dc10 pm10 an10 cd10 ct10), sl10⟩) (c10 : PySem.W.codeIn K cd10 "_law_shape" = true) (k10 : PySem.W.keepIn K (.ref a_10) = true)
    (p11 : PySem.W.nsIn K mainGlobals "_law_rows" = some (some (.ref a_11))) (l11 : K.lookup a_11 = some ⟨oc11, od11, .func (PySem.W.fnOf "_law_rows" "_law_rows" (defArgs s_l_rows) (defBody s_l_rows) (defScope s_l_rows) .none kV11 dc11 pm11 an11 cd11 ct11), sl11⟩) (c11 : PySem.W.codeIn K cd11 "_law_rows" = true) (k11 : PySem.W.keepIn K (.ref a_11) = true)
    (p12 : PySem.W.nsIn K mainGlobals "law" = some (some (.ref a_12))) (l12 : K.lookup a_12 = some ⟨oc12, od12, .func (PySem.W.fnOf "law" "law" (defArgs s_law) (defBody s_law) (defScope s_law) .none kV12 dc12 pm12 an12 cd12 ct12), sl12⟩) (c12 : PySem.W.codeIn K cd12 "law" = true) (k12 : PySem.W.keepIn K (.ref a_12) = true)
    (z0 : PySem.W.nsIn K mainGlobals "len" = some none)
    (z1 : PySem.W.nsIn K mainGlobals "int" = some none)
    (z2 : PySem.W.nsIn K mainGlobals "abs" = some none)
    (z3 : PySem.W.nsIn K mainGlobals "min" = some none)
    (z4 : PySem.W.nsIn K mainGlobals "max" = some none)
    (z5 : PySem.W.nsIn K mainGlobals "sum" = some none)
    (z6 : PySem.W.nsIn K mainGlobals "all" = some none)
    (z7 : PySem.W.nsIn K mainGlobals "any" = some none)
    (z8 : PySem.W.nsIn K mainGlobals "tuple" = some none)
    (z9 : PySem.W.nsIn K mainGlobals "list" = some none)
    (z10 : PySem.W.nsIn K mainGlobals "isinstance" = some none)
    (z11 : PySem.W.nsIn K mainGlobals "range" = some none)
    (z12 : PySem.W.nsIn K mainGlobals "zip" = some none)
    (z13 : PySem.W.nsIn K mainGlobals "enumerate" = some none)
    (z14 : PySem.W.nsIn K mainGlobals "reversed" = some none)
    (z15 : PySem.W.nsIn K mainGlobals "bool" = some none)
    (z16 : PySem.W.nsIn K mainGlobals "str" = some none) :
    ∃ fd : FuncData, (∀ (s : Shared) (v : Value), BindsTo s fd ⟨[v], []⟩ [("_law_script", v)]) ∧ ∀ base : Heap, K.In base → base.Ns mainGlobals mg → FnOk l.prog w K mg base CX0 40 fa fd ["_law_script"] (spI K 1 (runF (tabP tab) G0 40 "law")) := by
  have e := hfa.symm.trans (PySem.W.mg_of X G p12)
  cases e
  have F0 : FunD K "result" "result" (defArgs s_result) (defBody s_result) (defScope s_result) [V.int (0)] [] a_0 _ := ⟨⟨_, _, _, _, _, _, _, _, _, _, rfl, l0, c0, .inr ⟨by simp, _, _, _, _, rfl, dl0, rfl, (.cons ⟨_, rfl⟩ .nil)⟩, .inl rfl⟩, k0⟩
  have B0_4 := F0.binds1 (ps := ["op", "width", "widths", "words", "low"]) 4 0 (by simp) (by rfl) fun _ _ _ _ _ _ _ us its h1 h2 => match us, h1, its, h2 with | [_, _, _, _], _, [_], _ => ⟨_, rfl, rfl⟩
  have B0_5 := F0.binds1 (ps := ["op", "width", "widths", "words", "low"]) 5 1 (by simp) (by rfl) fun _ _ _ _ _ _ _ us its h1 h2 => match us, h1, its, h2 with | [_, _, _, _, _], _, [_], _ => ⟨_, rfl, rfl⟩
  have I0 : InW K mg f_result := ⟨_, _, _, PySem.W.mg_of X G p0, F0, fun ρ H => by simp [f_result, RVs, RV], fun n h1 h2 => by
    have h1 : n ≤ 5 := h1
    have h2 : 5 ≤ n + 1 := h2
    rcases (show n = 4 ∨ n = 5 by omega) with rfl | rfl
    · exact B0_4
    · exact B0_5⟩
  have F1 := fun_mk (st := s_of_one) l1 c1 k1
  have B1 := F1.binds (ps := ["op", "width", "wide", "word", "low"]) fun _ _ _ _ _ _ us hl => match us, hl with | [_, _, _, _, _], _ => rfl
  have F2 := fun_mk (st := s_of_two) l2 c2 k2
  have B2 := F2.binds (ps := ["op", "left", "right"]) fun _ _ _ _ _ _ us hl => match us, hl with | [_, _, _], _ => rfl
  have F3 := fun_mk (st := s_compared_words) l3 c3 k3
  have B3 := F3.binds (ps := ["op", "left", "right"]) fun _ _ _ _ _ _ us hl => match us, hl with | [_, _, _], _ => rfl
  have F4 := fun_mk (st := s_ones_of) l4 c4 k4
  have B4 := F4.binds (ps := ["word"]) fun _ _ _ _ _ _ us hl => match us, hl with | [_], _ => rfl
  have F5 := fun_mk (st := s_l_begin) l5 c5 k5
  have B5 := F5.binds (ps := ["_law_script"]) fun _ _ _ _ _ _ us hl => match us, hl with | [_], _ => rfl
  have F6 := fun_mk (st := s_l_draw) l6 c6 k6
  have B6 := F6.binds (ps := ["_law_d", "_law_many"]) fun _ _ _ _ _ _ us hl => match us, hl with | [_, _], _ => rfl
  have F7 := fun_mk (st := s_l_pop) l7 c7 k7
  have B7 := F7.binds (ps := ["_law_d", "_law_row"]) fun _ _ _ _ _ _ us hl => match us, hl with | [_, _], _ => rfl
  have F8 := fun_mk (st := s_l_is_int) l8 c8 k8
  have B8 := F8.binds (ps := ["_law_thing"]) fun _ _ _ _ _ _ us hl => match us, hl with | [_], _ => rfl
  have F9 := fun_mk (st := s_l_word) l9 c9 k9
  have B9 := F9.binds (ps := ["_law_op", "_law_width", "_law_wides", "_law_words", "_law_low"]) fun _ _ _ _ _ _ us hl => match us, hl with | [_, _, _, _, _], _ => rfl
  have F10 := fun_mk (st := s_l_shape) l10 c10 k10
  have B10 := F10.binds (ps := ["_law_d", "_law_op", "_law_most"]) fun _ _ _ _ _ _ us hl => match us, hl with | [_, _, _], _ => rfl
  have F11 := fun_mk (st := s_l_rows) l11 c11 k11
  have B11 := F11.binds (ps := ["_law_d", "_law_wides"]) fun _ _ _ _ _ _ us hl => match us, hl with | [_, _], _ => rfl
  have F12 := fun_mk (st := s_law) l12 c12 k12
  have B12 := F12.binds (ps := ["_law_script"]) fun _ _ _ _ _ _ us hl => match us, hl with | [_], _ => rfl
  have hin : ∀ f ∈ tab, InW K mg f := by
    unfold tab
    simp only [List.forall_mem_cons]
    exact ⟨I0, InW.of0 rfl (PySem.W.mg_of X G p1) F1 B1, InW.of0 rfl (PySem.W.mg_of X G p2) F2 B2, InW.of0 rfl (PySem.W.mg_of X G p3) F3 B3, InW.of0 rfl (PySem.W.mg_of X G p4) F4 B4, InW.of0 rfl (PySem.W.mg_of X G p5) F5 B5, InW.of0 rfl (PySem.W.mg_of X G p6) F6 B6, InW.of0 rfl (PySem.W.mg_of X G p7) F7 B7, InW.of0 rfl (PySem.W.mg_of X G p8) F8 B8, InW.of0 rfl (PySem.W.mg_of X G p9) F9 B9, InW.of0 rfl (PySem.W.mg_of X G p10) F10 B10, InW.of0 rfl (PySem.W.mg_of X G p11) F11 B11, InW.of0 rfl (PySem.W.mg_of X G p12) F12 B12, fun _ h => nomatch h⟩
  have hz : ∀ x ∈ bltN, mg x = none := by
    unfold bltN
    simp only [List.forall_mem_cons]
    exact ⟨PySem.W.mg_none_of X G z0, PySem.W.mg_none_of X G z1, PySem.W.mg_none_of X G z2, PySem.W.mg_none_of X G z3, PySem.W.mg_none_of X G z4, PySem.W.mg_none_of X G z5, PySem.W.mg_none_of X G z6, PySem.W.mg_none_of X G z7, PySem.W.mg_none_of X G z8, PySem.W.mg_none_of X G z9, PySem.W.mg_none_of X G z10, PySem.W.mg_none_of X G z11, PySem.W.mg_none_of X G z12, PySem.W.mg_none_of X G z13, PySem.W.mg_none_of X G z14, PySem.W.mg_none_of X G z15, PySem.W.mg_none_of X G z16, fun _ h => nomatch h⟩
  have hG : ∀ (x : Str) (d : PC.D), G0 x = some d → ∃ u v, mg x = some u ∧ RelV v u ∧ ∀ ρ H, RV K ρ H d v := by
    intro x d h
    unfold G0 at h
    cases h
  exact ⟨PySem.W.fnOf "law" "law" (defArgs s_law) (defBody s_law) (defScope s_law) .none kV12 dc12 pm12 an12 cd12 ct12, fun s v => .of_eq rfl, fun base _ _ => tab_ok tab_all hin hG hz 40 f_law tab_law _ _ [] (FunD.of0 F12)⟩
end
end PC.K01
open PySem PySem.W PyProof.Rows
set_option maxHeartbeats 0 in
theorem PySem.Challenge.cw_beatfabric_k01_word_operations_holds : PySem.Challenge.rw_beatfabric_k01_word_operations.Holds := by
  w_on; o_law; k_head; (case hw => w_witness2)
  k_fill
  refine L2.walk_of (l := PySem.Challenge.rw_beatfabric_k01_word_operations) (n := 63) (k := 40) (x := "_law_script") (CX := fun _ => L2.CX0) (sp := fun w => PC.spI _ 1 (PC.runF (PC.tabP PC.K01.tab) PC.K01.G0 40 "law")) rfl (by decide) rfl ⟨rfl, by decide, by decide⟩ (fun w h Y => PySem.W.kIn_of Y) ?F (fun _ _ a ns hl hO hS => PC.law_sp hS hO (PC.K01.law_true ns hl)) (fun _ _ _ _ _ h => h)
  case F =>
    intro w mg fa h KX G hmg
    refine' PC.K01.all_mk KX G hmg ?p0 ?l0 ?c0 ?k0 ?dl0 ?p1 ?l1 ?c1 ?k1 ?p2 ?l2 ?c2 ?k2 ?p3 ?l3 ?c3 ?k3 ?p4 ?l4 ?c4 ?k4 ?p5 ?l5 ?c5 ?k5 ?p6 ?l6 ?c6 ?k6 ?p7 ?l7 ?c7 ?k7 ?p8 ?l8 ?c8 ?k8 ?p9 ?l9 ?c9 ?k9 ?p10 ?l10 ?c10 ?k10 ?p11 ?l11 ?c11 ?k11 ?p12 ?l12 ?c12 ?k12 ?z0 ?z1 ?z2 ?z3 ?z4 ?z5 ?z6 ?z7 ?z8 ?z9 ?z10 ?z11 ?z12 ?z13 ?z14 ?z15 ?z16
    (case p0 => k_is); (case l0 => k_is); (case c0 => k_is); (case k0 => k_is); (case dl0 => k_is)
    (case p1 => k_is); (case l1 => k_is); (case c1 => k_is); (case k1 => k_is)
    (case p2 => k_is); (case l2 => k_is); (case c2 => k_is); (case k2 => k_is)
    (case p3 => k_is); (case l3 => k_is); (case c3 => k_is); (case k3 => k_is)
    (case p4 => k_is); (case l4 => k_is); (case c4 => k_is); (case k4 => k_is)
    (case p5 => k_is); (case l5 => k_is); (case c5 => k_is); (case k5 => k_is)
    (case p6 => k_is); (case l6 => k_is); (case c6 => k_is); (case k6 => k_is)
    (case p7 => k_is); (case l7 => k_is); (case c7 => k_is); (case k7 => k_is)
    (case p8 => k_is); (case l8 => k_is); (case c8 => k_is); (case k8 => k_is)
    (case p9 => k_is); (case l9 => k_is); (case c9 => k_is); (case k9 => k_is)
    (case p10 => k_is); (case l10 => k_is); (case c10 => k_is); (case k10 => k_is)
    (case p11 => k_is); (case l11 => k_is); (case c11 => k_is); (case k11 => k_is)
    (case p12 => k_is); (case l12 => k_is); (case c12 => k_is); (case k12 => k_is)
    (case z0 => k_is); (case z1 => k_is); (case z2 => k_is); (case z3 => k_is); (case z4 => k_is); (case z5 => k_is); (case z6 => k_is); (case z7 => k_is); (case z8 => k_is); (case z9 => k_is); (case z10 => k_is); (case z11 => k_is); (case z12 => k_is); (case z13 => k_is); (case z14 => k_is); (case z15 => k_is); (case z16 => k_is)

