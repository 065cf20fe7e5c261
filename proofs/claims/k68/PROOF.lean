import PyProof.Rows.All
import Wide.All
import OpenK.AllK
import Wide.FinOn
import HandS.ForMost
import HandS.Walk
import HandS.TupLe
import HandS.TupAny
import HandS.IsInst
import HandS.SortOrd
import KE.KTupSum
import HandS.SetFor
import HandS.Zip
import KE.GoesMore
import KE.GoesEnum
import HandS.Flow
import HandS.Style
import HandS.Codes
import HandS.Defaults
import HandS.HeadEnd
import HandS.HeadHook2
import KE.KStateDown
import HandS.Words
import HandS.WordsExc
import HandS.Head0
import HandS.Head1
import HandS.Head2
import HandS.HeadHook1
import PySem.Challenge.RW_roofmates_k68_across_debts_paid_in_any_o
section
set_option Elab.async false
set_option linter.all false
namespace Ro
open PySem L2

/-! ## Data of the walk -/
inductive D where
  | non | bl (b : Bool) | int (i : Int) | str (s : Str)
  | tup (xs : List D) | lst (xs : List D) | loc (n : Nat)
  | kt (x : Bool) (xs : List D) | kl (xs : List D)
  | dk (ks : List Key) (vs : List D) | dt (ks : List (List Key)) (vs : List D)
  deriving Inhabited

/-- what stands in the store -/
inductive Ob where
  | lst (xs : List D) | dk (kvs : List (Key × D)) | dt (kvs : List (List Key × D))
  | ins (C : Str) (fs : List (Str × D))
  deriving Inhabited

abbrev Env := List (Option D)
abbrev Sto := List Ob
abbrev CallF := Nat → List D → Sto → Option (D × Sto)

/-! ## The programs of the walk -/
inductive Pr where
  | bin (op : Operator) | cmp (op : CmpOp) | neg
  | tup | lst (m : Bool) | sub
  | len | all | any | tuple (x : Bool) | list (m : Bool) | int | abs | min2 | max2 | min1 | max1 | sum | sorted (m : Bool)
  | isi (ts : List String)
  | append | extend | popi | index | count
  | dnk | dnt | cat
  deriving DecidableEq

inductive Tg where
  | v (i : Nat) | t (ts : List Tg)

mutual
inductive Ex where
  | cst (d : D) | glob (x : Str) (d : D) | var (i : Nat)
  | op (p : Pr) (es : Exs)
  | chain (o1 o2 : CmpOp) (a b c : Ex)
  | and (a b : Ex) | or (a b : Ex) | not (a : Ex) | ite (c a b : Ex)
  | slice (a : Ex) (lo hi : Exs)
  | call (f : Nat) (es : Exs)
  | meth (p : Pr) (o : Ex) (es : Exs)
  | comp (m : Bool) (own : List Nat) (t : Tg) (it : It) (ifs : Exs) (e : Ex)
inductive Exs where
  | nil | cons (e : Ex) (es : Exs)
inductive It where
  | seq (e : Ex) | range (es : Exs) | enum (e : Ex) | zip (es : Exs)
end

mutual
inductive S where
  | asg (t : Tg) (e : Ex)
  | par (is : List Nat) (es : Exs)
  | setS (o i e : Ex)
  | ex (e : Ex)
  | ifs (c : Ex) (a b : Ss)
  | whl (fz : Bool) (c : Ex) (b : Ss)
  | for (fz : Bool) (t : Tg) (it : It) (b : Ss)
  | ret (e : Ex) | retn
  | brk | cnt | pas | never
inductive Ss where
  | nil | cons (s : S) (ss : Ss)
end

/-! ## Values: reading, truth, equality, order -/
def seqOf (st : Sto) : D → Option (List D)
  | .tup xs => some xs
  | .lst xs => some xs
  | .kt _ xs => some xs
  | .kl xs => some xs
  | .loc n => match st[n]? with
    | some (.lst xs) => some xs
    | _ => none
  | _ => none
/-- a list -/
def listOf (st : Sto) : D → Option (List D)
  | .lst xs => some xs
  | .kl xs => some xs
  | .loc n => match st[n]? with
    | some (.lst xs) => some xs
    | _ => none
  | _ => none
def truth (st : Sto) : D → Option Bool
  | .non => some false
  | .bl b => some b
  | .int i => some (i != 0)
  | .tup xs => some (!xs.isEmpty)
  | .lst xs => some (!xs.isEmpty)
  | .kt _ xs => some (!xs.isEmpty)
  | .kl xs => some (!xs.isEmpty)
  | .loc n => match st[n]? with
    | some (.lst xs) => some (!xs.isEmpty)
    | _ => none
  | _ => none
/-- item by item -/
def eqL (f : D → D → Option Bool) : List D → List D → Option Bool
  | [], [] => some true
  | [], _ :: _ => some false
  | _ :: _, [] => some false
  | x :: xs, y :: ys => match f x y, eqL f xs ys with
    | some a, some b => some (a && b)
    | _, _ => none
/-- a tuple is a tuple -/
def nrm : D → D
  | .kt _ xs => .tup xs
  | d => d
def eqN (f : D → D → Option Bool) (a b : D) : Option Bool :=
  match a, b with
  | .non, .non => some true
  | .bl a, .bl b => some (a == b)
  | .int a, .int b => some (a == b)
  | .str a, .str b => some (a == b)
  | .tup xs, .tup ys => eqL f xs ys
  | .lst xs, .lst ys => if xs.length = ys.length then eqL f xs ys else some false
  | .bl a, .int b => some ((if a then 1 else 0) == b) | .int a, .bl b => some (a == (if b then 1 else 0))
  | .bl _, .str _ => some false | .str _, .bl _ => some false
  | .bl _, .tup _ => some false | .tup _, .bl _ => some false
  | .bl _, .lst _ => some false | .lst _, .bl _ => some false
  | .non, .int _ => some false | .int _, .non => some false
  | .non, .bl _ => some false | .bl _, .non => some false
  | .non, .str _ => some false | .str _, .non => some false
  | .non, .tup _ => some false | .tup _, .non => some false
  | .non, .lst _ => some false | .lst _, .non => some false
  | .int _, .str _ => some false | .str _, .int _ => some false
  | .int _, .tup _ => some false | .tup _, .int _ => some false
  | .int _, .lst _ => some false | .lst _, .int _ => some false
  | .str _, .tup _ => some false | .tup _, .str _ => some false
  | .str _, .lst _ => some false | .lst _, .str _ => some false
  | .tup _, .lst _ => some false | .lst _, .tup _ => some false
  | _, _ => none
def eqD : Nat → D → D → Option Bool
  | 0, _, _ => none
  | n + 1, a, b => eqN (eqD n) (nrm a) (nrm b)
/-- lexicographic: every pair is compared -/
def ltL (f g : D → D → Option Bool) : List D → List D → Option Bool
  | [], [] => some false
  | [], _ :: _ => some true
  | _ :: _, [] => some false
  | x :: xs, y :: ys => match f x y, g x y, ltL f g xs ys with
    | some e, some l, some r => some (if e then r else l)
    | _, _, _ => none
def ltD : Nat → D → D → Option Bool
  | 0, _, _ => none
  | n + 1, a, b => match a, b with
    | .int a, .int b => some (decide (a < b))
    | .str a, .str b => some (decide (a.cps.toList < b.cps.toList))
    | .tup xs, .tup ys => ltL (eqD n) (ltD n) xs ys
    | _, _ => none
/-- how deep data is compared -/
abbrev dp : Nat := 40
/-- ints ascending; lists of ints by their first unequal place -/
def insI (x : Int) : List Int → List Int
  | [] => [x]
  | y :: ys => if y < x then y :: insI x ys else x :: y :: ys
def sortI (xs : List Int) : List Int := xs.foldr insI []
def insX (x : List Int) : List (List Int) → List (List Int)
  | [] => [x]
  | y :: ys => if HT.lexLt y x then y :: insX x ys else x :: y :: ys
def sortX (xs : List (List Int)) : List (List Int) := xs.foldr insX []
def intsOf : List D → Option (List Int)
  | [] => some []
  | .int i :: ds => (intsOf ds).map (i :: ·)
  | _ :: _ => none
/-- tuples of ints, none empty -/
def tupsOf : List D → Option (List (List Int))
  | [] => some []
  | .tup (x :: xs) :: ds => match intsOf (x :: xs), tupsOf ds with
    | some n, some ns => some (n :: ns)
    | _, _ => none
  | _ :: _ => none
def sortD (xs : List D) : Option (List D) :=
  match intsOf xs with
  | some ns => if xs.length < 64 then some ((sortI ns).map .int) else none
  | none => match tupsOf xs with
    | some ns => some ((sortX ns).map fun n => .tup (n.map .int))
    | none => none
def deref (st : Sto) : D → D
  | .loc n => match st[n]? with
    | some (.lst xs) => .lst xs
    | _ => .loc n
  | d => d
def inL (x : D) : List D → Option Bool
  | [] => some false
  | y :: ys => match eqD dp y x, inL x ys with
    | some a, some b => some (a || b)
    | _, _ => none
def keyOf : D → Option Key
  | .int i => some (.inl i)
  | .str s => some (.inr s)
  | _ => none
def keysOf : List D → Option (List Key)
  | [] => some []
  | d :: ds => match keyOf d, keysOf ds with
    | some k, some ks => some (k :: ks)
    | _, _ => none
def lookK {κ : Type} [DecidableEq κ] (k : κ) : List (κ × D) → Option D
  | [] => none
  | (j, d) :: r => if j = k then some d else lookK k r
def putK {κ : Type} [DecidableEq κ] (k : κ) (d : D) (kvs : List (κ × D)) : List (κ × D) :=
  if (kvs.any fun p => decide (p.1 = k)) = true then kvs.map (fun p => if p.1 = k then (p.1, d) else p) else kvs ++ [(k, d)]
/-- the entries of a dict -/
def dkOf (st : Sto) : D → Option (List (Key × D))
  | .loc n => match st[n]? with
    | some (.dk kvs) => some kvs
    | _ => none
  | .dk ks vs => some (ks.zip vs)
  | _ => none
def dtOf (st : Sto) : D → Option (List (List Key × D))
  | .loc n => match st[n]? with
    | some (.dt kvs) => some kvs
    | _ => none
  | .dt ks vs => some (ks.zip vs)
  | _ => none
def tupKey : D → Option (List Key)
  | .tup ks => keysOf ks
  | _ => none
def lookD (st : Sto) (d k : D) : Option (Option D) :=
  match dkOf st d with
  | some kvs => (keyOf k).map (lookK · kvs)
  | none => match dtOf st d with
    | some kvs => (tupKey k).map (lookK · kvs)
    | none => none
def hasK (st : Sto) (k d : D) : Option Bool := (lookD st d k).map Option.isSome
def isNon : D → Bool
  | .non => true
  | _ => false
def cmpD (st : Sto) (op : CmpOp) (a b : D) : Option Bool :=
  match op with
  | .Eq => eqD dp (deref st a) (deref st b)
  | .NotEq => (eqD dp (deref st a) (deref st b)).map (!·)
  | .Lt => ltD dp a b
  | .Gt => match a, b with
    | .int a, .int b => some (decide (b < a))
    | _, _ => none
  | .LtE => match a, b with
    | .int a, .int b => some (decide (a ≤ b))
    | _, _ => none
  | .GtE => match a, b with
    | .int a, .int b => some (decide (b ≤ a))
    | _, _ => none
  | .Is => match b with
    | .non => some (isNon a)
    | _ => none
  | .IsNot => match b with
    | .non => some (!isNon a)
    | _ => none
  | .In => match seqOf st b with
    | some xs => inL a xs
    | none => hasK st a b
  | .NotIn => match seqOf st b with
    | some xs => (inL a xs).map (!·)
    | none => (hasK st a b).map (!·)
def big (i : Int) : Bool := decide (-(2 ^ 64) < i ∧ i < 2 ^ 64)
def binD (st : Sto) (op : Operator) (a b : D) : Option D :=
  match op, a, b with
  | .Add, .int a, .int b => some (.int (a + b))
  | .Sub, .int a, .int b => some (.int (a - b))
  | .Mult, .int a, .int b => if big a || big b then some (.int (a * b)) else none
  | .FloorDiv, .int a, .int b => if 0 < b ∧ b < 1073741824 then some (.int (a / b)) else none
  | .Mod, .int a, .int b => if 0 < b then some (.int (a % b)) else none
  | .Pow, .int a, .int b => if 0 ≤ b ∧ b ≤ 1000000 ∧ a.natAbs < 2 ^ 64 then some (.int (a ^ b.toNat)) else none
  | .Add, .tup a, .tup b => if a.length + b.length ≤ sizeLine then some (.tup (a ++ b)) else none
  | .Add, a, b => match deref st a, deref st b with
    | .lst a, .lst b => if a.length + b.length ≤ sizeLine then some (.lst (a ++ b)) else none
    | _, _ => none
  | _, _, _ => none
def tyOf (st : Sto) : D → Option String
  | .non => some "NoneType"
  | .bl _ => some "bool"
  | .int _ => some "int"
  | .str _ => some "str"
  | .tup _ => some "tuple"
  | .kt _ _ => some "tuple"
  | .kl _ => some "list"
  | .lst _ => some "list"
  | .loc n => match st[n]? with
    | some (.lst _) => some "list"
    | _ => none
  | _ => none
/-- the place that an index means -/
def ixD (xs : List D) (i : Int) : Option D := atI xs i
def cutD (xs : List D) (lo hi : Option Int) : List D := (xs.drop (HT.sIx xs.length 0 lo)).take (HT.sIx xs.length xs.length hi - HT.sIx xs.length 0 lo)
def blsOf : List D → Option (List Bool)
  | [] => some []
  | .bl i :: ds => (blsOf ds).map (i :: ·)
  | _ :: _ => none
def minL : List Int → Option Int
  | [] => none
  | [x] => some x
  | x :: xs => (minL xs).map fun m => if m < x then m else x
def maxL : List Int → Option Int
  | [] => none
  | [x] => some x
  | x :: xs => (maxL xs).map fun m => if x < m then m else x
/-- the first place of an int -/
def firstI (i : Int) : List Int → Option Nat
  | [] => none
  | x :: xs => if x = i then some 0 else (firstI i xs).map (· + 1)
/-- a new list: frozen, or in the store -/
def newL (m : Bool) (xs : List D) (st : Sto) : Option (D × Sto) := if m then some (.loc st.length, st ++ [.lst xs]) else some (.lst xs, st)
def primD (p : Pr) (st : Sto) (ds : List D) : Option (D × Sto) :=
  match p, ds with
  | .bin op, [a, b] => (binD st op a b).map (·, st)
  | .cmp op, [a, b] => (cmpD st op a b).map (.bl ·, st)
  | .neg, [.int i] => some (.int (-i), st)
  | .cat, [a, b] => match deref st a, deref st b with
    | .lst a, .lst b => if a.length + b.length ≤ sizeLine then newL true (a ++ b) st else none
    | _, _ => none
  | .tup, ds => if ds.length ≤ sizeLine then some (.tup ds, st) else none
  | .lst m, ds => if ds.length ≤ sizeLine then newL m ds st else none
  | .sub, [a, k] => match seqOf st a with
    | some xs => match k with
      | .int i => (ixD xs i).map (·, st)
      | _ => none
    | none => match lookD st a k with
      | some (some v) => some (v, st)
      | _ => none
  | .len, [a] => match seqOf st a with
    | some xs => some (.int xs.length, st)
    | none => none
  | .all, [.lst xs] => (blsOf xs).map fun bs => (.bl (bs.all id), st)
  | .any, [.lst xs] => (blsOf xs).map fun bs => (.bl (bs.any id), st)
  | .tuple _, [.tup xs] => some (.tup xs, st)
  | .tuple _, [.kt x xs] => some (.kt x xs, st)
  | .tuple x, [a] => (seqOf st a).map fun xs => (if x then .kt true xs else .tup xs, st)
  | .list m, [a] => match seqOf st a with
    | some xs => newL m xs st
    | none => none
  | .int, [.int i] => some (.int i, st)
  | .int, [.bl b] => some (.int (if b then 1 else 0), st)
  | .abs, [.int i] => some (.int (if i < 0 then -i else i), st)
  | .min2, [.int i, .int j] => some (.int (if j < i then j else i), st)
  | .max2, [.int i, .int j] => some (.int (if j > i then j else i), st)
  | .min1, [a] => match listOf st a with
    | some xs => match intsOf xs with
      | some is => (minL is).map (.int ·, st)
      | none => none
    | none => none
  | .max1, [a] => match listOf st a with
    | some xs => match intsOf xs with
      | some is => (maxL is).map (.int ·, st)
      | none => none
    | none => none
  | .sum, [a] => match seqOf st a with
    | some xs => (intsOf xs).map fun is => (.int is.sum, st)
    | none => none
  | .sorted m, [a] => match listOf st a with
    | some xs => match sortD xs with
      | some ys => newL m ys st
      | none => none
    | none => none
  | .isi ts, [a] => (tyOf st a).map fun t => (.bl (ts.any fun u => decide (t = u) || (decide (t = "bool") && decide (u = "int"))), st)
  | .append, [.loc n, d] => match st[n]? with
    | some (.lst xs) => if xs.length < sizeLine then some (.non, st.set n (.lst (xs ++ [d]))) else none
    | _ => none
  | .extend, [.loc n, .lst ys] => match st[n]? with
    | some (.lst xs) => if xs.length + ys.length ≤ sizeLine then some (.non, st.set n (.lst (xs ++ ys))) else none
    | _ => none
  | .popi, [.loc n, .int i] => match st[n]? with
    | some (.lst xs) => if 0 ≤ i ∧ i < 2 ^ 62 then match xs[i.toNat]? with
        | some d => some (d, st.set n (.lst (xs.eraseIdx i.toNat)))
        | none => none
      else none
    | _ => none
  | .index, [a, .int i] => match listOf st a with
    | some xs => match intsOf xs with
      | some is => (firstI i is).map fun k => (.int k, st)
      | none => none
    | none => none
  | .count, [.kt true xs, .int i] => (intsOf xs).map fun is => (.int (is.count i), st)
  | .dnk, [] => some (.loc st.length, st ++ [.dk []])
  | .dnt, [] => some (.loc st.length, st ++ [.dt []])
  | _, _ => none

/-- what a method is asked of -/
def methTy (p : Pr) (st : Sto) (x : D) : Bool :=
  match p with
  | .append => (listOf st x).isSome
  | .extend => (listOf st x).isSome
  | .popi => (listOf st x).isSome
  | .index => (listOf st x).isSome
  | .count => match x with
    | .kt true _ => true
    | _ => false
  | _ => false

/-! ## Freezing what was made within -/
mutual
/-- what stands in the store from place b on becomes frozen data -/
def fzD (st : Sto) (b : Nat) : D → Option D
  | .loc n => if n < b then some (.loc n) else match st[n]? with
    | some (.lst xs) => if belowL b xs then some (.lst xs) else none
    | _ => none
  | .tup xs => (fzL st b xs).map .tup
  | .lst xs => (fzL st b xs).map .lst
  | .non => some .non
  | .bl c => some (.bl c)
  | .int i => some (.int i)
  | .str s => some (.str s)
  | .kt x xs => if belowL b xs then some (.kt x xs) else none
  | .kl xs => if belowL b xs then some (.kl xs) else none
  | .dk ks vs => if belowL b vs then some (.dk ks vs) else none
  | .dt ks vs => if belowL b vs then some (.dt ks vs) else none
def fzL (st : Sto) (b : Nat) : List D → Option (List D)
  | [] => some []
  | d :: ds => match fzD st b d, fzL st b ds with
    | some e, some es => some (e :: es)
    | _, _ => none
/-- no place from b on is named -/
def below (b : Nat) : D → Bool
  | .loc n => decide (n < b)
  | .tup xs => belowL b xs
  | .lst xs => belowL b xs
  | .kt _ xs => belowL b xs
  | .kl xs => belowL b xs
  | .dk _ vs => belowL b vs
  | .dt _ vs => belowL b vs
  | .non => true
  | .bl _ => true
  | .int _ => true
  | .str _ => true
def belowL (b : Nat) : List D → Bool
  | [] => true
  | d :: ds => below b d && belowL b ds
end
def belowO (b : Nat) : Ob → Bool
  | .lst xs => belowL b xs
  | .dk kvs => belowL b (kvs.map (·.2))
  | .dt kvs => belowL b (kvs.map (·.2))
  | .ins _ fs => belowL b (fs.map (·.2))
/-- the first b objects name none behind them -/
def gcOk (b : Nat) (st st' : Sto) : Prop := b ≤ st'.length ∧ ∀ i, i < b → st'[i]? = st[i]? ∨ ∃ o, st'[i]? = some o ∧ belowO b o = true
def fzE (st : Sto) (b : Nat) : Env → Option Env
  | [] => some []
  | none :: r => (fzE st b r).map (none :: ·)
  | some d :: r => match fzD st b d, fzE st b r with
    | some e, some es => some (some e :: es)
    | _, _ => none

/-! ## Running -/
mutual
def bindT : Tg → D → Env → Option Env
  | .v i, d, ρ => if i < ρ.length then some (ρ.set i (some d)) else none
  | .t ts, d, ρ => match nrm d with
    | .tup xs => if xs.length = ts.length then bindTs ts xs ρ else none
    | _ => none
def bindTs : List Tg → List D → Env → Option Env
  | [], _, ρ => some ρ
  | t :: ts, x :: xs, ρ => match bindT t x ρ with
    | some ρ' => bindTs ts xs ρ'
    | none => none
  | _ :: _, [], _ => none
end
def wipeE (ρ : Env) : List Nat → Env
  | [] => ρ
  | v :: vs => (wipeE ρ vs).set v none
def partD : List D → Option (Option Int)
  | [] => some none
  | [.int i] => some (some i)
  | _ => none
def testD (st : Sto) : List D → Option Bool
  | [] => some true
  | [d] => truth st d
  | _ => none
/-- a comprehension's turns -/
def cLoop (f : D → Sto → Option (Option D × Sto)) : List D → Sto → Option (List D × Sto)
  | [], st => some ([], st)
  | x :: xs, st => match f x st with
    | none => none
    | some (r, st) => match cLoop f xs st with
      | none => none
      | some (ys, st) => some (match r with | some y => y :: ys | none => ys, st)
def rangeL (a : Int) (n : Nat) : List D := (List.range n).map fun (k : Nat) => D.int (a + (k : Int))
def rangeD : List D → Option (List D)
  | [.int b] => if -(2 ^ 62) ≤ b ∧ b < 2 ^ 62 ∧ b.toNat ≤ sizeLine then some (rangeL 0 b.toNat) else none
  | [.int a, .int b] => if -(2 ^ 62) ≤ a ∧ a < 2 ^ 62 ∧ -(2 ^ 62) ≤ b ∧ b < 2 ^ 62 ∧ (b - a).toNat ≤ sizeLine then some (rangeL a (b - a).toNat) else none
  | _ => none
def enumL (k : Nat) : List D → List D
  | [] => []
  | d :: ds => .tup [.int k, d] :: enumL (k + 1) ds
def zipL (xs ys : List D) : List D := (xs.zip ys).map fun p => .tup [p.1, p.2]
def zip3L (xs ys zs : List D) : List D := (xs.zip (ys.zip zs)).map fun p => .tup [p.1, p.2.1, p.2.2]
/-- a tuple or a frozen list -/
def frozenL : D → Option (List D)
  | .tup xs => some xs
  | .kt _ xs => some xs
  | .lst xs => some xs
  | .kl xs => some xs
  | _ => none
/-- what is walked, and where it stands in the store -/
def rdL (st : Sto) : D → Option (List D × List Nat)
  | .loc n => match st[n]? with
    | some (.lst xs) => some (xs, [n])
    | _ => none
  | d => (frozenL d).map (·, [])
def zipD (st : Sto) : List D → Option (List D × List Nat)
  | [a, b] => match rdL st a, rdL st b with
    | some (xs, m), some (ys, n) => some (zipL xs ys, m ++ n)
    | _, _ => none
  | [a, b, c] => match rdL st a, rdL st b, rdL st c with
    | some (xs, m), some (ys, n), some (zs, l) => some (zip3L xs ys zs, m ++ (n ++ l))
    | _, _, _ => none
  | _ => none
/-- these places stay as they are -/
def keepP : List Nat → Sto → Sto → Prop
  | [], _, _ => True
  | n :: ns, st, st' => st'[n]? = st[n]? ∧ keepP ns st st'
open Classical in
noncomputable def grdC (ns : List Nat) (st0 : Sto) (f : D → Sto → Option (Option D × Sto)) (x : D) (st : Sto) : Option (Option D × Sto) :=
  match f x st with
  | some (r, st') => if keepP ns st0 st' then some (r, st') else none
  | none => none
mutual
noncomputable def ev (C : CallF) : Ex → Env → Sto → Option (D × Sto)
  | .cst d, _, st => some (d, st)
  | .glob _ d, _, st => some (d, st)
  | .var i, ρ, st => match ρ[i]? with
    | some (some d) => some (d, st)
    | _ => none
  | .op p es, ρ, st => match evs C es ρ st with
    | some (ds, st) => primD p st ds
    | none => none
  | .chain o1 o2 a b c, ρ, st => match ev C a ρ st with
    | some (x, st) => match ev C b ρ st with
      | some (y, st) => match cmpD st o1 x y with
        | some true => match ev C c ρ st with
          | some (z, st) => (cmpD st o2 y z).map (.bl ·, st)
          | none => none
        | some false => some (.bl false, st)
        | none => none
      | none => none
    | none => none
  | .and a b, ρ, st => match ev C a ρ st with
    | some (x, st) => match truth st x with
      | some true => ev C b ρ st
      | some false => some (x, st)
      | none => none
    | none => none
  | .or a b, ρ, st => match ev C a ρ st with
    | some (x, st) => match truth st x with
      | some true => some (x, st)
      | some false => ev C b ρ st
      | none => none
    | none => none
  | .not a, ρ, st => match ev C a ρ st with
    | some (x, st) => (truth st x).map fun k => (.bl (!k), st)
    | none => none
  | .ite c a b, ρ, st => match ev C c ρ st with
    | some (x, st) => match truth st x with
      | some true => ev C a ρ st
      | some false => ev C b ρ st
      | none => none
    | none => none
  | .slice a lo hi, ρ, st => match ev C a ρ st with
    | some (x, st) => match evs C lo ρ st with
      | some (l, st) => match evs C hi ρ st with
        | some (h, st) => match partD l, partD h with
          | some l, some h => match deref st x with
            | .tup xs => some (.tup (cutD xs l h), st)
            | .lst xs => some (.lst (cutD xs l h), st)
            | .kl xs => some (.lst (cutD xs l h), st)
            | .kt true xs => some (.kt true (cutD xs l h), st)
            | _ => none
          | _, _ => none
        | none => none
      | none => none
    | none => none
  | .call f es, ρ, st => match evs C es ρ st with
    | some (ds, st) => C f ds st
    | none => none
  | .meth p o es, ρ, st => match ev C o ρ st with
    | some (x, st) => if methTy p st x then match evs C es ρ st with
        | some (ds, st) => primD p st (x :: ds)
        | none => none
      else none
    | none => none
  | .comp m own t it ifs e, ρ, st => match evi C it ρ st with
    | some (xs, ns, st) => match cLoop (grdC ns st fun x st => match bindT t x (wipeE ρ own) with
        | none => none
        | some ρ' => match evs C ifs ρ' st with
          | none => none
          | some (ts, st) => match testD st ts with
            | none => none
            | some false => some (none, st)
            | some true => match ev C e ρ' st with
              | none => none
              | some (y, st) => some (some y, st)) xs st with
      | some (ys, st) => newL m ys st
      | none => none
    | none => none
noncomputable def evs (C : CallF) : Exs → Env → Sto → Option (List D × Sto)
  | .nil, _, st => some ([], st)
  | .cons e es, ρ, st => match ev C e ρ st with
    | some (d, st) => match evs C es ρ st with
      | some (ds, st) => some (d :: ds, st)
      | none => none
    | none => none
noncomputable def evi (C : CallF) : It → Env → Sto → Option (List D × List Nat × Sto)
  | .seq e, ρ, st => match ev C e ρ st with
    | some (d, st) => (rdL st d).map fun p => (p.1, p.2, st)
    | none => none
  | .range es, ρ, st => match evs C es ρ st with
    | some (ds, st) => (rangeD ds).map (·, [], st)
    | none => none
  | .enum e, ρ, st => match ev C e ρ st with
    | some (d, st) => (rdL st d).map fun p => (enumL 0 p.1, p.2, st)
    | none => none
  | .zip es, ρ, st => match evs C es ρ st with
    | some (ds, st) => (zipD st ds).map fun p => (p.1, p.2, st)
    | none => none
end

/-- how a statement ends -/
inductive Fl where
  | nx (ρ : Env) (st : Sto) | ret (d : D) (st : Sto) | bk (ρ : Env) (st : Sto) | ct (ρ : Env) (st : Sto)
abbrev Stp := Fl ⊕ (Env × Sto)
def wIter (f : Env → Sto → Option Stp) : Nat → Env → Sto → Option Fl
  | 0, _, _ => none
  | n + 1, ρ, st => match f ρ st with
    | none => none
    | some (.inl fl) => some fl
    | some (.inr (ρ', st')) => wIter f n ρ' st'
open Classical in
noncomputable def wRun (f : Env → Sto → Option Stp) (ρ : Env) (st : Sto) : Option Fl :=
  if h : ∃ fl n, wIter f n ρ st = some fl then some (Classical.choose h) else none
def fLoop (f : D → Env → Sto → Option Stp) : List D → Env → Sto → Option Fl
  | [], ρ, st => some (.nx ρ st)
  | x :: xs, ρ, st => match f x ρ st with
    | none => none
    | some (.inl fl) => some fl
    | some (.inr (ρ', st')) => fLoop f xs ρ' st'
open Classical in
/-- the store back to b objects, the slots frozen -/
noncomputable def cutE (fz : Bool) (st : Sto) (ρ' : Env) (st' : Sto) : Option (Env × Sto) :=
  if fz then match fzE st' st.length ρ' with
    | some ρ'' => if gcOk st.length st st' then some (ρ'', st'.take st.length) else none
    | none => none
  else some (ρ', st')
/-- a loop's turn, by how its body ends -/
noncomputable def turnD (fz : Bool) (st : Sto) : Option Fl → Option Stp
  | none => none
  | some (.nx ρ' st') => (cutE fz st ρ' st').map .inr
  | some (.ct ρ' st') => (cutE fz st ρ' st').map .inr
  | some (.bk ρ' st') => (cutE fz st ρ' st').map fun p => .inl (.nx p.1 p.2)
  | some (.ret d st') => some (.inl (.ret d st'))
open Classical in
noncomputable def grdF (ns : List Nat) (st0 : Sto) : Option Stp → Option Stp
  | some (.inr (ρ', st')) => if keepP ns st0 st' then some (.inr (ρ', st')) else none
  | r => r
def setItemD (st : Sto) (o i v : D) : Option Sto :=
  match o with
  | .loc n => match st[n]? with
    | some (.lst xs) => match i with
      | .int k => (ixN xs.length k).map fun j => st.set n (.lst (xs.set j v))
      | _ => none
    | some (.dk kvs) => match keyOf i with
      | some k => if kvs.length < sizeLine then some (st.set n (.dk (putK k v kvs))) else none
      | none => none
    | some (.dt kvs) => match i with
      | .tup ks => match keysOf ks with
        | some k => if kvs.length < sizeLine then some (st.set n (.dt (putK k v kvs))) else none
        | none => none
      | _ => none
    | _ => none
  | _ => none
def setsE : List Nat → List D → Env → Option Env
  | [], [], ρ => some ρ
  | i :: is, d :: ds, ρ => if i < ρ.length then setsE is ds (ρ.set i (some d)) else none
  | _, _, _ => none
mutual
noncomputable def exS (C : CallF) : S → Env → Sto → Option Fl
  | .asg t e, ρ, st => match ev C e ρ st with
    | some (d, st) => (bindT t d ρ).map (.nx · st)
    | none => none
  | .par is es, ρ, st => match evs C es ρ st with
    | some (ds, st) => (setsE is ds ρ).map (.nx · st)
    | none => none
  | .setS o i e, ρ, st => match ev C e ρ st with
    | some (v, st) => match ev C o ρ st with
      | some (ov, st) => match ev C i ρ st with
        | some (iv, st) => (setItemD st ov iv v).map (.nx ρ ·)
        | none => none
      | none => none
    | none => none
  | .ex e, ρ, st => (ev C e ρ st).map fun p => .nx ρ p.2
  | .ifs c a b, ρ, st => match ev C c ρ st with
    | some (x, st) => match truth st x with
      | some true => exSs C a ρ st
      | some false => exSs C b ρ st
      | none => none
    | none => none
  | .whl fz c b, ρ, st => wRun (fun ρ st => match ev C c ρ st with
    | none => none
    | some (x, st') => match truth st' x with
      | none => none
      | some false => some (.inl (.nx ρ st'))
      | some true => turnD fz st' (exSs C b ρ st')) ρ st
  | .for fz t it b, ρ, st => match evi C it ρ st with
    | some (xs, ns, st) => fLoop (fun x ρ st1 => match bindT t x ρ with
      | none => none
      | some ρ' => grdF ns st (turnD fz st1 (exSs C b ρ' st1))) xs ρ st
    | none => none
  | .ret e, ρ, st => (ev C e ρ st).map fun p => .ret p.1 p.2
  | .retn, _, st => some (.ret .non st)
  | .brk, ρ, st => some (.bk ρ st)
  | .cnt, ρ, st => some (.ct ρ st)
  | .pas, ρ, st => some (.nx ρ st)
  | .never, _, _ => none
noncomputable def exSs (C : CallF) : Ss → Env → Sto → Option Fl
  | .nil, ρ, st => some (.nx ρ st)
  | .cons s ss, ρ, st => match exS C s ρ st with
    | some (.nx ρ' st') => exSs C ss ρ' st'
    | r => r
end
/-- a def: its statement's place in the top, its names by slot (parameters first), how many parameters, its body, whether what it made is frozen or dropped at its end -/
structure Df where
  name : Str
  N : List Str
  np : Nat
  body : Ss
  gc : Bool
open Classical in
noncomputable def finD (gc : Bool) (st : Sto) (r : D) (st' : Sto) : Option (D × Sto) :=
  if gc then match fzD st' st.length r with
    | some r' => if gcOk st.length st st' then some (r', st'.take st.length) else none
    | none => none
  else some (r, st')
noncomputable def runDef (C : CallF) (d : Df) (ds : List D) (st : Sto) : Option (D × Sto) :=
  if ds.length = d.np then match exSs C d.body (ds.map some ++ List.replicate (d.N.length - ds.length) none) st with
    | some (.ret r st') => finD d.gc st r st'
    | some (.nx _ st') => finD d.gc st .non st'
    | _ => none
  else none
/-- calls of at most n defs, one in another -/
noncomputable def callN (Tb : List Df) : Nat → CallF
  | 0 => fun _ _ _ => none
  | n + 1 => fun f ds st => match Tb[f]? with
    | some d => runDef (callN Tb n) d ds st
    | none => none
end Ro
end
section
set_option Elab.async false
set_option linter.all false
set_option autoImplicit false
set_option maxHeartbeats 4000000
namespace Ro
open PySem L2

/-! ## Tools: running the programs of the walk -/
theorem callN_at {Tb : List Df} {n f : Nat} {d : Df} {ds : List D} {st : Sto} (h : Tb[f]? = some d) : callN Tb (n + 1) f ds st = runDef (callN Tb n) d ds st := by
  rw [callN]
  simp only [h]
theorem run_ret {C : CallF} {d : Df} {ds : List D} {st st' : Sto} {r : D} {o : Option (D × Sto)} (hl : ds.length = d.np) (h : exSs C d.body (ds.map some ++ List.replicate (d.N.length - ds.length) none) st = some (.ret r st')) (f : finD d.gc st r st' = o) : runDef C d ds st = o := by
  unfold runDef
  rw [if_pos hl, h]
  exact f
theorem fin_no {st st' : Sto} {r : D} : finD false st r st' = some (r, st') := by
  unfold finD
  rfl
theorem fin_gc {st st' : Sto} {r r' : D} (h : fzD st' st.length r = some r') (g : gcOk st.length st st') : finD true st r st' = some (r', st'.take st.length) := by
  unfold finD
  simp only [if_true, h]
  rw [if_pos g]
theorem gc_self {st : Sto} : gcOk st.length st st := ⟨Nat.le_refl _, fun i _ => .inl rfl⟩
theorem gc_app {st t : Sto} : gcOk st.length st (st ++ t) := ⟨by simp, fun i h => .inl (List.getElem?_append_left h)⟩
/-! ### statements in a row -/
theorem ss_nx {C : CallF} {s : S} {ss : Ss} {ρ ρ' : Env} {st st' : Sto} (h : exS C s ρ st = some (.nx ρ' st')) : exSs C (.cons s ss) ρ st = exSs C ss ρ' st' := by
  rw [exSs, h]
theorem ss_ret {C : CallF} {s : S} {ss : Ss} {ρ : Env} {st st' : Sto} {d : D} (h : exS C s ρ st = some (.ret d st')) : exSs C (.cons s ss) ρ st = some (.ret d st') := by
  rw [exSs, h]
/-! ### comprehensions whose turns leave the store -/
theorem keep_nil {st st' : Sto} : keepP [] st st' := trivial
theorem keep_self {st : Sto} : ∀ {n : List Nat}, keepP n st st
  | [] => trivial
  | _ :: _ => ⟨rfl, keep_self⟩
theorem cLoop_pure {ns : List Nat} {f : D → Sto → Option (Option D × Sto)} {g : D → Option D} {st : Sto} : ∀ {xs : List D}, (∀ x ∈ xs, f x st = some (g x, st)) → cLoop (grdC ns st f) xs st = some (xs.filterMap g, st)
  | [], _ => rfl
  | x :: xs, h => by
    have h1 : grdC ns st f x st = some (g x, st) := by
      unfold grdC
      rw [h x (List.mem_cons_self ..)]
      simp only []
      rw [if_pos keep_self]
    unfold cLoop
    rw [h1]
    simp only []
    rw [cLoop_pure fun y hy => h y (List.mem_cons_of_mem _ hy)]
    simp only []
    cases q : g x with
    | none => rw [List.filterMap_cons, q]
    | some y => rw [List.filterMap_cons, q]
theorem cLoop_map {ns : List Nat} {f : D → Sto → Option (Option D × Sto)} {g : D → D} {st : Sto} {xs : List D} (h : ∀ x ∈ xs, f x st = some (some (g x), st)) : cLoop (grdC ns st f) xs st = some (xs.map g, st) := by
  rw [cLoop_pure (g := fun x => some (g x)) h]
  congr 2
  induction xs with
  | nil => rfl
  | cons x xs ih =>
    rw [List.filterMap_cons, List.map_cons]
    exact congrArg (g x :: ·) (ih fun y hy => h y (List.mem_cons_of_mem _ hy))
/-- turns that write the store: A the store's state, B what comes of it -/
theorem cLoop_fold {α : Type} {f : D → Sto → Option (Option D × Sto)} {st0 : Sto} (T : α → Sto) (v : α → D → D) (s : α → D → α) (h : ∀ (a : α) (x : D), f x (T a) = some (some (v a x), T (s a x))) :
    ∀ (xs : List D) (a : α), ∃ ys, cLoop (grdC [] st0 f) xs (T a) = some (ys, T (xs.foldl s a)) ∧ ys.length = xs.length
  | [], a => ⟨[], rfl, rfl⟩
  | x :: xs, a => by
    obtain ⟨ys, h1, h2⟩ := cLoop_fold T v s h xs (s a x)
    refine ⟨v a x :: ys, ?_, by rw [List.length_cons, List.length_cons, h2]⟩
    have g : grdC [] st0 f x (T a) = some (some (v a x), T (s a x)) := by
      unfold grdC
      rw [h]
      simp only []
      rw [if_pos keep_nil]
    unfold cLoop
    rw [g]
    simp only []
    rw [h1]
    rfl
/-! ### while -/
theorem wIter_det {f : Env → Sto → Option Stp} : ∀ {n m : Nat} {ρ : Env} {st : Sto} {a b : Fl}, wIter f n ρ st = some a → wIter f m ρ st = some b → a = b
  | 0, _, _, _, _, _, h, _ => by simp [wIter] at h
  | _ + 1, 0, _, _, _, _, _, h => by simp [wIter] at h
  | n + 1, m + 1, ρ, st, a, b, h, h' => by
    unfold wIter at h h'
    cases q : f ρ st with
    | none => rw [q] at h; cases h
    | some r =>
      rw [q] at h h'
      cases r with
      | inl fl => simp only [Option.some.injEq] at h h'; rw [← h, h']
      | inr p => exact wIter_det h h'
theorem wRun_of {f : Env → Sto → Option Stp} {n : Nat} {ρ : Env} {st : Sto} {fl : Fl} (h : wIter f n ρ st = some fl) : wRun f ρ st = some fl := by
  unfold wRun
  have q : ∃ fl n, wIter f n ρ st = some fl := ⟨fl, n, h⟩
  rw [dif_pos q]
  obtain ⟨m, hm⟩ := Classical.choose_spec q
  exact congrArg some (wIter_det hm h)
theorem wRun_end {f : Env → Sto → Option Stp} {ρ : Env} {st : Sto} {fl : Fl} (h : f ρ st = some (.inl fl)) : wRun f ρ st = some fl := wRun_of (n := 1) (by unfold wIter; rw [h])
theorem wRun_go {f : Env → Sto → Option Stp} {ρ ρ' : Env} {st st' : Sto} {fl : Fl} (h : f ρ st = some (.inr (ρ', st'))) (g : wRun f ρ' st' = some fl) : wRun f ρ st = some fl := by
  unfold wRun at g
  split at g
  · rename_i q
    simp only [Option.some.injEq] at g
    obtain ⟨n, hn⟩ := Classical.choose_spec q
    rw [g] at hn
    refine wRun_of (n := n + 1) ?_
    unfold wIter
    rw [h]
    exact hn
  · cases g
/-- a while by an invariant and a measure -/
theorem wRun_inv {α : Type} {f : Env → Sto → Option Stp} (E : α → Env) (T : α → Sto) (mu : α → Nat) (I : α → Prop) (Z : Fl → Prop)
    (step : ∀ a, I a → (∃ fl, f (E a) (T a) = some (.inl fl) ∧ Z fl) ∨ ∃ b, f (E a) (T a) = some (.inr (E b, T b)) ∧ I b ∧ mu b < mu a) (a : α) (ha : I a) : ∃ fl, wRun f (E a) (T a) = some fl ∧ Z fl := by
  generalize hm : mu a = m
  induction m using Nat.strongRecOn generalizing a with
  | _ m ih =>
    rcases step a ha with ⟨fl, h, z⟩ | ⟨b, h, hb, lt⟩
    · exact ⟨fl, wRun_end h, z⟩
    · obtain ⟨fl, g, z⟩ := ih (mu b) (by omega) b hb rfl
      exact ⟨fl, wRun_go h g, z⟩
/-! ### for -/
theorem fLoop_go {f : D → Env → Sto → Option Stp} {x : D} {xs : List D} {ρ ρ' : Env} {st st' : Sto} (h : f x ρ st = some (.inr (ρ', st'))) : fLoop f (x :: xs) ρ st = fLoop f xs ρ' st' := by
  rw [fLoop, h]
theorem fLoop_end {f : D → Env → Sto → Option Stp} {x : D} {xs : List D} {ρ : Env} {st : Sto} {fl : Fl} (h : f x ρ st = some (.inl fl)) : fLoop f (x :: xs) ρ st = some fl := by
  rw [fLoop, h]
/-- a for by what has been walked -/
theorem fLoop_inv {f : D → Env → Sto → Option Stp} (P : List D → Env → Sto → Prop) : ∀ (ys xs : List D) (ρ : Env) (st : Sto), P ys ρ st →
    (∀ (ys : List D) (x : D) (zs : List D) (ρ : Env) (st : Sto), P ys ρ st → (∃ ρ' st', f x ρ st = some (.inr (ρ', st')) ∧ P (ys ++ [x]) ρ' st')) → ∃ ρ' st', fLoop f xs ρ st = some (.nx ρ' st') ∧ P (ys ++ xs) ρ' st'
  | ys, [], ρ, st, h, _ => ⟨ρ, st, rfl, by rw [List.append_nil]; exact h⟩
  | ys, x :: xs, ρ, st, h, step => by
    obtain ⟨ρ', st', h1, h2⟩ := step ys x xs ρ st h
    obtain ⟨ρ2, st2, h3, h4⟩ := fLoop_inv P (ys ++ [x]) xs ρ' st' h2 step
    refine ⟨ρ2, st2, by rw [fLoop_go h1]; exact h3, ?_⟩
    rw [List.append_assoc] at h4
    exact h4
theorem grdF_nil {st0 : Sto} {r : Option Stp} : grdF [] st0 r = r := by
  unfold grdF
  split
  · rw [if_pos keep_nil]
  · rfl
theorem cut_no {st st' : Sto} {ρ : Env} : cutE false st ρ st' = some (ρ, st') := by
  unfold cutE
  rfl
/-- a body that goes on, nothing frozen -/
theorem turn_no {st st' : Sto} {ρ : Env} : turnD false st (some (.nx ρ st')) = some (.inr (ρ, st')) := by
  show Option.map Sum.inr (cutE false st ρ st') = _
  rw [cut_no]
  rfl
theorem turn_fz {st st' : Sto} {ρ ρ' : Env} (h : fzE st' st.length ρ = some ρ') (g : gcOk st.length st st') : turnD true st (some (.nx ρ st')) = some (.inr (ρ', st'.take st.length)) := by
  unfold turnD cutE
  simp only [if_true, h]
  rw [if_pos g]
  rfl
end Ro
end
section
set_option Elab.async false
set_option linter.all false
set_option autoImplicit false
set_option maxHeartbeats 4000000
namespace Ro
open PySem L2

/-! ## The evaluation's rows, for simp -/
section
variable {C : CallF} {ρ : Env} {st : Sto}
@[simp] theorem w_cst {d : D} : ev C (.cst d) ρ st = some (d, st) := by rw [ev] <;> rfl
@[simp] theorem w_glob {x : Str} {d : D} : ev C (.glob x d) ρ st = some (d, st) := by rw [ev] <;> rfl
@[simp] theorem w_var {i : Nat} : ev C (.var i) ρ st = (match ρ[i]? with
  | some (some d) => some (d, st)
  | _ => none) := by rw [ev] <;> rfl
@[simp] theorem w_op {p : Pr} {es : Exs} : ev C (.op p es) ρ st = (match evs C es ρ st with
  | some (ds, st) => primD p st ds
  | none => none) := by rw [ev] <;> rfl
@[simp] theorem w_and {a b : Ex} : ev C (.and a b) ρ st = (match ev C a ρ st with
  | some (x, st) => (match truth st x with
    | some true => ev C b ρ st
    | some false => some (x, st)
    | none => none)
  | none => none) := by rw [ev] <;> rfl
@[simp] theorem w_or {a b : Ex} : ev C (.or a b) ρ st = (match ev C a ρ st with
  | some (x, st) => (match truth st x with
    | some true => some (x, st)
    | some false => ev C b ρ st
    | none => none)
  | none => none) := by rw [ev] <;> rfl
@[simp] theorem w_not {a : Ex} : ev C (.not a) ρ st = (match ev C a ρ st with
  | some (x, st) => (truth st x).map fun k => (.bl (!k), st)
  | none => none) := by rw [ev] <;> rfl
@[simp] theorem w_ite {c a b : Ex} : ev C (.ite c a b) ρ st = (match ev C c ρ st with
  | some (x, st) => (match truth st x with
    | some true => ev C a ρ st
    | some false => ev C b ρ st
    | none => none)
  | none => none) := by rw [ev] <;> rfl
@[simp] theorem w_chain {o1 o2 : CmpOp} {a b c : Ex} : ev C (.chain o1 o2 a b c) ρ st = (match ev C a ρ st with
  | some (x, st) => (match ev C b ρ st with
    | some (y, st) => (match cmpD st o1 x y with
      | some true => (match ev C c ρ st with
        | some (z, st) => (cmpD st o2 y z).map (.bl ·, st)
        | none => none)
      | some false => some (.bl false, st)
      | none => none)
    | none => none)
  | none => none) := by rw [ev] <;> rfl
@[simp] theorem w_slice {a : Ex} {lo hi : Exs} : ev C (.slice a lo hi) ρ st = (match ev C a ρ st with
  | some (x, st) => (match evs C lo ρ st with
    | some (l, st) => (match evs C hi ρ st with
      | some (h, st) => (match partD l, partD h with
        | some l, some h => (match deref st x with
          | .tup xs => some (.tup (cutD xs l h), st)
          | .lst xs => some (.lst (cutD xs l h), st)
          | .kl xs => some (.lst (cutD xs l h), st)
          | .kt true xs => some (.kt true (cutD xs l h), st)
          | _ => none)
        | _, _ => none)
      | none => none)
    | none => none)
  | none => none) := by rw [ev] <;> rfl
@[simp] theorem w_call {f : Nat} {es : Exs} : ev C (.call f es) ρ st = (match evs C es ρ st with
  | some (ds, st) => C f ds st
  | none => none) := by rw [ev] <;> rfl
@[simp] theorem w_meth {p : Pr} {o : Ex} {es : Exs} : ev C (.meth p o es) ρ st = (match ev C o ρ st with
  | some (x, st) => if methTy p st x then (match evs C es ρ st with
    | some (ds, st) => primD p st (x :: ds)
    | none => none) else none
  | none => none) := by rw [ev] <;> rfl
/-- a comprehension's turn -/
noncomputable def tn (C : CallF) (ρ : Env) (own : List Nat) (t : Tg) (ifs : Exs) (e : Ex) (x : D) (st : Sto) : Option (Option D × Sto) :=
  match bindT t x (wipeE ρ own) with
  | none => none
  | some ρ' => match evs C ifs ρ' st with
    | none => none
    | some (ts, st) => match testD st ts with
      | none => none
      | some false => some (none, st)
      | some true => match ev C e ρ' st with
        | none => none
        | some (y, st) => some (some y, st)
theorem w_comp {m : Bool} {own : List Nat} {t : Tg} {it : It} {ifs : Exs} {e : Ex} : ev C (.comp m own t it ifs e) ρ st = (match evi C it ρ st with
  | some (xs, ns, st1) => (match cLoop (grdC ns st1 (tn C ρ own t ifs e)) xs st1 with
    | some (ys, st2) => newL m ys st2
    | none => none)
  | none => none) := by rw [ev]; rfl
/-- a comprehension whose turns leave the store -/
theorem w_compP {own : List Nat} {t : Tg} {it : It} {ifs : Exs} {e : Ex} {xs : List D} {ns : List Nat} {st1 : Sto} {g : D → Option D} (h : evi C it ρ st = some (xs, ns, st1)) (hg : ∀ x ∈ xs, tn C ρ own t ifs e x st1 = some (g x, st1)) :
    ev C (.comp false own t it ifs e) ρ st = some (.lst (xs.filterMap g), st1) := by
  rw [w_comp, h]
  simp only [cLoop_pure hg, newL]
  rfl
theorem w_compM {own : List Nat} {t : Tg} {it : It} {ifs : Exs} {e : Ex} {xs : List D} {ns : List Nat} {st1 : Sto} {g : D → D} (h : evi C it ρ st = some (xs, ns, st1)) (hg : ∀ x ∈ xs, tn C ρ own t ifs e x st1 = some (some (g x), st1)) :
    ev C (.comp false own t it ifs e) ρ st = some (.lst (xs.map g), st1) := by
  rw [w_comp, h]
  simp only [cLoop_map hg, newL]
  rfl
@[simp] theorem w_nil : evs C .nil ρ st = some ([], st) := by rw [evs] <;> rfl
@[simp] theorem w_cons {e : Ex} {es : Exs} : evs C (.cons e es) ρ st = (match ev C e ρ st with
  | some (d, st) => (match evs C es ρ st with
    | some (ds, st) => some (d :: ds, st)
    | none => none)
  | none => none) := by rw [evs] <;> rfl
@[simp] theorem w_seq {e : Ex} : evi C (.seq e) ρ st = (match ev C e ρ st with
  | some (d, st) => (rdL st d).map fun p => (p.1, p.2, st)
  | none => none) := by rw [evi] <;> rfl
@[simp] theorem w_range {es : Exs} : evi C (.range es) ρ st = (match evs C es ρ st with
  | some (ds, st) => (rangeD ds).map (·, [], st)
  | none => none) := by rw [evi] <;> rfl
@[simp] theorem w_enum {e : Ex} : evi C (.enum e) ρ st = (match ev C e ρ st with
  | some (d, st) => (rdL st d).map fun p => (enumL 0 p.1, p.2, st)
  | none => none) := by rw [evi] <;> rfl
@[simp] theorem w_zip {es : Exs} : evi C (.zip es) ρ st = (match evs C es ρ st with
  | some (ds, st) => (zipD st ds).map fun p => (p.1, p.2, st)
  | none => none) := by rw [evi] <;> rfl
@[simp] theorem w_v {i : Nat} {d : D} : bindT (.v i) d ρ = if i < ρ.length then some (ρ.set i (some d)) else none := by rw [bindT] <;> rfl
@[simp] theorem w_t {ts : List Tg} {d : D} : bindT (.t ts) d ρ = (match nrm d with
  | .tup xs => if xs.length = ts.length then bindTs ts xs ρ else none
  | _ => none) := by rw [bindT] <;> rfl
@[simp] theorem w_tn {xs : List D} : bindTs [] xs ρ = some ρ := by rw [bindTs] <;> rfl
@[simp] theorem w_tc {t : Tg} {ts : List Tg} {x : D} {xs : List D} : bindTs (t :: ts) (x :: xs) ρ = (match bindT t x ρ with
  | some ρ' => bindTs ts xs ρ'
  | none => none) := by rw [bindTs] <;> rfl
/-! ### statements -/
@[simp] theorem x_asg {t : Tg} {e : Ex} : exS C (.asg t e) ρ st = (match ev C e ρ st with
  | some (d, st) => (bindT t d ρ).map (.nx · st)
  | none => none) := by rw [exS] <;> rfl
@[simp] theorem x_par {is : List Nat} {es : Exs} : exS C (.par is es) ρ st = (match evs C es ρ st with
  | some (ds, st) => (setsE is ds ρ).map (.nx · st)
  | none => none) := by rw [exS] <;> rfl
@[simp] theorem x_set {o i e : Ex} : exS C (.setS o i e) ρ st = (match ev C e ρ st with
  | some (v, st) => (match ev C o ρ st with
    | some (ov, st) => (match ev C i ρ st with
      | some (iv, st) => (setItemD st ov iv v).map (.nx ρ ·)
      | none => none)
    | none => none)
  | none => none) := by rw [exS] <;> rfl
@[simp] theorem x_ex {e : Ex} : exS C (.ex e) ρ st = (ev C e ρ st).map fun p => .nx ρ p.2 := by rw [exS] <;> rfl
@[simp] theorem x_if {c : Ex} {a b : Ss} : exS C (.ifs c a b) ρ st = (match ev C c ρ st with
  | some (x, st) => (match truth st x with
    | some true => exSs C a ρ st
    | some false => exSs C b ρ st
    | none => none)
  | none => none) := by rw [exS] <;> rfl
/-- a while's turn -/
noncomputable def wt (C : CallF) (fz : Bool) (c : Ex) (b : Ss) (ρ : Env) (st : Sto) : Option Stp :=
  match ev C c ρ st with
  | none => none
  | some (x, st') => match truth st' x with
    | none => none
    | some false => some (.inl (.nx ρ st'))
    | some true => turnD fz st' (exSs C b ρ st')
theorem x_whl {fz : Bool} {c : Ex} {b : Ss} : exS C (.whl fz c b) ρ st = wRun (wt C fz c b) ρ st := by rw [exS]; rfl
/-- a for's turn -/
noncomputable def ft (C : CallF) (fz : Bool) (t : Tg) (b : Ss) (ns : List Nat) (st0 : Sto) (x : D) (ρ : Env) (st1 : Sto) : Option Stp :=
  match bindT t x ρ with
  | none => none
  | some ρ' => grdF ns st0 (turnD fz st1 (exSs C b ρ' st1))
theorem x_for {fz : Bool} {t : Tg} {it : It} {b : Ss} : exS C (.for fz t it b) ρ st = (match evi C it ρ st with
  | some (xs, ns, st) => fLoop (ft C fz t b ns st) xs ρ st
  | none => none) := by rw [exS]; rfl
@[simp] theorem x_ret {e : Ex} : exS C (.ret e) ρ st = (ev C e ρ st).map fun p => .ret p.1 p.2 := by rw [exS] <;> rfl
@[simp] theorem x_retn : exS C .retn ρ st = some (.ret .non st) := by rw [exS] <;> rfl
@[simp] theorem x_brk : exS C .brk ρ st = some (.bk ρ st) := by rw [exS] <;> rfl
@[simp] theorem x_cnt : exS C .cnt ρ st = some (.ct ρ st) := by rw [exS] <;> rfl
@[simp] theorem x_pas : exS C .pas ρ st = some (.nx ρ st) := by rw [exS] <;> rfl
@[simp] theorem z_nil : exSs C .nil ρ st = some (.nx ρ st) := by rw [exSs] <;> rfl
@[simp] theorem z_cons {s : S} {ss : Ss} : exSs C (.cons s ss) ρ st = (match exS C s ρ st with
  | some (.nx ρ' st') => exSs C ss ρ' st'
  | r => r) := by rw [exSs] <;> rfl
end
/-! ### slots -/
@[simp] theorem w_set {is : List Nat} {i : Nat} {d : D} {ds : List D} {ρ : Env} : setsE (i :: is) (d :: ds) ρ = if i < ρ.length then setsE is ds (ρ.set i (some d)) else none := by rw [setsE]
@[simp] theorem w_set0 {ρ : Env} : setsE [] [] ρ = some ρ := by rw [setsE]
@[simp] theorem w_wipe0 {ρ : Env} : wipeE ρ [] = ρ := rfl
@[simp] theorem w_wipe {ρ : Env} {v : Nat} {vs : List Nat} : wipeE ρ (v :: vs) = (wipeE ρ vs).set v none := rfl
end Ro
end
section
set_option Elab.async false
set_option linter.all false
set_option autoImplicit false
set_option maxHeartbeats 4000000
namespace Ro
open PySem L2

/-! ## The operations' rows, for simp -/
section
variable {st : Sto} {a b d k : D} {xs ys : List D} {i j : Int} {n : Nat} {m : Bool}
@[simp] theorem sq_tup : seqOf st (.tup xs) = some xs := rfl
@[simp] theorem sq_lst : seqOf st (.lst xs) = some xs := rfl
@[simp] theorem sq_kt {c : Bool} : seqOf st (.kt c xs) = some xs := rfl
@[simp] theorem sq_kl : seqOf st (.kl xs) = some xs := rfl
@[simp] theorem sq_loc : seqOf st (.loc n) = (match st[n]? with
  | some (.lst xs) => some xs
  | _ => none) := rfl
@[simp] theorem sq_int : seqOf st (.int i) = none := rfl
@[simp] theorem lo_lst : listOf st (.lst xs) = some xs := rfl
@[simp] theorem lo_kl : listOf st (.kl xs) = some xs := rfl
@[simp] theorem lo_loc : listOf st (.loc n) = (match st[n]? with
  | some (.lst xs) => some xs
  | _ => none) := rfl
@[simp] theorem tr_bl {c : Bool} : truth st (.bl c) = some c := rfl
@[simp] theorem tr_int : truth st (.int i) = some (i != 0) := rfl
@[simp] theorem tr_tup : truth st (.tup xs) = some (!xs.isEmpty) := rfl
@[simp] theorem tr_lst : truth st (.lst xs) = some (!xs.isEmpty) := rfl
@[simp] theorem tr_loc : truth st (.loc n) = (match st[n]? with
  | some (.lst xs) => some (!xs.isEmpty)
  | _ => none) := rfl
@[simp] theorem de_loc : deref st (.loc n) = (match st[n]? with
  | some (.lst xs) => .lst xs
  | _ => .loc n) := rfl
@[simp] theorem de_tup : deref st (.tup xs) = .tup xs := rfl
@[simp] theorem de_lst : deref st (.lst xs) = .lst xs := rfl
@[simp] theorem de_kt {c : Bool} : deref st (.kt c xs) = .kt c xs := rfl
@[simp] theorem de_kl : deref st (.kl xs) = .kl xs := rfl
@[simp] theorem de_int : deref st (.int i) = .int i := rfl
@[simp] theorem de_bl {c : Bool} : deref st (.bl c) = .bl c := rfl
@[simp] theorem de_str {s : Str} : deref st (.str s) = .str s := rfl
@[simp] theorem de_non : deref st .non = .non := rfl
@[simp] theorem ty_int : tyOf st (.int i) = some "int" := rfl
@[simp] theorem ty_bl {c : Bool} : tyOf st (.bl c) = some "bool" := rfl
@[simp] theorem ty_str {s : Str} : tyOf st (.str s) = some "str" := rfl
@[simp] theorem ty_tup : tyOf st (.tup xs) = some "tuple" := rfl
@[simp] theorem ty_kt {c : Bool} : tyOf st (.kt c xs) = some "tuple" := rfl
@[simp] theorem ty_lst : tyOf st (.lst xs) = some "list" := rfl
@[simp] theorem ty_kl : tyOf st (.kl xs) = some "list" := rfl
@[simp] theorem rd_tup : rdL st (.tup xs) = some (xs, []) := rfl
@[simp] theorem rd_lst : rdL st (.lst xs) = some (xs, []) := rfl
@[simp] theorem rd_kt {c : Bool} : rdL st (.kt c xs) = some (xs, []) := rfl
@[simp] theorem rd_kl : rdL st (.kl xs) = some (xs, []) := rfl
@[simp] theorem rd_loc : rdL st (.loc n) = (match st[n]? with
  | some (.lst xs) => some (xs, [n])
  | _ => none) := rfl
@[simp] theorem nr_tup : nrm (.tup xs) = .tup xs := rfl
@[simp] theorem nr_kt {c : Bool} : nrm (.kt c xs) = .tup xs := rfl
@[simp] theorem nr_int : nrm (.int i) = .int i := rfl
@[simp] theorem nr_str {s : Str} : nrm (.str s) = .str s := rfl
@[simp] theorem nr_lst : nrm (.lst xs) = .lst xs := rfl
@[simp] theorem pt_nil : partD [] = some none := rfl
@[simp] theorem pt_int : partD [.int i] = some (some i) := rfl
@[simp] theorem te_nil : testD st [] = some true := rfl
@[simp] theorem te_one : testD st [d] = truth st d := rfl
@[simp] theorem nl_f : newL false xs st = some (.lst xs, st) := rfl
@[simp] theorem nl_t : newL true xs st = some (.loc st.length, st ++ [.lst xs]) := rfl
/-! ### prims -/
@[simp] theorem p_bin {op : Operator} : primD (.bin op) st [a, b] = (binD st op a b).map (·, st) := rfl
@[simp] theorem p_cmp {op : CmpOp} : primD (.cmp op) st [a, b] = (cmpD st op a b).map (.bl ·, st) := rfl
@[simp] theorem p_neg : primD .neg st [.int i] = some (.int (-i), st) := rfl
@[simp] theorem p_cat : primD .cat st [a, b] = (match deref st a, deref st b with
  | .lst a, .lst b => if a.length + b.length ≤ sizeLine then newL true (a ++ b) st else none
  | _, _ => none) := rfl
theorem p_tup (h : xs.length ≤ sizeLine) : primD .tup st xs = some (.tup xs, st) := by
  show (if xs.length ≤ sizeLine then some (D.tup xs, st) else none) = _
  rw [if_pos h]
@[simp] theorem p_tup0 : primD .tup st [] = some (.tup [], st) := p_tup (by decide)
@[simp] theorem p_tup1 {x : D} : primD .tup st [x] = some (.tup [x], st) := p_tup (by simp [sizeLine])
@[simp] theorem p_tup2 {x y : D} : primD .tup st [x, y] = some (.tup [x, y], st) := p_tup (by simp [sizeLine])
@[simp] theorem p_tup3 {x y z : D} : primD .tup st [x, y, z] = some (.tup [x, y, z], st) := p_tup (by simp [sizeLine])
@[simp] theorem p_tup4 {x y z w : D} : primD .tup st [x, y, z, w] = some (.tup [x, y, z, w], st) := p_tup (by simp [sizeLine])
theorem p_lst (h : xs.length ≤ sizeLine) : primD (.lst m) st xs = newL m xs st := by
  show (if xs.length ≤ sizeLine then newL m xs st else none) = _
  rw [if_pos h]
@[simp] theorem p_lst0 : primD (.lst m) st [] = newL m [] st := p_lst (by decide)
@[simp] theorem p_lst1 {x : D} : primD (.lst m) st [x] = newL m [x] st := p_lst (by simp [sizeLine])
@[simp] theorem p_lst2 {x y : D} : primD (.lst m) st [x, y] = newL m [x, y] st := p_lst (by simp [sizeLine])
@[simp] theorem p_lst3 {x y z : D} : primD (.lst m) st [x, y, z] = newL m [x, y, z] st := p_lst (by simp [sizeLine])
@[simp] theorem p_lst4 {x y z w : D} : primD (.lst m) st [x, y, z, w] = newL m [x, y, z, w] st := p_lst (by simp [sizeLine])
@[simp] theorem p_sub : primD .sub st [a, .int i] = (match seqOf st a with
  | some xs => (ixD xs i).map (·, st)
  | none => (match lookD st a (.int i) with
    | some (some v) => some (v, st)
    | _ => none)) := rfl
@[simp] theorem p_len : primD .len st [a] = (match seqOf st a with
  | some xs => some (.int xs.length, st)
  | none => none) := rfl
@[simp] theorem p_all : primD .all st [.lst xs] = (blsOf xs).map fun bs => (.bl (bs.all id), st) := rfl
@[simp] theorem p_any : primD .any st [.lst xs] = (blsOf xs).map fun bs => (.bl (bs.any id), st) := rfl
@[simp] theorem p_tupt {c : Bool} : primD (.tuple c) st [.tup xs] = some (.tup xs, st) := rfl
@[simp] theorem p_tupk {c e : Bool} : primD (.tuple c) st [.kt e xs] = some (.kt e xs, st) := rfl
@[simp] theorem p_tupl {c : Bool} : primD (.tuple c) st [.lst xs] = some (if c then .kt true xs else .tup xs, st) := rfl
@[simp] theorem p_tuploc {c : Bool} : primD (.tuple c) st [.loc n] = (seqOf st (.loc n)).map fun xs => (if c then .kt true xs else .tup xs, st) := rfl
@[simp] theorem p_list : primD (.list m) st [a] = (match seqOf st a with
  | some xs => newL m xs st
  | none => none) := rfl
@[simp] theorem p_inti : primD .int st [.int i] = some (.int i, st) := rfl
@[simp] theorem p_intb {c : Bool} : primD .int st [.bl c] = some (.int (if c then 1 else 0), st) := rfl
@[simp] theorem p_abs : primD .abs st [.int i] = some (.int (if i < 0 then -i else i), st) := rfl
@[simp] theorem p_min2 : primD .min2 st [.int i, .int j] = some (.int (if j < i then j else i), st) := rfl
@[simp] theorem p_max2 : primD .max2 st [.int i, .int j] = some (.int (if j > i then j else i), st) := rfl
@[simp] theorem p_min1 : primD .min1 st [a] = (match listOf st a with
  | some xs => (match intsOf xs with
    | some is => (minL is).map (.int ·, st)
    | none => none)
  | none => none) := rfl
@[simp] theorem p_sum : primD .sum st [a] = (match seqOf st a with
  | some xs => (intsOf xs).map fun is => (.int is.sum, st)
  | none => none) := rfl
@[simp] theorem p_sorted : primD (.sorted m) st [a] = (match listOf st a with
  | some xs => (match sortD xs with
    | some ys => newL m ys st
    | none => none)
  | none => none) := rfl
@[simp] theorem p_isi {ts : List String} : primD (.isi ts) st [a] = (tyOf st a).map fun t => (.bl (ts.any fun u => decide (t = u) || (decide (t = "bool") && decide (u = "int"))), st) := rfl
@[simp] theorem p_app : primD .append st [.loc n, d] = (match st[n]? with
  | some (.lst xs) => if xs.length < sizeLine then some (.non, st.set n (.lst (xs ++ [d]))) else none
  | _ => none) := rfl
@[simp] theorem p_ext : primD .extend st [.loc n, .lst ys] = (match st[n]? with
  | some (.lst xs) => if xs.length + ys.length ≤ sizeLine then some (.non, st.set n (.lst (xs ++ ys))) else none
  | _ => none) := rfl
@[simp] theorem p_pop : primD .popi st [.loc n, .int i] = (match st[n]? with
  | some (.lst xs) => if 0 ≤ i ∧ i < 2 ^ 62 then (match xs[i.toNat]? with
      | some d => some (d, st.set n (.lst (xs.eraseIdx i.toNat)))
      | none => none)
    else none
  | _ => none) := rfl
@[simp] theorem p_index : primD .index st [a, .int i] = (match listOf st a with
  | some xs => (match intsOf xs with
    | some is => (firstI i is).map fun k => (.int k, st)
    | none => none)
  | none => none) := rfl
@[simp] theorem p_count : primD .count st [.kt true xs, .int i] = (intsOf xs).map fun is => (.int (is.count i), st) := rfl
@[simp] theorem p_dnk : primD .dnk st [] = some (.loc st.length, st ++ [.dk []]) := rfl
@[simp] theorem p_dnt : primD .dnt st [] = some (.loc st.length, st ++ [.dt []]) := rfl
@[simp] theorem mt_app : methTy .append st a = (listOf st a).isSome := rfl
@[simp] theorem mt_ext : methTy .extend st a = (listOf st a).isSome := rfl
@[simp] theorem mt_pop : methTy .popi st a = (listOf st a).isSome := rfl
@[simp] theorem mt_ind : methTy .index st a = (listOf st a).isSome := rfl
@[simp] theorem mt_cnt : methTy .count st (.kt true xs) = true := rfl
/-! ### arithmetic, order, equality -/
@[simp] theorem b_add : binD st .Add (.int i) (.int j) = some (.int (i + j)) := rfl
@[simp] theorem b_sub : binD st .Sub (.int i) (.int j) = some (.int (i - j)) := rfl
@[simp] theorem b_mul : binD st .Mult (.int i) (.int j) = if big i || big j then some (.int (i * j)) else none := rfl
@[simp] theorem b_div : binD st .FloorDiv (.int i) (.int j) = if 0 < j ∧ j < 1073741824 then some (.int (i / j)) else none := rfl
@[simp] theorem b_mod : binD st .Mod (.int i) (.int j) = if 0 < j then some (.int (i % j)) else none := rfl
@[simp] theorem b_pow : binD st .Pow (.int i) (.int j) = if 0 ≤ j ∧ j ≤ 1000000 ∧ i.natAbs < 2 ^ 64 then some (.int (i ^ j.toNat)) else none := rfl
@[simp] theorem b_tup : binD st .Add (.tup xs) (.tup ys) = if xs.length + ys.length ≤ sizeLine then some (.tup (xs ++ ys)) else none := rfl
@[simp] theorem b_lst : binD st .Add (.lst xs) (.lst ys) = if xs.length + ys.length ≤ sizeLine then some (.lst (xs ++ ys)) else none := rfl
@[simp] theorem c_lt : cmpD st .Lt (.int i) (.int j) = some (decide (i < j)) := rfl
@[simp] theorem c_gt : cmpD st .Gt (.int i) (.int j) = some (decide (j < i)) := rfl
@[simp] theorem c_le : cmpD st .LtE (.int i) (.int j) = some (decide (i ≤ j)) := rfl
@[simp] theorem c_ge : cmpD st .GtE (.int i) (.int j) = some (decide (j ≤ i)) := rfl
@[simp] theorem c_eq : cmpD st .Eq a b = eqD dp (deref st a) (deref st b) := rfl
@[simp] theorem c_ne : cmpD st .NotEq a b = (eqD dp (deref st a) (deref st b)).map (!·) := rfl
@[simp] theorem c_is : cmpD st .Is a .non = some (isNon a) := rfl
@[simp] theorem c_in : cmpD st .In a b = (match seqOf st b with
  | some xs => inL a xs
  | none => hasK st a b) := rfl
@[simp] theorem c_ni : cmpD st .NotIn a b = (match seqOf st b with
  | some xs => (inL a xs).map (!·)
  | none => (hasK st a b).map (!·)) := rfl
@[simp] theorem e_int {q : Nat} : eqD (q + 1) (.int i) (.int j) = some (i == j) := rfl
@[simp] theorem e_bl {q : Nat} {c e : Bool} : eqD (q + 1) (.bl c) (.bl e) = some (c == e) := rfl
@[simp] theorem e_str {q : Nat} {s t : Str} : eqD (q + 1) (.str s) (.str t) = some (s == t) := rfl
theorem e_tup {q : Nat} : eqD (q + 1) (.tup xs) (.tup ys) = eqL (eqD q) xs ys := rfl
@[simp] theorem e_tup0 {q : Nat} : eqD (q + 1) (.tup xs) (.tup []) = some xs.isEmpty := by
  cases xs <;> rfl
@[simp] theorem e_lst0 {q : Nat} : eqD (q + 1) (.lst xs) (.lst []) = some xs.isEmpty := by
  show (if xs.length = 0 then eqL (eqD q) xs [] else some false) = _
  cases xs <;> simp [eqL]
theorem e_lst {q : Nat} : eqD (q + 1) (.lst xs) (.lst ys) = if xs.length = ys.length then eqL (eqD q) xs ys else some false := rfl
@[simp] theorem in_nil {x : D} : inL x [] = some false := rfl
@[simp] theorem si_lst {v : D} : setItemD st (.loc n) (.int i) v = (match st[n]? with
  | some (.lst xs) => (ixN xs.length i).map fun j => st.set n (.lst (xs.set j v))
  | some (.dk kvs) => if kvs.length < sizeLine then some (st.set n (.dk (putK (.inl i) v kvs))) else none
  | some (.dt kvs) => none
  | _ => none) := by
  show (match st[n]? with
    | some (.lst xs) => (ixN xs.length i).map fun j => st.set n (.lst (xs.set j v))
    | some (.dk kvs) => (match keyOf (.int i) with
      | some k => if kvs.length < sizeLine then some (st.set n (.dk (putK k v kvs))) else none
      | none => none)
    | some (.dt kvs) => none
    | _ => none) = _
  rfl
end
end Ro
end
section
set_option Elab.async false
set_option linter.all false
set_option autoImplicit false
set_option maxHeartbeats 4000000
namespace Ro
open PySem L2

/-! ## The store at its end -/
section
variable {st xs : Sto} {a b c o : Ob} {i : Nat}
@[simp] theorem ap_get : (st ++ xs)[st.length + i]? = xs[i]? := by
  rw [List.getElem?_append_right (by omega)]
  congr 1
  omega
@[simp] theorem ap_get0 : (st ++ xs)[st.length]? = xs[0]? := by
  have := ap_get (st := st) (xs := xs) (i := 0)
  simpa using this
@[simp] theorem ap_set : (st ++ xs).set (st.length + i) o = st ++ xs.set i o := by
  have key : ∀ s : List Ob, (s ++ xs).set (s.length + i) o = s ++ xs.set i o := fun s => by
    induction s with
    | nil => simp
    | cons a s ih =>
      rw [List.length_cons, show s.length + 1 + i = s.length + i + 1 by omega]
      simp [ih]
  exact key st
@[simp] theorem ap_set0 : (st ++ xs).set st.length o = st ++ xs.set 0 o := by
  have := ap_set (st := st) (xs := xs) (i := 0) (o := o)
  simpa using this
@[simp] theorem ap_take : (st ++ xs).take st.length = st := by simp
end
/-! ## Data without places of the store -/
mutual
def nol : D → Bool
  | .loc _ => false
  | .tup xs => nolL xs
  | .lst xs => nolL xs
  | .kt _ xs => nolL xs
  | .kl xs => nolL xs
  | .dk _ vs => nolL vs
  | .dt _ vs => nolL vs
  | .non => true
  | .bl _ => true
  | .int _ => true
  | .str _ => true
def nolL : List D → Bool
  | [] => true
  | d :: ds => nol d && nolL ds
end
mutual
theorem below_nol {b : Nat} : ∀ {d : D}, nol d = true → below b d = true
  | .loc _, h => by simp [nol] at h
  | .tup xs, h => by rw [nol] at h; rw [below]; exact belowL_nol h
  | .lst xs, h => by rw [nol] at h; rw [below]; exact belowL_nol h
  | .kt _ xs, h => by rw [nol] at h; rw [below]; exact belowL_nol h
  | .kl xs, h => by rw [nol] at h; rw [below]; exact belowL_nol h
  | .dk _ xs, h => by rw [nol] at h; rw [below]; exact belowL_nol h
  | .dt _ xs, h => by rw [nol] at h; rw [below]; exact belowL_nol h
  | .non, _ => rfl
  | .bl _, _ => rfl
  | .int _, _ => rfl
  | .str _, _ => rfl
theorem belowL_nol {b : Nat} : ∀ {ds : List D}, nolL ds = true → belowL b ds = true
  | [], _ => rfl
  | d :: ds, h => by
    simp only [nolL, Bool.and_eq_true] at h
    simp only [belowL, Bool.and_eq_true]
    exact ⟨below_nol h.1, belowL_nol h.2⟩
end
mutual
theorem fz_nol {st : Sto} {b : Nat} : ∀ {d : D}, nol d = true → fzD st b d = some d
  | .loc _, h => by simp [nol] at h
  | .tup xs, h => by rw [nol] at h; rw [fzD, fzL_nol h]; rfl
  | .lst xs, h => by rw [nol] at h; rw [fzD, fzL_nol h]; rfl
  | .kt _ xs, h => by rw [nol] at h; rw [fzD, if_pos (belowL_nol h)]
  | .kl xs, h => by rw [nol] at h; rw [fzD, if_pos (belowL_nol h)]
  | .dk _ xs, h => by rw [nol] at h; rw [fzD, if_pos (belowL_nol h)]
  | .dt _ xs, h => by rw [nol] at h; rw [fzD, if_pos (belowL_nol h)]
  | .non, _ => by rw [fzD]
  | .bl _, _ => by rw [fzD]
  | .int _, _ => by rw [fzD]
  | .str _, _ => by rw [fzD]
theorem fzL_nol {st : Sto} {b : Nat} : ∀ {ds : List D}, nolL ds = true → fzL st b ds = some ds
  | [], _ => by rw [fzL]
  | d :: ds, h => by
    simp only [nolL, Bool.and_eq_true] at h
    rw [fzL, fz_nol h.1, fzL_nol h.2]
end
theorem nolL_of : ∀ {xs : List D}, (∀ x ∈ xs, nol x = true) → nolL xs = true
  | [], _ => rfl
  | x :: xs, h => by
    rw [nolL, h x (List.mem_cons_self ..), nolL_of fun y hy => h y (List.mem_cons_of_mem _ hy)]
    rfl
theorem nolL_at : ∀ {xs : List D}, nolL xs = true → ∀ x ∈ xs, nol x = true
  | [], _, x, h => by cases h
  | y :: ys, h, x, hx => by
    simp only [nolL, Bool.and_eq_true] at h
    rcases List.mem_cons.mp hx with rfl | hx
    · exact h.1
    · exact nolL_at h.2 x hx
/-- a list of the store that becomes frozen -/
theorem fz_loc {st xs : Sto} {i : Nat} {ds : List D} (h : xs[i]? = some (.lst ds)) (n : nolL ds = true) : fzD (st ++ xs) st.length (.loc (st.length + i)) = some (.lst ds) := by
  rw [fzD, if_neg (by omega)]
  simp only [ap_get, h]
  rw [if_pos (belowL_nol n)]
theorem fz_loc0 {st xs : Sto} {ds : List D} (h : xs[0]? = some (.lst ds)) (n : nolL ds = true) : fzD (st ++ xs) st.length (.loc st.length) = some (.lst ds) := fz_loc (i := 0) h n
theorem fin_nol {st xs : Sto} {r : D} (h : nol r = true) : finD true st r (st ++ xs) = some (r, st) := by
  rw [fin_gc (fz_nol h) gc_app, ap_take]
theorem w_addL {C : CallF} {a b : Ex} {ρ : Env} {st : Sto} {A B : List D} (h1 : ev C a ρ st = some (.lst A, st)) (h2 : ev C b ρ st = some (.lst B, st)) (sz : A.length + B.length ≤ sizeLine) : ev C (.op (.bin .Add) (.cons a (.cons b .nil))) ρ st = some (.lst (A ++ B), st) := by
  simp [h1, h2, sz]
theorem x_retE {C : CallF} {e : Ex} {ρ : Env} {st st' : Sto} {d : D} (h : ev C e ρ st = some (d, st')) : exS C (.ret e) ρ st = some (.ret d st') := by
  rw [x_ret, h]
  rfl
end Ro
end
section
set_option autoImplicit false
set_option linter.all false
set_option maxRecDepth 100000
namespace T68
open PySem Ro

/-- is_number(thing): 0 thing -/
abbrev b_is_number : Ss := (.cons (.ret (.and (.op (.isi ["int"]) (.cons (.var 0) .nil)) (.not (.op (.isi ["bool"]) (.cons (.var 0) .nil)))))
  .nil)
abbrev d_is_number : Df := ⟨"is_number", ["thing"], 1, b_is_number, false⟩
/-- is_long(thing, length): 0 thing, 1 length -/
abbrev b_is_long : Ss := (.cons (.ret (.and (.op (.isi ["tuple"]) (.cons (.var 0) .nil)) (.op (.cmp .Eq) (.cons (.op .len (.cons (.var 0) .nil)) (.cons (.var 1) .nil)))))
  .nil)
abbrev d_is_long : Df := ⟨"is_long", ["thing", "length"], 2, b_is_long, false⟩
/-- tupled(value): 0 value, 1 own -/
abbrev b_tupled : Ss := (.cons (.ret (.ite (.op (.isi ["list", "tuple"]) (.cons (.var 0) .nil)) (.op (.tuple false) (.cons (.comp false [1] (.v 1) (.seq (.var 0)) .nil (.call 2 (.cons (.var 1) .nil))) .nil)) (.var 0)))
  .nil)
abbrev d_tupled : Df := ⟨"tupled", ["value", "own"], 1, b_tupled, false⟩
/-- are_numbers(thing): 0 thing, 1 own -/
abbrev b_are_numbers : Ss := (.cons (.ret (.and (.op (.isi ["tuple"]) (.cons (.var 0) .nil)) (.op .all (.cons (.comp false [1] (.v 1) (.seq (.var 0)) .nil (.call 0 (.cons (.var 1) .nil))) .nil))))
  .nil)
abbrev d_are_numbers : Df := ⟨"are_numbers", ["thing", "own"], 1, b_are_numbers, false⟩
/-- is_debts_in(thing): 0 thing, 1 many, 2 member, 3 own, 4 other -/
abbrev b_is_debts_in : Ss := (.cons (.ifs (.or (.not (.op (.isi ["tuple"]) (.cons (.var 0) .nil))) (.not (.op .all (.cons (.comp false [3] (.v 3) (.seq (.var 0)) .nil (.call 3 (.cons (.var 3) .nil))) .nil)))) (.cons (.ret (.cst (.bl false)))
  .nil) .nil)
  (.cons (.asg (.v 1) (.op .len (.cons (.var 0) .nil)))
  (.cons (.ret (.op .all (.cons (.comp false [2, 3] (.t [(.v 2), (.v 3)]) (.enum (.var 0)) .nil (.op .all (.cons (.comp false [4] (.v 4) (.seq (.var 3)) .nil (.and (.chain .LtE .Lt (.cst (.int 0)) (.var 4) (.var 1)) (.op (.cmp .NotEq) (.cons (.var 4) (.cons (.var 2) .nil))))) .nil))) .nil)))
  .nil)))
abbrev d_is_debts_in : Df := ⟨"is_debts_in", ["thing", "many", "member", "own", "other"], 1, b_is_debts_in, false⟩
/-- sure_debts(debts): 0 debts, 1 own -/
abbrev b_sure_debts : Ss := (.cons (.asg (.v 1) (.call 2 (.cons (.var 0) .nil)))
  (.cons (.ifs (.not (.call 4 (.cons (.var 1) .nil))) (.cons .never
  .nil) .nil)
  (.cons (.ret (.var 1))
  .nil)))
abbrev d_sure_debts : Df := ⟨"sure_debts", ["debts", "own"], 1, b_sure_debts, false⟩
/-- sure_owing(debts, coins): 0 debts, 1 coins, 2 own, 3 there, 4 coin -/
abbrev b_sure_owing : Ss := (.cons (.par [2, 3] (.cons (.call 5 (.cons (.var 0) .nil)) (.cons (.call 2 (.cons (.var 1) .nil)) .nil)))
  (.cons (.ifs (.or (.not (.call 3 (.cons (.var 3) .nil))) (.or (.op (.cmp .NotEq) (.cons (.op .len (.cons (.var 3) .nil)) (.cons (.op .len (.cons (.var 2) .nil)) .nil))) (.not (.op .all (.cons (.comp false [4] (.v 4) (.seq (.var 3)) .nil (.op (.cmp .GtE) (.cons (.var 4) (.cons (.cst (.int 0)) .nil)))) .nil))))) (.cons .never
  .nil) .nil)
  (.cons (.ret (.op .tup (.cons (.var 2) (.cons (.var 3) .nil))))
  .nil)))
abbrev d_sure_owing : Df := ⟨"sure_owing", ["debts", "coins", "own", "there", "coin"], 2, b_sure_owing, false⟩
/-- is_like_deed(thing): 0 thing -/
abbrev b_is_like_deed : Ss := (.cons (.ifs (.or (.not (.call 1 (.cons (.var 0) (.cons (.cst (.int 2)) .nil)))) (.or (.not (.op (.isi ["str"]) (.cons (.op .sub (.cons (.var 0) (.cons (.cst (.int 0)) .nil))) .nil))) (.op (.cmp .NotIn) (.cons (.op .sub (.cons (.var 0) (.cons (.cst (.int 0)) .nil))) (.cons (.op .tup (.cons (.glob "PAY" (.str "pay")) (.cons (.glob "RING" (.str "ring")) .nil))) .nil))))) (.cons (.ret (.cst (.bl false)))
  .nil) .nil)
  (.cons (.ret (.ite (.op (.cmp .Eq) (.cons (.op .sub (.cons (.var 0) (.cons (.cst (.int 0)) .nil))) (.cons (.glob "PAY" (.str "pay")) .nil))) (.call 0 (.cons (.op .sub (.cons (.var 0) (.cons (.cst (.int 1)) .nil))) .nil)) (.call 3 (.cons (.op .sub (.cons (.var 0) (.cons (.cst (.int 1)) .nil))) .nil))))
  .nil))
abbrev d_is_like_deed : Df := ⟨"is_like_deed", ["thing"], 1, b_is_like_deed, false⟩
/-- sure_deeds(debts, deeds): 0 debts, 1 deeds, 2 own, 3 word, 4 told, 5 member, 6 deed -/
abbrev b_sure_deeds : Ss := (.cons (.asg (.v 2) (.call 2 (.cons (.var 1) .nil)))
  (.cons (.ifs (.or (.not (.op (.isi ["tuple"]) (.cons (.var 2) .nil))) (.not (.op .all (.cons (.comp false [6] (.v 6) (.seq (.var 2)) .nil (.call 7 (.cons (.var 6) .nil))) .nil)))) (.cons .never
  .nil) .nil)
  (.cons (.for false (.t [(.v 3), (.v 4)]) (.seq (.var 2)) (.cons (.for false (.v 5) (.seq (.ite (.op (.cmp .Eq) (.cons (.var 3) (.cons (.glob "PAY" (.str "pay")) .nil))) (.op .tup (.cons (.var 4) .nil)) (.var 4))) (.cons (.ifs (.not (.chain .LtE .Lt (.cst (.int 0)) (.var 5) (.op .len (.cons (.var 0) .nil)))) (.cons .never
  .nil) .nil)
  .nil))
  .nil))
  (.cons (.ret (.var 2))
  .nil))))
abbrev d_sure_deeds : Df := ⟨"sure_deeds", ["debts", "deeds", "own", "word", "told", "member", "deed"], 2, b_sure_deeds, false⟩
/-- payers_in(debts, coins): 0 debts, 1 coins, 2 member, 3 own -/
abbrev b_payers_in : Ss := (.cons (.ret (.comp false [2, 3] (.t [(.v 2), (.v 3)]) (.enum (.var 0)) (.cons (.and (.op (.cmp .NotEq) (.cons (.var 3) (.cons (.op .tup .nil) .nil))) (.op (.cmp .Gt) (.cons (.op .sub (.cons (.var 1) (.cons (.var 2) .nil))) (.cons (.cst (.int 0)) .nil)))) .nil) (.var 2)))
  .nil)
abbrev d_payers_in : Df := ⟨"payers_in", ["debts", "coins", "member", "own"], 2, b_payers_in, false⟩
/-- rings_in(debts): 0 debts, 1 found, 2 seen, 3 start, 4 row, 5 member, 6 ring, 7 least -/
abbrev b_rings_in : Ss := (.cons (.par [1, 2] (.cons (.op (.lst true) .nil) (.cons (.op .dnk .nil) .nil)))
  (.cons (.for true (.v 3) (.range (.cons (.op .len (.cons (.var 0) .nil)) .nil)) (.cons (.par [4, 5] (.cons (.op (.lst true) .nil) (.cons (.var 3) .nil)))
  (.cons (.whl false (.and (.op (.cmp .NotIn) (.cons (.var 5) (.cons (.var 2) .nil))) (.op (.cmp .NotEq) (.cons (.op .sub (.cons (.var 0) (.cons (.var 5) .nil))) (.cons (.op .tup .nil) .nil)))) (.cons (.setS (.var 2) (.var 5) (.var 3))
  (.cons (.ex (.meth .append (.var 4) (.cons (.var 5) .nil)))
  (.cons (.asg (.v 5) (.op .sub (.cons (.op .sub (.cons (.var 0) (.cons (.var 5) .nil))) (.cons (.cst (.int 0)) .nil))))
  .nil))))
  (.cons (.ifs (.op (.cmp .In) (.cons (.var 5) (.cons (.var 4) .nil))) (.cons (.asg (.v 6) (.slice (.var 4) (.cons (.meth .index (.var 4) (.cons (.var 5) .nil)) .nil) .nil))
  (.cons (.asg (.v 7) (.meth .index (.var 6) (.cons (.op .min1 (.cons (.var 6) .nil)) .nil)))
  (.cons (.ex (.meth .append (.var 1) (.cons (.op (.tuple false) (.cons (.op (.bin .Add) (.cons (.slice (.var 6) (.cons (.var 7) .nil) .nil) (.cons (.slice (.var 6) .nil (.cons (.var 7) .nil)) .nil))) .nil)) .nil)))
  .nil))) .nil)
  .nil))))
  (.cons (.ret (.op (.sorted false) (.cons (.var 1) .nil)))
  .nil)))
abbrev d_rings_in : Df := ⟨"rings_in", ["debts", "found", "seen", "start", "row", "member", "ring", "least"], 1, b_rings_in, true⟩
/-- deeds_in(debts, coins): 0 debts, 1 coins, 2 member, 3 ring -/
abbrev b_deeds_in : Ss := (.cons (.ret (.op (.bin .Add) (.cons (.comp false [2] (.v 2) (.seq (.call 9 (.cons (.var 0) (.cons (.var 1) .nil)))) .nil (.op .tup (.cons (.glob "PAY" (.str "pay")) (.cons (.var 2) .nil)))) (.cons (.comp false [3] (.v 3) (.seq (.call 10 (.cons (.var 0) .nil))) .nil (.op .tup (.cons (.glob "RING" (.str "ring")) (.cons (.var 3) .nil)))) .nil))))
  .nil)
abbrev d_deeds_in : Df := ⟨"deeds_in", ["debts", "coins", "member", "ring"], 2, b_deeds_in, false⟩
/-- done_in(debts, coins, deed): 0 debts, 1 coins, 2 deed, 3 word, 4 told, 5 left, 6 there, 7 member, 8 own -/
abbrev b_done_in : Ss := (.cons (.asg (.t [(.v 3), (.v 4)]) (.var 2))
  (.cons (.asg (.v 5) (.comp false [7, 8] (.t [(.v 7), (.v 8)]) (.enum (.var 0)) .nil (.ite (.op (.cmp .In) (.cons (.var 7) (.cons (.ite (.op (.cmp .Eq) (.cons (.var 3) (.cons (.glob "PAY" (.str "pay")) .nil))) (.op .tup (.cons (.var 4) .nil)) (.var 4)) .nil))) (.slice (.var 8) (.cons (.cst (.int 1)) .nil) .nil) (.var 8))))
  (.cons (.asg (.v 6) (.op (.list true) (.cons (.var 1) .nil)))
  (.cons (.ifs (.op (.cmp .Eq) (.cons (.var 3) (.cons (.glob "PAY" (.str "pay")) .nil))) (.cons (.setS (.var 6) (.var 4) (.op (.bin .Sub) (.cons (.op .sub (.cons (.var 6) (.cons (.var 4) .nil))) (.cons (.cst (.int 1)) .nil))))
  (.cons (.setS (.var 6) (.op .sub (.cons (.op .sub (.cons (.var 0) (.cons (.var 4) .nil))) (.cons (.cst (.int 0)) .nil))) (.op (.bin .Add) (.cons (.op .sub (.cons (.var 6) (.cons (.op .sub (.cons (.op .sub (.cons (.var 0) (.cons (.var 4) .nil))) (.cons (.cst (.int 0)) .nil))) .nil))) (.cons (.cst (.int 1)) .nil))))
  .nil)) .nil)
  (.cons (.ret (.op .tup (.cons (.op (.tuple false) (.cons (.var 5) .nil)) (.cons (.op (.tuple false) (.cons (.var 6) .nil)) .nil))))
  .nil)))))
abbrev d_done_in : Df := ⟨"done_in", ["debts", "coins", "deed", "word", "told", "left", "there", "member", "own"], 3, b_done_in, true⟩
/-- paid_in(debts, coins): 0 debts, 1 coins, 2 found, 3 payers -/
abbrev b_paid_in : Ss := (.cons (.par [2, 3] (.cons (.op (.lst true) .nil) (.cons (.call 9 (.cons (.var 0) (.cons (.var 1) .nil))) .nil)))
  (.cons (.whl false (.op (.cmp .NotEq) (.cons (.var 3) (.cons (.op (.lst false) .nil) .nil))) (.cons (.ex (.meth .append (.var 2) (.cons (.op .tup (.cons (.glob "PAY" (.str "pay")) (.cons (.op .sub (.cons (.var 3) (.cons (.cst (.int 0)) .nil))) .nil))) .nil)))
  (.cons (.asg (.t [(.v 0), (.v 1)]) (.call 12 (.cons (.var 0) (.cons (.var 1) (.cons (.op .sub (.cons (.var 2) (.cons (.op .neg (.cons (.cst (.int 1)) .nil)) .nil))) .nil)))))
  (.cons (.asg (.v 3) (.call 9 (.cons (.var 0) (.cons (.var 1) .nil))))
  .nil))))
  (.cons (.ret (.op .tup (.cons (.var 0) (.cons (.var 1) (.cons (.var 2) .nil)))))
  .nil)))
abbrev d_paid_in : Df := ⟨"paid_in", ["debts", "coins", "found", "payers"], 2, b_paid_in, true⟩
/-- cleared_in(debts, coins): 0 debts, 1 coins, 2 found, 3 again, 4 more, 5 rings -/
abbrev b_cleared_in : Ss := (.cons (.par [2, 3] (.cons (.op (.lst false) .nil) (.cons (.cst (.bl true)) .nil)))
  (.cons (.whl true (.var 3) (.cons (.asg (.t [(.v 0), (.v 1), (.v 4)]) (.call 13 (.cons (.var 0) (.cons (.var 1) .nil))))
  (.cons (.asg (.v 2) (.op .cat (.cons (.var 2) (.cons (.var 4) .nil))))
  (.cons (.asg (.v 5) (.call 10 (.cons (.var 0) .nil)))
  (.cons (.asg (.v 3) (.op (.cmp .NotEq) (.cons (.var 5) (.cons (.op (.lst false) .nil) .nil))))
  (.cons (.ifs (.var 3) (.cons (.ex (.meth .append (.var 2) (.cons (.op .tup (.cons (.glob "RING" (.str "ring")) (.cons (.op .sub (.cons (.var 5) (.cons (.cst (.int 0)) .nil))) .nil))) .nil)))
  (.cons (.asg (.t [(.v 0), (.v 1)]) (.call 12 (.cons (.var 0) (.cons (.var 1) (.cons (.op .sub (.cons (.var 2) (.cons (.op .neg (.cons (.cst (.int 1)) .nil)) .nil))) .nil)))))
  .nil)) .nil)
  .nil))))))
  (.cons (.ret (.op .tup (.cons (.var 0) (.cons (.var 1) (.cons (.var 2) .nil)))))
  .nil)))
abbrev d_cleared_in : Df := ⟨"cleared_in", ["debts", "coins", "found", "again", "more", "rings"], 2, b_cleared_in, true⟩
/-- gone_of(debts, left): 0 debts, 1 left, 2 own, 3 rest -/
abbrev b_gone_of : Ss := (.cons (.ret (.op (.tuple false) (.cons (.comp false [2, 3] (.t [(.v 2), (.v 3)]) (.zip (.cons (.var 0) (.cons (.var 1) .nil))) .nil (.op (.bin .Sub) (.cons (.op .len (.cons (.var 2) .nil)) (.cons (.op .len (.cons (.var 3) .nil)) .nil)))) .nil)))
  .nil)
abbrev d_gone_of : Df := ⟨"gone_of", ["debts", "left", "own", "rest"], 2, b_gone_of, false⟩
/-- debt_deeds(debts, coins): 0 debts, 1 coins, 2 own, 3 there -/
abbrev b_debt_deeds : Ss := (.cons (.asg (.t [(.v 2), (.v 3)]) (.call 6 (.cons (.var 0) (.cons (.var 1) .nil))))
  (.cons (.ret (.op (.tuple false) (.cons (.call 11 (.cons (.var 2) (.cons (.var 3) .nil))) .nil)))
  .nil))
abbrev d_debt_deeds : Df := ⟨"debt_deeds", ["debts", "coins", "own", "there"], 2, b_debt_deeds, false⟩
/-- debt_done(debts, coins, deed): 0 debts, 1 coins, 2 deed, 3 own, 4 there, 5 asked -/
abbrev b_debt_done : Ss := (.cons (.asg (.t [(.v 3), (.v 4)]) (.call 6 (.cons (.var 0) (.cons (.var 1) .nil))))
  (.cons (.asg (.v 5) (.call 2 (.cons (.var 2) .nil)))
  (.cons (.ifs (.not (.call 7 (.cons (.var 5) .nil))) (.cons .never
  .nil) .nil)
  (.cons (.ex (.call 8 (.cons (.var 3) (.cons (.op .tup (.cons (.var 5) .nil)) .nil))))
  (.cons (.ifs (.op (.cmp .NotIn) (.cons (.var 5) (.cons (.call 11 (.cons (.var 3) (.cons (.var 4) .nil))) .nil))) (.cons .never
  .nil) .nil)
  (.cons (.ret (.call 12 (.cons (.var 3) (.cons (.var 4) (.cons (.var 5) .nil)))))
  .nil))))))
abbrev d_debt_done : Df := ⟨"debt_done", ["debts", "coins", "deed", "own", "there", "asked"], 3, b_debt_done, false⟩
/-- debts_behind(debts, coins, deeds): 0 debts, 1 coins, 2 deeds, 3 own, 4 there, 5 place, 6 deed -/
abbrev b_debts_behind : Ss := (.cons (.asg (.t [(.v 3), (.v 4)]) (.call 6 (.cons (.var 0) (.cons (.var 1) .nil))))
  (.cons (.for false (.t [(.v 5), (.v 6)]) (.enum (.call 8 (.cons (.var 3) (.cons (.var 2) .nil)))) (.cons (.ifs (.op (.cmp .NotIn) (.cons (.var 6) (.cons (.call 11 (.cons (.var 3) (.cons (.var 4) .nil))) .nil))) (.cons .never
  .nil) .nil)
  (.cons (.asg (.t [(.v 3), (.v 4)]) (.call 12 (.cons (.var 3) (.cons (.var 4) (.cons (.var 6) .nil)))))
  .nil)))
  (.cons (.ret (.op .tup (.cons (.var 3) (.cons (.var 4) .nil))))
  .nil)))
abbrev d_debts_behind : Df := ⟨"debts_behind", ["debts", "coins", "deeds", "own", "there", "place", "deed"], 3, b_debts_behind, false⟩
/-- all_paid(debts, coins): 0 debts, 1 coins, 2 own, 3 there, 4 left, 5 coming, 6 _ -/
abbrev b_all_paid : Ss := (.cons (.asg (.t [(.v 2), (.v 3)]) (.call 6 (.cons (.var 0) (.cons (.var 1) .nil))))
  (.cons (.asg (.t [(.v 4), (.v 5), (.v 6)]) (.call 13 (.cons (.var 2) (.cons (.var 3) .nil))))
  (.cons (.ret (.op .tup (.cons (.var 4) (.cons (.var 5) .nil))))
  .nil)))
abbrev d_all_paid : Df := ⟨"all_paid", ["debts", "coins", "own", "there", "left", "coming", "_"], 2, b_all_paid, false⟩
/-- all_cleared(debts, coins): 0 debts, 1 coins, 2 own, 3 there, 4 left, 5 coming, 6 _ -/
abbrev b_all_cleared : Ss := (.cons (.asg (.t [(.v 2), (.v 3)]) (.call 6 (.cons (.var 0) (.cons (.var 1) .nil))))
  (.cons (.asg (.t [(.v 4), (.v 5), (.v 6)]) (.call 14 (.cons (.var 2) (.cons (.var 3) .nil))))
  (.cons (.ret (.op .tup (.cons (.var 4) (.cons (.var 5) .nil))))
  .nil)))
abbrev d_all_cleared : Df := ⟨"all_cleared", ["debts", "coins", "own", "there", "left", "coming", "_"], 2, b_all_cleared, false⟩
/-- notes_paid(debts, coins): 0 debts, 1 coins, 2 own, 3 there -/
abbrev b_notes_paid : Ss := (.cons (.asg (.t [(.v 2), (.v 3)]) (.call 6 (.cons (.var 0) (.cons (.var 1) .nil))))
  (.cons (.ret (.call 15 (.cons (.var 2) (.cons (.op .sub (.cons (.call 13 (.cons (.var 2) (.cons (.var 3) .nil))) (.cons (.cst (.int 0)) .nil))) .nil))))
  .nil))
abbrev d_notes_paid : Df := ⟨"notes_paid", ["debts", "coins", "own", "there"], 2, b_notes_paid, false⟩
/-- notes_cleared(debts, coins): 0 debts, 1 coins, 2 own, 3 there -/
abbrev b_notes_cleared : Ss := (.cons (.asg (.t [(.v 2), (.v 3)]) (.call 6 (.cons (.var 0) (.cons (.var 1) .nil))))
  (.cons (.ret (.call 15 (.cons (.var 2) (.cons (.op .sub (.cons (.call 14 (.cons (.var 2) (.cons (.var 3) .nil))) (.cons (.cst (.int 0)) .nil))) .nil))))
  .nil))
abbrev d_notes_cleared : Df := ⟨"notes_cleared", ["debts", "coins", "own", "there"], 2, b_notes_cleared, false⟩
/-- paying_deeds(debts, coins): 0 debts, 1 coins, 2 own, 3 there -/
abbrev b_paying_deeds : Ss := (.cons (.asg (.t [(.v 2), (.v 3)]) (.call 6 (.cons (.var 0) (.cons (.var 1) .nil))))
  (.cons (.ret (.op (.tuple false) (.cons (.op .sub (.cons (.call 13 (.cons (.var 2) (.cons (.var 3) .nil))) (.cons (.cst (.int 2)) .nil))) .nil)))
  .nil))
abbrev d_paying_deeds : Df := ⟨"paying_deeds", ["debts", "coins", "own", "there"], 2, b_paying_deeds, false⟩
/-- clearing_deeds(debts, coins): 0 debts, 1 coins, 2 own, 3 there -/
abbrev b_clearing_deeds : Ss := (.cons (.asg (.t [(.v 2), (.v 3)]) (.call 6 (.cons (.var 0) (.cons (.var 1) .nil))))
  (.cons (.ret (.op (.tuple false) (.cons (.op .sub (.cons (.call 14 (.cons (.var 2) (.cons (.var 3) .nil))) (.cons (.cst (.int 2)) .nil))) .nil)))
  .nil))
abbrev d_clearing_deeds : Df := ⟨"clearing_deeds", ["debts", "coins", "own", "there"], 2, b_clearing_deeds, false⟩
/-- ring_left(debts, coins): 0 debts, 1 coins, 2 own, 3 there, 4 rings -/
abbrev b_ring_left : Ss := (.cons (.asg (.t [(.v 2), (.v 3)]) (.call 6 (.cons (.var 0) (.cons (.var 1) .nil))))
  (.cons (.asg (.v 4) (.call 10 (.cons (.op .sub (.cons (.call 13 (.cons (.var 2) (.cons (.var 3) .nil))) (.cons (.cst (.int 0)) .nil))) .nil)))
  (.cons (.ret (.ite (.op (.cmp .NotEq) (.cons (.var 4) (.cons (.op (.lst false) .nil) .nil))) (.op .sub (.cons (.var 4) (.cons (.cst (.int 0)) .nil))) (.cst .non)))
  .nil)))
abbrev d_ring_left : Df := ⟨"ring_left", ["debts", "coins", "own", "there", "rings"], 2, b_ring_left, false⟩
/-- is_clearing(debts, coins, thing): 0 debts, 1 coins, 2 thing, 3 own, 4 there, 5 got, 6 many, 7 notes, 8 other, 9 coin -/
abbrev b_is_clearing : Ss := (.cons (.asg (.t [(.v 3), (.v 4)]) (.call 6 (.cons (.var 0) (.cons (.var 1) .nil))))
  (.cons (.ifs (.or (.not (.call 3 (.cons (.var 2) .nil))) (.op (.cmp .NotEq) (.cons (.op .len (.cons (.var 2) .nil)) (.cons (.op .len (.cons (.var 3) .nil)) .nil)))) (.cons (.ret (.cst (.bl false)))
  .nil) .nil)
  (.cons (.ifs (.not (.op .all (.cons (.comp false [6, 7] (.t [(.v 6), (.v 7)]) (.zip (.cons (.var 2) (.cons (.var 3) .nil))) .nil (.chain .LtE .LtE (.cst (.int 0)) (.var 6) (.op .len (.cons (.var 7) .nil)))) .nil))) (.cons (.ret (.cst (.bl false)))
  .nil) .nil)
  (.cons (.asg (.v 5) (.op (.list true) (.cons (.var 4) .nil)))
  (.cons (.for false (.t [(.v 6), (.v 7)]) (.zip (.cons (.var 2) (.cons (.var 3) .nil))) (.cons (.for false (.v 8) (.seq (.slice (.var 7) .nil (.cons (.var 6) .nil))) (.cons (.setS (.var 5) (.var 8) (.op (.bin .Add) (.cons (.op .sub (.cons (.var 5) (.cons (.var 8) .nil))) (.cons (.cst (.int 1)) .nil))))
  .nil))
  .nil))
  (.cons (.ret (.op .all (.cons (.comp false [6, 7, 9] (.t [(.v 6), (.v 7), (.v 9)]) (.zip (.cons (.var 2) (.cons (.var 3) (.cons (.var 5) .nil)))) .nil (.op (.cmp .Eq) (.cons (.var 6) (.cons (.op .min2 (.cons (.op .len (.cons (.var 7) .nil)) (.cons (.var 9) .nil))) .nil)))) .nil)))
  .nil))))))
abbrev d_is_clearing : Df := ⟨"is_clearing", ["debts", "coins", "thing", "own", "there", "got", "many", "notes", "other", "coin"], 3, b_is_clearing, true⟩
/-- coin_road(debts, coins, member): 0 debts, 1 coins, 2 member, 3 own, 4 there, 5 left, 6 _, 7 road, 8 here -/
abbrev b_coin_road : Ss := (.cons (.asg (.t [(.v 3), (.v 4)]) (.call 6 (.cons (.var 0) (.cons (.var 1) .nil))))
  (.cons (.ifs (.not (.call 0 (.cons (.var 2) .nil))) (.cons .never
  .nil) .nil)
  (.cons (.ifs (.not (.chain .LtE .Lt (.cst (.int 0)) (.var 2) (.op .len (.cons (.var 3) .nil)))) (.cons .never
  .nil) .nil)
  (.cons (.asg (.t [(.v 5), (.v 6), (.v 6)]) (.call 13 (.cons (.var 3) (.cons (.var 4) .nil))))
  (.cons (.asg (.v 7) (.op (.lst true) (.cons (.var 2) .nil)))
  (.cons (.whl false (.op (.cmp .NotEq) (.cons (.op .sub (.cons (.var 5) (.cons (.op .sub (.cons (.var 7) (.cons (.op .neg (.cons (.cst (.int 1)) .nil)) .nil))) .nil))) (.cons (.op .tup .nil) .nil))) (.cons (.asg (.v 8) (.op .sub (.cons (.var 7) (.cons (.op .neg (.cons (.cst (.int 1)) .nil)) .nil))))
  (.cons (.ex (.meth .append (.var 7) (.cons (.op .sub (.cons (.op .sub (.cons (.var 5) (.cons (.var 8) .nil))) (.cons (.cst (.int 0)) .nil))) .nil)))
  (.cons (.asg (.v 5) (.op (.bin .Add) (.cons (.op (.bin .Add) (.cons (.slice (.var 5) .nil (.cons (.var 8) .nil)) (.cons (.op .tup (.cons (.slice (.op .sub (.cons (.var 5) (.cons (.var 8) .nil))) (.cons (.cst (.int 1)) .nil) .nil) .nil)) .nil))) (.cons (.slice (.var 5) (.cons (.op (.bin .Add) (.cons (.var 8) (.cons (.cst (.int 1)) .nil))) .nil) .nil) .nil))))
  .nil))))
  (.cons (.ret (.op (.tuple true) (.cons (.var 7) .nil)))
  .nil)))))))
abbrev d_coin_road : Df := ⟨"coin_road", ["debts", "coins", "member", "own", "there", "left", "_", "road", "here"], 3, b_coin_road, true⟩
/-- _law_box(script, k): 0 script, 1 k, 2 bit_so -/
abbrev b_law_box : Ss := (.cons (.asg (.v 2) (.ite (.op (.cmp .Lt) (.cons (.var 1) (.cons (.op .len (.cons (.var 0) .nil)) .nil))) (.op .sub (.cons (.var 0) (.cons (.var 1) .nil))) (.cst (.int 0))))
  (.cons (.ret (.op (.lst true) (.cons (.op (.bin .Mult) (.cons (.op .abs (.cons (.var 2) .nil)) (.cons (.op .int (.cons (.op (.cmp .GtE) (.cons (.op .abs (.cons (.var 2) .nil)) (.cons (.op (.bin .Pow) (.cons (.cst (.int 10)) (.cons (.cst (.int 18)) .nil))) .nil))) .nil)) .nil))) (.cons (.op (.bin .Add) (.cons (.op (.bin .Add) (.cons (.op (.bin .Mod) (.cons (.op .int (.cons (.var 2) .nil)) (.cons (.cst (.int 2305843009213693951)) .nil))) (.cons (.op (.bin .Mult) (.cons (.cst (.int 39373)) (.cons (.var 1) .nil))) .nil))) (.cons (.cst (.int 6010068)) .nil))) (.cons (.cst (.int 0)) .nil)))))
  .nil))
abbrev d_law_box : Df := ⟨"_law_box", ["script", "k", "bit_so"], 2, b_law_box, false⟩
/-- _law_take(tin, below_so): 0 tin, 1 below_so, 2 drawn_so, 3 once_so, 4 wide_so, 5 twice_so -/
abbrev b_law_take : Ss := (.cons (.ifs (.op (.cmp .Gt) (.cons (.op .sub (.cons (.var 0) (.cons (.cst (.int 0)) .nil))) (.cons (.cst (.int 0)) .nil))) (.cons (.asg (.v 2) (.op (.bin .Mod) (.cons (.op .int (.cons (.op .sub (.cons (.var 0) (.cons (.cst (.int 0)) .nil))) .nil)) (.cons (.var 1) .nil))))
  (.cons (.setS (.var 0) (.cst (.int 0)) (.op (.bin .FloorDiv) (.cons (.op .sub (.cons (.var 0) (.cons (.cst (.int 0)) .nil))) (.cons (.var 1) .nil))))
  (.cons (.ret (.var 2))
  .nil))) .nil)
  (.cons (.setS (.var 0) (.cst (.int 2)) (.op (.bin .Add) (.cons (.op .sub (.cons (.var 0) (.cons (.cst (.int 2)) .nil))) (.cons (.cst (.int 1)) .nil))))
  (.cons (.asg (.v 3) (.op (.bin .Mod) (.cons (.op .int (.cons (.op (.bin .Mult) (.cons (.op (.bin .Add) (.cons (.op .sub (.cons (.var 0) (.cons (.cst (.int 1)) .nil))) (.cons (.op (.bin .Mult) (.cons (.cst (.int 48271)) (.cons (.op .sub (.cons (.var 0) (.cons (.cst (.int 2)) .nil))) .nil))) .nil))) (.cons (.op (.bin .Add) (.cons (.cst (.int 39373)) (.cons (.op .sub (.cons (.var 0) (.cons (.cst (.int 2)) .nil))) .nil))) .nil))) .nil)) (.cons (.cst (.int 2147483647)) .nil))))
  (.cons (.asg (.v 4) (.op (.bin .Add) (.cons (.op (.bin .Mod) (.cons (.op .int (.cons (.var 3) .nil)) (.cons (.cst (.int 40009)) .nil))) (.cons (.cst (.int 7)) .nil))))
  (.cons (.asg (.v 5) (.op (.bin .Mod) (.cons (.op .int (.cons (.op (.bin .Mult) (.cons (.op (.bin .Add) (.cons (.op (.bin .Add) (.cons (.var 3) (.cons (.op .sub (.cons (.var 0) (.cons (.cst (.int 2)) .nil))) .nil))) (.cons (.op (.bin .FloorDiv) (.cons (.op .sub (.cons (.var 0) (.cons (.cst (.int 1)) .nil))) (.cons (.cst (.int 1000003)) .nil))) .nil))) (.cons (.var 4) .nil))) .nil)) (.cons (.cst (.int 2147483629)) .nil))))
  (.cons (.ret (.op (.bin .Mod) (.cons (.op .int (.cons (.op (.bin .FloorDiv) (.cons (.op (.bin .Mod) (.cons (.op .int (.cons (.op (.bin .Add) (.cons (.op (.bin .Mult) (.cons (.var 5) (.cons (.cst (.int 48271)) .nil))) (.cons (.var 3) .nil))) .nil)) (.cons (.cst (.int 2147483587)) .nil))) (.cons (.cst (.int 64)) .nil))) .nil)) (.cons (.var 1) .nil))))
  .nil))))))
abbrev d_law_take : Df := ⟨"_law_take", ["tin", "below_so", "drawn_so", "once_so", "wide_so", "twice_so"], 2, b_law_take, false⟩
/-- _law_cells(script, most_so): 0 script, 1 most_so, 2 cells_so, 3 k, 4 bit_so, 5 at_so -/
abbrev b_law_cells : Ss := (.cons (.asg (.v 2) (.or (.op (.list true) (.cons (.slice (.var 0) .nil (.cons (.var 1) .nil)) .nil)) (.op (.lst true) (.cons (.cst (.int 0)) .nil))))
  (.cons (.for false (.t [(.v 3), (.v 4)]) (.enum (.slice (.var 0) (.cons (.var 1) .nil) (.cons (.cst (.int 63)) .nil))) (.cons (.asg (.v 5) (.op (.bin .Mod) (.cons (.op .int (.cons (.var 3) .nil)) (.cons (.var 1) .nil))))
  (.cons (.setS (.var 2) (.var 5) (.op (.bin .Add) (.cons (.op .sub (.cons (.var 2) (.cons (.var 5) .nil))) (.cons (.op (.bin .Mult) (.cons (.var 4) (.cons (.op (.bin .Add) (.cons (.var 3) (.cons (.cst (.int 2)) .nil))) .nil))) .nil))))
  .nil)))
  (.cons (.ret (.var 2))
  .nil)))
abbrev d_law_cells : Df := ⟨"_law_cells", ["script", "most_so", "cells_so", "k", "bit_so", "at_so"], 2, b_law_cells, true⟩
/-- _law_of(tin, goods_so): 0 tin, 1 goods_so -/
abbrev b_law_of : Ss := (.cons (.ret (.op .sub (.cons (.var 1) (.cons (.call 29 (.cons (.var 0) (.cons (.op .len (.cons (.var 1) .nil)) .nil))) .nil))))
  .nil)
abbrev d_law_of : Df := ⟨"_law_of", ["tin", "goods_so"], 2, b_law_of, false⟩
/-- _law_pick(tin, goods_so, count_so): 0 tin, 1 goods_so, 2 count_so, 3 pool_so, 4 found, 5 lap -/
abbrev b_law_pick : Ss := (.cons (.par [3, 4] (.cons (.op (.list true) (.cons (.var 1) .nil)) (.cons (.op (.lst true) .nil) .nil)))
  (.cons (.for false (.v 5) (.range (.cons (.op .min2 (.cons (.op .int (.cons (.var 2) .nil)) (.cons (.op .len (.cons (.var 3) .nil)) .nil))) .nil)) (.cons (.ex (.meth .append (.var 4) (.cons (.meth .popi (.var 3) (.cons (.call 29 (.cons (.var 0) (.cons (.op .len (.cons (.var 3) .nil)) .nil))) .nil)) .nil)))
  .nil))
  (.cons (.ret (.var 4))
  .nil)))
abbrev d_law_pick : Df := ⟨"_law_pick", ["tin", "goods_so", "count_so", "pool_so", "found", "lap"], 3, b_law_pick, true⟩
/-- _law_lists(matter): 0 matter, 1 bit -/
abbrev b_law_lists : Ss := (.cons (.ret (.ite (.op (.isi ["list", "tuple"]) (.cons (.var 0) .nil)) (.comp false [1] (.v 1) (.seq (.var 0)) .nil (.call 33 (.cons (.var 1) .nil))) (.var 0)))
  .nil)
abbrev d_law_lists : Df := ⟨"_law_lists", ["matter", "bit"], 1, b_law_lists, false⟩
/-- _law_debts(tin, many_so): 0 tin, 1 many_so, 2 found, 3 k, 4 others_so, 5 own, 6 lap -/
abbrev b_law_debts : Ss := (.cons (.asg (.v 2) (.op (.lst true) .nil))
  (.cons (.for false (.v 3) (.range (.cons (.var 1) .nil)) (.cons (.asg (.v 4) (.comp false [5] (.v 5) (.range (.cons (.var 1) .nil)) (.cons (.op (.cmp .NotEq) (.cons (.var 5) (.cons (.var 3) .nil))) .nil) (.var 5)))
  (.cons (.ex (.meth .append (.var 2) (.cons (.op (.tuple true) (.cons (.comp false [6] (.v 6) (.range (.cons (.call 29 (.cons (.var 0) (.cons (.cst (.int 4)) .nil))) .nil)) .nil (.call 31 (.cons (.var 0) (.cons (.var 4) .nil)))) .nil)) .nil)))
  .nil)))
  (.cons (.ret (.op .tup (.cons (.op (.tuple false) (.cons (.var 2) .nil)) (.cons (.op (.tuple false) (.cons (.comp false [3] (.v 3) (.range (.cons (.var 1) .nil)) .nil (.call 31 (.cons (.var 0) (.cons (.op (.lst false) (.cons (.cst (.int 0)) (.cons (.cst (.int 0)) (.cons (.cst (.int 1)) (.cons (.cst (.int 2)) .nil))))) .nil)))) .nil)) .nil))))
  .nil)))
abbrev d_law_debts : Df := ⟨"_law_debts", ["tin", "many_so", "found", "k", "others_so", "own", "lap"], 2, b_law_debts, true⟩
/-- _law_counts(many_so, debts_so): 0 many_so, 1 debts_so, 2 found, 3 own, 4 later_so, 5 its, 6 k -/
abbrev b_law_counts : Ss := (.cons (.asg (.v 2) (.op (.lst false) (.cons (.op .tup .nil) .nil)))
  (.cons (.for true (.v 3) (.seq (.var 1)) (.cons (.asg (.v 4) (.op (.lst true) .nil))
  (.cons (.for false (.v 5) (.seq (.var 2)) (.cons (.ex (.meth .extend (.var 4) (.cons (.comp false [6] (.v 6) (.range (.cons (.op (.bin .Add) (.cons (.op .len (.cons (.var 3) .nil)) (.cons (.cst (.int 1)) .nil))) .nil)) .nil (.op (.bin .Add) (.cons (.var 5) (.cons (.op .tup (.cons (.var 6) .nil)) .nil)))) .nil)))
  .nil))
  (.cons (.asg (.v 2) (.var 4))
  .nil))))
  (.cons (.ret (.var 2))
  .nil)))
abbrev d_law_counts : Df := ⟨"_law_counts", ["many_so", "debts_so", "found", "own", "later_so", "its", "k"], 2, b_law_counts, true⟩
/-- _law_is_clearing(debts_so, coins_so, counts_so): 0 debts_so, 1 coins_so, 2 counts_so, 3 k, 4 own, 5 got_so, 6 j, 7 row_so -/
abbrev b_law_is_clearing : Ss := (.cons (.for false (.t [(.v 3), (.v 4)]) (.enum (.var 0)) (.cons (.asg (.v 5) (.op .sub (.cons (.var 1) (.cons (.var 3) .nil))))
  (.cons (.for false (.t [(.v 6), (.v 7)]) (.enum (.var 0)) (.cons (.asg (.v 5) (.op (.bin .Add) (.cons (.var 5) (.cons (.meth .count (.slice (.var 7) .nil (.cons (.op .sub (.cons (.var 2) (.cons (.var 6) .nil))) .nil)) (.cons (.var 3) .nil)) .nil))))
  .nil))
  (.cons (.ifs (.op (.cmp .NotEq) (.cons (.op .sub (.cons (.var 2) (.cons (.var 3) .nil))) (.cons (.op .min2 (.cons (.op .len (.cons (.var 4) .nil)) (.cons (.var 5) .nil))) .nil))) (.cons (.ret (.cst (.bl false)))
  .nil) .nil)
  .nil))))
  (.cons (.ret (.cst (.bl true)))
  .nil))
abbrev d_law_is_clearing : Df := ⟨"_law_is_clearing", ["debts_so", "coins_so", "counts_so", "k", "own", "got_so", "j", "row_so"], 3, b_law_is_clearing, false⟩
/-- law(script): 0 script, 1 tin, 2 many_so, 3 debts_so, 4 coins_so, 5 paid_so, 6 cleared_so, 7 words_so, 8 end_so, 9 lap, 10 here, 11 goods_so, 12 least_so, 13 most_so, 14 own, 15 pays_so, 16 clears_so, 17 k, 18 road_so, 19 more_so, 20 wide_so, 21 paids_so, 22 j, 23 a, 24 b, 25 c -/
abbrev b_law : Ss := (.cons (.asg (.v 1) (.call 28 (.cons (.call 30 (.cons (.var 0) (.cons (.cst (.int 1)) .nil))) (.cons (.cst (.int 0)) .nil))))
  (.cons (.asg (.v 2) (.op (.bin .Add) (.cons (.cst (.int 2)) (.cons (.call 29 (.cons (.var 1) (.cons (.cst (.int 3)) .nil))) .nil))))
  (.cons (.asg (.t [(.v 3), (.v 4)]) (.call 34 (.cons (.var 1) (.cons (.var 2) .nil))))
  (.cons (.par [5, 6] (.cons (.call 19 (.cons (.call 33 (.cons (.var 3) .nil)) (.cons (.op (.list false) (.cons (.var 4) .nil)) .nil))) (.cons (.call 20 (.cons (.var 3) (.cons (.var 4) .nil))) .nil)))
  (.cons (.for false (.t [(.v 7), (.v 8)]) (.seq (.op .tup (.cons (.op .tup (.cons (.op .tup (.cons (.cst (.str "pay")) .nil)) (.cons (.var 5) .nil))) (.cons (.op .tup (.cons (.op .tup (.cons (.cst (.str "pay")) (.cons (.cst (.str "ring")) .nil))) (.cons (.var 6) .nil))) .nil)))) (.cons (.for false (.v 9) (.range (.cons (.cst (.int 3)) .nil)) (.cons (.asg (.v 10) (.op .tup (.cons (.var 3) (.cons (.var 4) .nil))))
  (.cons (.asg (.v 11) (.comp false [14] (.v 14) (.seq (.call 16 (.cons (.op .sub (.cons (.var 10) (.cons (.cst (.int 0)) .nil))) (.cons (.op .sub (.cons (.var 10) (.cons (.cst (.int 1)) .nil))) .nil)))) (.cons (.op (.cmp .In) (.cons (.op .sub (.cons (.var 14) (.cons (.cst (.int 0)) .nil))) (.cons (.var 7) .nil))) .nil) (.var 14)))
  (.cons (.whl false (.op (.cmp .NotEq) (.cons (.var 11) (.cons (.op (.lst false) .nil) .nil))) (.cons (.asg (.v 10) (.call 17 (.cons (.op .sub (.cons (.var 10) (.cons (.cst (.int 0)) .nil))) (.cons (.op .sub (.cons (.var 10) (.cons (.cst (.int 1)) .nil))) (.cons (.call 31 (.cons (.var 1) (.cons (.var 11) .nil))) .nil)))))
  (.cons (.asg (.v 11) (.comp false [14] (.v 14) (.seq (.call 16 (.cons (.op .sub (.cons (.var 10) (.cons (.cst (.int 0)) .nil))) (.cons (.op .sub (.cons (.var 10) (.cons (.cst (.int 1)) .nil))) .nil)))) (.cons (.op (.cmp .In) (.cons (.op .sub (.cons (.var 14) (.cons (.cst (.int 0)) .nil))) (.cons (.var 7) .nil))) .nil) (.var 14)))
  .nil)))
  (.cons (.ifs (.or (.op (.cmp .NotEq) (.cons (.var 10) (.cons (.var 8) .nil))) (.op (.cmp .NotEq) (.cons (.op .sum (.cons (.op .sub (.cons (.var 10) (.cons (.cst (.int 1)) .nil))) .nil)) (.cons (.op .sum (.cons (.var 4) .nil)) .nil)))) (.cons (.ret (.cst (.bl false)))
  .nil) .nil)
  .nil)))))
  .nil))
  (.cons (.asg (.t [(.v 12), (.v 13)]) (.op .tup (.cons (.call 21 (.cons (.var 3) (.cons (.var 4) .nil))) (.cons (.call 22 (.cons (.var 3) (.cons (.var 4) .nil))) .nil))))
  (.cons (.asg (.v 11) (.comp false [14] (.v 14) (.seq (.call 35 (.cons (.var 2) (.cons (.var 3) .nil)))) (.cons (.call 36 (.cons (.var 3) (.cons (.var 4) (.cons (.var 14) .nil)))) .nil) (.var 14)))
  (.cons (.ifs (.or (.op (.cmp .NotEq) (.cons (.var 12) (.cons (.op (.tuple false) (.cons (.comp false [23, 24] (.t [(.v 23), (.v 24)]) (.zip (.cons (.var 3) (.cons (.op .sub (.cons (.var 5) (.cons (.cst (.int 0)) .nil))) .nil))) .nil (.op (.bin .Sub) (.cons (.op .len (.cons (.var 23) .nil)) (.cons (.op .len (.cons (.var 24) .nil)) .nil)))) .nil)) .nil))) (.op (.cmp .NotEq) (.cons (.var 13) (.cons (.op (.tuple false) (.cons (.comp false [23, 24] (.t [(.v 23), (.v 24)]) (.zip (.cons (.var 3) (.cons (.op .sub (.cons (.var 6) (.cons (.cst (.int 0)) .nil))) .nil))) .nil (.op (.bin .Sub) (.cons (.op .len (.cons (.var 23) .nil)) (.cons (.op .len (.cons (.var 24) .nil)) .nil)))) .nil)) .nil)))) (.cons (.ret (.cst (.bl false)))
  .nil) .nil)
  (.cons (.ifs (.or (.op (.cmp .NotIn) (.cons (.var 12) (.cons (.var 11) .nil))) (.or (.op (.cmp .NotIn) (.cons (.var 13) (.cons (.var 11) .nil))) (.op (.cmp .NotEq) (.cons (.comp false [14] (.v 14) (.seq (.var 11)) (.cons (.op (.cmp .NotEq) (.cons (.comp false [23, 24, 25] (.t [(.v 23), (.v 24), (.v 25)]) (.zip (.cons (.var 12) (.cons (.var 14) (.cons (.var 13) .nil)))) (.cons (.not (.chain .LtE .LtE (.var 23) (.var 24) (.var 25))) .nil) (.cst (.int 1))) (.cons (.op (.lst false) .nil) .nil))) .nil) (.var 14)) (.cons (.op (.lst false) .nil) .nil))))) (.cons (.ret (.cst (.bl false)))
  .nil) .nil)
  (.cons (.for false (.v 14) (.seq (.call 32 (.cons (.var 1) (.cons (.call 35 (.cons (.var 2) (.cons (.var 3) .nil))) (.cons (.cst (.int 12)) .nil))))) (.cons (.ifs (.op (.cmp .NotEq) (.cons (.call 26 (.cons (.var 3) (.cons (.var 4) (.cons (.var 14) .nil)))) (.cons (.op (.cmp .In) (.cons (.var 14) (.cons (.var 11) .nil))) .nil))) (.cons (.ret (.cst (.bl false)))
  .nil) .nil)
  .nil))
  (.cons (.for false (.v 14) (.seq (.call 32 (.cons (.var 1) (.cons (.var 11) (.cons (.cst (.int 3)) .nil))))) (.cons (.ifs (.not (.call 26 (.cons (.var 3) (.cons (.var 4) (.cons (.var 14) .nil))))) (.cons (.ret (.cst (.bl false)))
  .nil) .nil)
  .nil))
  (.cons (.par [15, 16] (.cons (.call 23 (.cons (.var 3) (.cons (.var 4) .nil))) (.cons (.call 24 (.cons (.var 3) (.cons (.var 4) .nil))) .nil)))
  (.cons (.ifs (.or (.op (.cmp .NotEq) (.cons (.call 18 (.cons (.var 3) (.cons (.var 4) (.cons (.var 15) .nil)))) (.cons (.var 5) .nil))) (.op (.cmp .NotEq) (.cons (.comp false [14] (.v 14) (.seq (.var 15)) (.cons (.op (.cmp .NotEq) (.cons (.op .sub (.cons (.var 14) (.cons (.cst (.int 0)) .nil))) (.cons (.cst (.str "pay")) .nil))) .nil) (.var 14)) (.cons (.op (.lst false) .nil) .nil)))) (.cons (.ret (.cst (.bl false)))
  .nil) .nil)
  (.cons (.ifs (.or (.op (.cmp .NotEq) (.cons (.call 18 (.cons (.var 3) (.cons (.var 4) (.cons (.var 16) .nil)))) (.cons (.var 6) .nil))) (.op (.cmp .NotEq) (.cons (.op (.cmp .Is) (.cons (.call 25 (.cons (.var 3) (.cons (.var 4) .nil))) (.cons (.cst .non) .nil))) (.cons (.op (.cmp .Eq) (.cons (.var 5) (.cons (.var 6) .nil))) .nil)))) (.cons (.ret (.cst (.bl false)))
  .nil) .nil)
  (.cons (.asg (.v 17) (.call 29 (.cons (.var 1) (.cons (.var 2) .nil))))
  (.cons (.asg (.v 18) (.call 27 (.cons (.var 3) (.cons (.var 4) (.cons (.var 17) .nil)))))
  (.cons (.asg (.v 19) (.op (.bin .Add) (.cons (.op (.bin .Add) (.cons (.slice (.var 4) .nil (.cons (.var 17) .nil)) (.cons (.op .tup (.cons (.op (.bin .Add) (.cons (.op .sub (.cons (.var 4) (.cons (.var 17) .nil))) (.cons (.cst (.int 1)) .nil))) .nil)) .nil))) (.cons (.slice (.var 4) (.cons (.op (.bin .Add) (.cons (.var 17) (.cons (.cst (.int 1)) .nil))) .nil) .nil) .nil))))
  (.cons (.asg (.v 20) (.call 19 (.cons (.var 3) (.cons (.var 19) .nil))))
  (.cons (.ifs (.or (.op (.cmp .NotEq) (.cons (.op .sub (.cons (.var 18) (.cons (.cst (.int 0)) .nil))) (.cons (.var 17) .nil))) (.or (.op (.cmp .NotEq) (.cons (.op .sum (.cons (.op .sub (.cons (.var 20) (.cons (.cst (.int 1)) .nil))) .nil)) (.cons (.op (.bin .Add) (.cons (.op .sum (.cons (.op .sub (.cons (.var 5) (.cons (.cst (.int 1)) .nil))) .nil)) (.cons (.cst (.int 1)) .nil))) .nil))) (.op (.cmp .NotEq) (.cons (.comp false [23, 24] (.t [(.v 23), (.v 24)]) (.zip (.cons (.call 21 (.cons (.var 3) (.cons (.var 19) .nil))) (.cons (.var 12) .nil))) (.cons (.op (.cmp .Lt) (.cons (.var 23) (.cons (.var 24) .nil))) .nil) (.cst (.int 1))) (.cons (.op (.lst false) .nil) .nil))))) (.cons (.ret (.cst (.bl false)))
  .nil) .nil)
  (.cons (.asg (.v 21) (.comp false [22] (.v 22) (.range (.cons (.var 2) .nil)) .nil (.meth .count (.slice (.var 18) .nil (.cons (.op .neg (.cons (.cst (.int 1)) .nil)) .nil)) (.cons (.var 22) .nil))))
  (.cons (.ret (.and (.op (.cmp .Eq) (.cons (.comp false [23, 24] (.t [(.v 23), (.v 24)]) (.zip (.cons (.call 21 (.cons (.var 3) (.cons (.var 19) .nil))) (.cons (.var 12) .nil))) .nil (.op (.bin .Sub) (.cons (.var 23) (.cons (.var 24) .nil)))) (.cons (.var 21) .nil))) (.op (.cmp .Eq) (.cons (.op .sub (.cons (.var 20) (.cons (.cst (.int 1)) .nil))) (.cons (.op (.tuple false) (.cons (.comp false [22, 14] (.t [(.v 22), (.v 14)]) (.enum (.op .sub (.cons (.var 5) (.cons (.cst (.int 1)) .nil)))) .nil (.op (.bin .Add) (.cons (.var 14) (.cons (.op .int (.cons (.op (.cmp .Eq) (.cons (.var 22) (.cons (.op .sub (.cons (.var 18) (.cons (.op .neg (.cons (.cst (.int 1)) .nil)) .nil))) .nil))) .nil)) .nil)))) .nil)) .nil)))))
  .nil)))))))))))))))))))))
abbrev d_law : Df := ⟨"law", ["script", "tin", "many_so", "debts_so", "coins_so", "paid_so", "cleared_so", "words_so", "end_so", "lap", "here", "goods_so", "least_so", "most_so", "own", "pays_so", "clears_so", "k", "road_so", "more_so", "wide_so", "paids_so", "j", "a", "b", "c"], 1, b_law, false⟩
def Tb0 : List Df := [d_is_number, d_is_long, d_tupled, d_are_numbers, d_is_debts_in, d_sure_debts, d_sure_owing, d_is_like_deed, d_sure_deeds, d_payers_in, d_rings_in, d_deeds_in, d_done_in, d_paid_in, d_cleared_in, d_gone_of, d_debt_deeds, d_debt_done, d_debts_behind, d_all_paid, d_all_cleared, d_notes_paid, d_notes_cleared, d_paying_deeds, d_clearing_deeds, d_ring_left, d_is_clearing, d_coin_road, d_law_box, d_law_take, d_law_cells, d_law_of]
def Tb1 : List Df := [d_law_pick, d_law_lists, d_law_debts, d_law_counts, d_law_is_clearing, d_law]
def Tb : List Df := Tb0 ++ Tb1
def gl : List (Str × D) := [("PAY", .str "pay"), ("RING", .str "ring")]
end T68
end
section
set_option Elab.async false
set_option linter.all false
set_option autoImplicit false
set_option maxHeartbeats 4000000
set_option maxRecDepth 10000
namespace T68
open PySem Ro

/-! ## plain.py -/
mutual
def tupD : D → D
  | .tup xs => .tup (tupL xs)
  | .lst xs => .tup (tupL xs)
  | .kt _ xs => .tup (tupL xs)
  | .kl xs => .tup (tupL xs)
  | .non => .non
  | .bl b => .bl b
  | .int i => .int i
  | .str s => .str s
  | .loc n => .loc n
  | .dk a b => .dk a b
  | .dt a b => .dt a b
def tupL : List D → List D
  | [] => []
  | d :: ds => tupD d :: tupL ds
end
mutual
/-- ints, texts, lists and tuples of these, at most n deep -/
def dep : Nat → D → Bool
  | _, .int _ => true
  | _, .str _ => true
  | n + 1, .tup xs => depL n xs
  | n + 1, .lst xs => depL n xs
  | n + 1, .kt _ xs => depL n xs
  | n + 1, .kl xs => depL n xs
  | _, _ => false
def depL : Nat → List D → Bool
  | _, [] => true
  | n, d :: ds => dep n d && depL n ds
end
theorem tupL_map : ∀ xs : List D, tupL xs = xs.map tupD
  | [] => rfl
  | x :: xs => by rw [tupL, tupL_map xs]; rfl
theorem depL_all {n : Nat} : ∀ {xs : List D}, depL n xs = true → ∀ x ∈ xs, dep n x = true
  | [], _, x, h => by cases h
  | d :: ds, h, x, hx => by
    simp only [depL, Bool.and_eq_true] at h
    rcases List.mem_cons.mp hx with rfl | hx
    · exact h.1
    · exact depL_all h.2 x hx
theorem f_tupled {n : Nat} {st : Sto} : ∀ (k : Nat) (d : D), dep k d = true → callN Tb (n + k + 1) 2 [d] st = some (tupD d, st) := by
  intro k
  induction k with
  | zero =>
    intro d h
    rw [callN_at (d := d_tupled) rfl]
    cases d <;> simp only [dep, Bool.false_eq_true] at h
    · refine run_ret rfl ?_ fin_no
      simp [tupD]
    · refine run_ret rfl ?_ fin_no
      simp [tupD]
  | succ k ih =>
    intro d h
    rw [callN_at (n := n + (k + 1)) (d := d_tupled) rfl]
    have go : ∀ (xs : List D), depL k xs = true → rdL st d = some (xs, []) → tupD d = .tup (tupL xs) → tyOf st d = some "tuple" ∨ tyOf st d = some "list" → runDef (callN Tb (n + (k + 1))) d_tupled [d] st = some (tupD d, st) := by
      intro xs hx hr ht hy
      refine run_ret rfl ?_ fin_no
      have hc := w_compM (C := callN Tb (n + (k + 1))) (ρ := [some d, none]) (st := st) (own := [1]) (t := .v 1) (it := .seq (.var 0)) (ifs := .nil) (e := .call 2 (.cons (.var 1) .nil)) (xs := xs) (ns := []) (st1 := st) (g := tupD) (by simp [hr]) (by
        intro x hm
        have := ih x (depL_all hx x hm)
        rw [show n + k + 1 = n + (k + 1) by omega] at this
        simp [tn, testD, this])
      rcases hy with hy | hy <;> simp [hy, hc, ht, tupL_map]
    cases d <;> simp only [dep, Bool.false_eq_true] at h
    · refine run_ret rfl ?_ fin_no
      simp [tupD]
    · refine run_ret rfl ?_ fin_no
      simp [tupD]
    · exact go _ h rfl rfl (.inl rfl)
    · exact go _ h rfl rfl (.inr rfl)
    · exact go _ h rfl rfl (.inl rfl)
    · exact go _ h rfl rfl (.inr rfl)
theorem f_is_number {n : Nat} {i : Int} {st : Sto} : callN Tb (n + 1) 0 [.int i] st = some (.bl true, st) := by
  rw [callN_at (d := d_is_number) rfl]
  refine run_ret rfl ?_ fin_no
  simp
theorem f_is_long {n : Nat} {xs : List D} {l : Nat} {st : Sto} : callN Tb (n + 1) 1 [.tup xs, .int l] st = some (.bl (decide (xs.length = l)), st) := by
  rw [callN_at (d := d_is_long) rfl]
  refine run_ret rfl ?_ fin_no
  simp
  rw [Bool.eq_iff_iff]
  simp [Int.ofNat_inj]
end T68
end
section
set_option autoImplicit false
set_option linter.all false
namespace M68
/-! ## Notes paid in any order: the plain law -/
structure Sys where
  N : Nat
  r : Nat → List Nat
  c : Nat → Nat
abbrev Vec := Nat → Nat
def sumN (N : Nat) (f : Nat → Nat) : Nat := ((List.range N).map f).sum
theorem sumN_succ {N : Nat} {f : Nat → Nat} : sumN (N + 1) f = sumN N f + f N := by
  unfold sumN
  rw [List.range_succ, List.map_append, List.sum_append]
  simp
theorem sumN_le {f g : Nat → Nat} : ∀ {N : Nat}, (∀ m, m < N → f m ≤ g m) → sumN N f ≤ sumN N g
  | 0, _ => by simp [sumN]
  | N + 1, h => by
    rw [sumN_succ, sumN_succ]
    have := sumN_le (N := N) fun m hm => h m (by omega)
    have := h N (by omega)
    omega
theorem sumN_eq {f g : Nat → Nat} : ∀ {N : Nat}, (∀ m, m < N → f m = g m) → sumN N f = sumN N g
  | 0, _ => by simp [sumN]
  | N + 1, h => by
    rw [sumN_succ, sumN_succ, sumN_eq (N := N) fun m hm => h m (by omega), h N (by omega)]
theorem sumN_add {f g : Nat → Nat} : ∀ {N : Nat}, sumN N (fun m => f m + g m) = sumN N f + sumN N g
  | 0 => by simp [sumN]
  | N + 1 => by
    rw [sumN_succ, sumN_succ, sumN_succ, sumN_add]
    omega
theorem sumN_zero : ∀ {N : Nat}, sumN N (fun _ => 0) = 0
  | 0 => by simp [sumN]
  | N + 1 => by rw [sumN_succ, sumN_zero]
theorem sumN_one {a N : Nat} (v : Nat) (h : a < N) : sumN N (fun m => if m = a then v else 0) = v := by
  induction N with
  | zero => omega
  | succ N ih =>
    rw [sumN_succ]
    by_cases e : a = N
    · subst e
      have : sumN a (fun m => if m = a then v else 0) = 0 := by
        rw [sumN_eq (g := fun _ => 0) (fun m hm => by rw [if_neg (by omega)]), sumN_zero]
      rw [this, if_pos rfl]
      omega
    · rw [ih (by omega), if_neg (fun h => e h.symm), Nat.add_zero]
/-- order of sums: a strict place makes it strict -/
theorem sumN_lt {f g : Nat → Nat} {N a : Nat} (h : ∀ m, m < N → f m ≤ g m) (ha : a < N) (hl : f a < g a) : sumN N f < sumN N g := by
  induction N with
  | zero => omega
  | succ N ih =>
    rw [sumN_succ, sumN_succ]
    by_cases e : a = N
    · subst e
      have := sumN_le (N := a) fun m hm => h m (by omega)
      omega
    · have := ih (fun m hm => h m (by omega)) (by omega)
      have := h N (by omega)
      omega
theorem sumN_swap {f : Nat → Nat → Nat} {M : Nat} : ∀ {N : Nat}, sumN N (fun m => sumN M (f m)) = sumN M fun j => sumN N fun m => f m j
  | 0 => by
    rw [show (fun j => sumN 0 fun m => f m j) = fun _ => 0 from funext fun j => by simp [sumN], sumN_zero]
    simp [sumN]
  | N + 1 => by
    rw [sumN_succ, sumN_swap (N := N), ← sumN_add]
    exact sumN_eq fun j _ => sumN_succ.symm
variable {S : Sys}
def ok (S : Sys) : Prop := ∀ m, m < S.N → ∀ o ∈ S.r m, o < S.N ∧ o ≠ m
def recv (S : Sys) (u : Vec) (m : Nat) : Nat := sumN S.N fun j => ((S.r j).take (u j)).count m
def F (S : Sys) (u : Vec) (m : Nat) : Nat := min (S.r m).length (S.c m + recv S u m)
def Le (S : Sys) (u v : Vec) : Prop := ∀ m, m < S.N → u m ≤ v m
def Clear (S : Sys) (u : Vec) : Prop := ∀ m, m < S.N → u m = F S u m
def Fea (S : Sys) (u : Vec) : Prop := ∀ m, m < S.N → u m ≤ F S u m
/-- the notes left, the coins there -/
def R (S : Sys) (u : Vec) (m : Nat) : List Nat := (S.r m).drop (u m)
def Cn (S : Sys) (u : Vec) (m : Nat) : Nat := S.c m + recv S u m - u m
def payer (S : Sys) (u : Vec) (m : Nat) : Prop := R S u m ≠ [] ∧ 0 < Cn S u m
def noPay (S : Sys) (u : Vec) : Prop := ∀ m, m < S.N → ¬ payer S u m
theorem count_take_mono {l : List Nat} {a b m : Nat} (h : a ≤ b) : (l.take a).count m ≤ (l.take b).count m := by
  refine List.Sublist.count_le _ ?_
  rw [show l.take a = (l.take b).take a by rw [List.take_take, Nat.min_eq_left h]]
  exact List.take_sublist _ _
theorem recv_mono {u v : Vec} (h : Le S u v) (m : Nat) : recv S u m ≤ recv S v m := sumN_le fun j hj => count_take_mono (h j hj)
theorem F_mono {u v : Vec} (h : Le S u v) (m : Nat) : F S u m ≤ F S v m := by
  unfold F
  have := recv_mono h m
  omega
theorem payer_iff {u : Vec} {m : Nat} : payer S u m ↔ u m < F S u m := by
  unfold payer R Cn F
  rw [ne_eq, List.drop_eq_nil_iff]
  omega
theorem noPay_clear {u : Vec} (f : Fea S u) (n : noPay S u) : Clear S u := fun m hm => by
  have h1 := f m hm
  have h2 := n m hm
  rw [payer_iff] at h2
  omega
def inc (u : Vec) (m : Nat) : Vec := fun k => u k + if k = m then 1 else 0
theorem le_inc (u : Vec) (m : Nat) : Le S u (inc u m) := fun k _ => by unfold inc; omega
/-- a payment keeps below every clearing -/
theorem pay_below {u v : Vec} {m : Nat} (h : Le S u v) (c : Clear S v) (hm : m < S.N) (p : payer S u m) : Le S (inc u m) v := fun k hk => by
  unfold inc
  by_cases e : k = m
  · subst e
    rw [if_pos rfl]
    have h1 := payer_iff.mp p
    have h2 := F_mono h k
    have h3 := c k hk
    omega
  · rw [if_neg e]
    exact h k hk
theorem pay_fea {u : Vec} {m : Nat} (f : Fea S u) (p : payer S u m) : Fea S (inc u m) := fun k hk => by
  have h2 := F_mono (S := S) (le_inc u m) k
  by_cases e : k = m
  · subst e
    have h1 := payer_iff.mp p
    have : inc u k k = u k + 1 := by unfold inc; rw [if_pos rfl]
    omega
  · have h1 := f k hk
    have : inc u m k = u k := by unfold inc; rw [if_neg e]; rfl
    omega
theorem take_succ_count {l : List Nat} {a m h : Nat} {t : List Nat} (e : l.drop a = h :: t) : (l.take (a + 1)).count m = (l.take a).count m + if m = h then 1 else 0 := by
  have ha : a < l.length := by
    rcases Nat.lt_or_ge a l.length with q | q
    · exact q
    · rw [List.drop_eq_nil_of_le q] at e; cases e
  have hh : l[a] = h := by
    rw [List.drop_eq_getElem_cons ha] at e
    exact (List.cons.inj e).1
  rw [List.take_succ_eq_append_getElem ha, List.count_append, hh, List.count_singleton]
  congr 1
  by_cases q : m = h
  · subst q; simp
  · rw [if_neg q]
    simp [Ne.symm q]
/-- a set of members pays its first notes -/
def add (u : Vec) (L : List Nat) : Vec := fun k => u k + if k ∈ L then 1 else 0
def hd (S : Sys) (u : Vec) (m : Nat) : Nat := ((R S u m).head?).getD 0
theorem R_cons {u : Vec} {m : Nat} (h : R S u m ≠ []) : R S u m = hd S u m :: (R S u m).tail := by
  unfold hd
  cases q : R S u m with
  | nil => exact absurd q h
  | cons a t => rfl
theorem recv_add {u : Vec} {L : List Nat} (hr : ∀ j ∈ L, R S u j ≠ []) (m : Nat) : recv S (add u L) m = recv S u m + sumN S.N fun j => if j ∈ L ∧ hd S u j = m then 1 else 0 := by
  unfold recv
  rw [← sumN_add]
  refine sumN_eq fun j hj => ?_
  unfold add
  by_cases e : j ∈ L
  · rw [if_pos e, take_succ_count (R_cons (hr j e))]
    congr 1
    by_cases q : m = hd S u j
    · rw [if_pos q, if_pos ⟨e, q.symm⟩]
    · rw [if_neg q, if_neg fun z => q z.2.symm]
  · rw [if_neg e, if_neg fun z => e z.1]
    rfl
theorem count_nodup {L : List Nat} (nd : L.Nodup) (f : Nat → Nat) (m N : Nat) (hN : ∀ j ∈ L, j < N) : sumN N (fun j => if j ∈ L ∧ f j = m then 1 else 0) = (L.map f).count m := by
  induction L with
  | nil =>
    rw [sumN_eq (g := fun _ => 0) (fun j _ => by simp), sumN_zero]
    rfl
  | cons a L ih =>
    rw [List.nodup_cons] at nd
    rw [List.map_cons, List.count_cons, ← ih nd.2 fun j hj => hN j (List.mem_cons_of_mem _ hj)]
    rw [show (if (f a == m) = true then 1 else 0) = sumN N fun j => if j = a then (if f a = m then 1 else 0) else 0 by
      rw [sumN_one _ (hN a (List.mem_cons_self ..))]
      by_cases q : f a = m <;> simp [q], ← sumN_add]
    refine sumN_eq fun j _ => ?_
    by_cases e : j = a
    · subst e
      have z : (if j ∈ L ∧ f j = m then 1 else 0) = 0 := if_neg (fun z => nd.1 z.1)
      rw [z]
      simp only [List.mem_cons, true_or, true_and, if_true]
      omega
    · simp only [List.mem_cons, e, false_or, if_false]
      omega
/-- a ring: its members' first notes go round -/
structure Ring (S : Sys) (u : Vec) (L : List Nat) : Prop where
  nd : L.Nodup
  lt : ∀ j ∈ L, j < S.N
  ne : ∀ j ∈ L, R S u j ≠ []
  go : (L.map (hd S u)).Perm L
theorem ring_recv {u : Vec} {L : List Nat} (g : Ring S u L) (m : Nat) : recv S (add u L) m = recv S u m + if m ∈ L then 1 else 0 := by
  rw [recv_add g.ne, count_nodup g.nd _ _ _ g.lt, g.go.count_eq]
  congr 1
  by_cases h : m ∈ L
  · rw [if_pos h, g.nd.count, if_pos h]
  · rw [if_neg h, List.count_eq_zero_of_not_mem h]
theorem ring_fea {u : Vec} {L : List Nat} (f : Fea S u) (g : Ring S u L) : Fea S (add u L) := fun m hm => by
  have h1 := f m hm
  have h2 := ring_recv g m
  unfold F at h1 ⊢
  rw [h2]
  unfold add
  by_cases e : m ∈ L
  · have h3 := g.ne m e
    unfold R at h3
    rw [ne_eq, List.drop_eq_nil_iff] at h3
    rw [if_pos e]
    omega
  · rw [if_neg e]
    omega
/-- the coins stay -/
theorem ring_coins {u : Vec} {L : List Nat} (f : Fea S u) (g : Ring S u L) {m : Nat} (hm : m < S.N) : Cn S (add u L) m = Cn S u m := by
  have h1 := f m hm
  have h2 := ring_recv g m
  unfold Cn
  rw [h2]
  unfold add
  unfold F at h1
  omega
theorem ring_rows {u : Vec} {L : List Nat} (m : Nat) : R S (add u L) m = if m ∈ L then (R S u m).tail else R S u m := by
  unfold R add
  by_cases e : m ∈ L
  · rw [if_pos e, if_pos e, List.tail_drop]
  · rw [if_neg e, if_neg e]
    rfl
theorem inc_add (u : Vec) (m : Nat) : inc u m = add u [m] := by
  funext k
  unfold inc add
  simp
theorem pay_rows {u : Vec} {a m : Nat} : R S (inc u a) m = if m = a then (R S u m).tail else R S u m := by
  rw [inc_add, ring_rows]
  simp
theorem pay_recv {u : Vec} {a : Nat} (ha : a < S.N) (h : R S u a ≠ []) (m : Nat) : recv S (inc u a) m = recv S u m + if m = hd S u a then 1 else 0 := by
  rw [inc_add, recv_add (by intro j hj; rw [List.mem_singleton.mp hj]; exact h), count_nodup (by simp) _ _ _ (by intro j hj; rw [List.mem_singleton.mp hj]; exact ha)]
  congr 1
  rw [List.map_cons, List.map_nil, List.count_singleton]
  by_cases q : hd S u a = m
  · rw [if_pos (by simpa using q), if_pos q.symm]
  · rw [if_neg (by simpa using q), if_neg (Ne.symm q)]
theorem pay_coins {u : Vec} {a : Nat} (ha : a < S.N) (f : Fea S u) (p : payer S u a) {m : Nat} (hm : m < S.N) : Cn S (inc u a) m = Cn S u m + (if m = hd S u a then 1 else 0) - if m = a then 1 else 0 := by
  have h1 := f m hm
  have h2 := pay_recv ha p.1 m
  have h3 := payer_iff.mp p
  unfold Cn
  rw [h2]
  unfold inc
  unfold F at h1 h3
  by_cases e : m = a
  · subst e
    rw [if_pos rfl]
    omega
  · rw [if_neg e]
    omega
/-- a set whose first notes stay within -/
def Closed (S : Sys) (u : Vec) (T : Nat → Prop) : Prop := ∀ m, T m → m < S.N ∧ R S u m ≠ [] ∧ T (hd S u m)
/-- all coins together -/
theorem sum_recv (o : ok S) {u : Vec} (f : ∀ m, m < S.N → u m ≤ (S.r m).length) : sumN S.N (recv S u) = sumN S.N u := by
  unfold recv
  rw [sumN_swap (f := fun m j => ((S.r j).take (u j)).count m)]
  refine sumN_eq fun j hj => ?_
  have key : ∀ (l : List Nat), (∀ x ∈ l, x < S.N) → sumN S.N (fun m => l.count m) = l.length := by
    intro l
    induction l with
    | nil => intro _; exact (sumN_eq (g := fun _ => 0) (fun _ _ => rfl)).trans sumN_zero
    | cons a l ih =>
      intro h
      rw [List.length_cons, ← ih fun x hx => h x (List.mem_cons_of_mem _ hx)]
      rw [show sumN S.N (fun m => (a :: l).count m) = sumN S.N (fun m => l.count m + if m = a then 1 else 0) from sumN_eq fun m _ => by
        rw [List.count_cons]
        by_cases q : a = m
        · subst q; simp
        · simp [q, Ne.symm q], sumN_add, sumN_one _ (h a (List.mem_cons_self ..))]
  rw [key _ fun x hx => (o j hj x (List.mem_of_mem_take hx)).1, List.length_take, Nat.min_eq_left (f j hj)]
theorem sum_coins (o : ok S) {u : Vec} (f : Fea S u) : sumN S.N (Cn S u) = sumN S.N S.c := by
  have h1 := sum_recv o (u := u) fun m hm => by have := f m hm; unfold F at this; omega
  have h2 : sumN S.N (fun m => Cn S u m + u m) = sumN S.N (fun m => S.c m + recv S u m) := sumN_eq fun m hm => by
    have := f m hm
    unfold Cn
    unfold F at this
    omega
  rw [sumN_add, sumN_add, h1] at h2
  omega
/-- where nobody can pay and no first notes go round: the greatest of all clearings -/
theorem greatest (o : ok S) {u v : Vec} (f : Fea S u) (n : noPay S u) (nc : ∀ T : Nat → Prop, Closed S u T → ∀ m, ¬ T m) (c : Fea S v) : Le S v u := by
  -- w: the greater of both, place by place
  let w : Vec := fun m => max (u m) (v m)
  have uw : Le S u w := fun m _ => Nat.le_max_left _ _
  have vw : Le S v w := fun m _ => Nat.le_max_right _ _
  have fw : Fea S w := fun m hm => by
    have h1 := f m hm
    have h2 := c m hm
    have h3 := F_mono uw m
    have h4 := F_mono vw m
    show max (u m) (v m) ≤ _
    omega
  have wl : ∀ m, m < S.N → w m ≤ (S.r m).length := fun m hm => by
    have := fw m hm
    unfold F at this
    omega
  -- who has paid more notes by w
  let T : Nat → Prop := fun m => m < S.N ∧ u m < w m
  have hT : ∀ m, T m → w m - u m ≤ recv S w m - recv S u m := fun m ⟨hm, hl⟩ => by
    have h1 := noPay_clear f n m hm
    have h2 := fw m hm
    have h3 := wl m hm
    unfold F at h1 h2
    omega
  -- the notes between u and w
  let mid : Nat → List Nat := fun j => ((S.r j).take (w j)).drop (u j)
  have cm : ∀ j m, j < S.N → ((S.r j).take (w j)).count m = ((S.r j).take (u j)).count m + (mid j).count m := fun j m hj => by
    show _ = _ + (((S.r j).take (w j)).drop (u j)).count m
    have e : (S.r j).take (u j) = ((S.r j).take (w j)).take (u j) := by
      rw [List.take_take, Nat.min_eq_left (uw j hj)]
    rw [e, ← List.count_append, List.take_append_drop]
  have rw_ : ∀ m, recv S w m = recv S u m + sumN S.N fun j => (mid j).count m := fun m => by
    unfold recv
    rw [← sumN_add]
    exact sumN_eq fun j hj => cm j m hj
  have ml : ∀ j, j < S.N → (mid j).length = w j - u j := fun j hj => by
    show (((S.r j).take (w j)).drop (u j)).length = _
    rw [List.length_drop, List.length_take, Nat.min_eq_left (wl j hj)]
  have mN : ∀ j, j < S.N → ∀ x ∈ mid j, x < S.N := fun j hj x hx => (o j hj x (List.mem_of_mem_take (List.mem_of_mem_drop hx))).1
  classical
  let inT : Nat → Nat := fun m => if T m then 1 else 0
  -- notes of the middle that go to T
  let toT : Nat → Nat := fun j => ((mid j).filter fun x => decide (T x)).length
  have toT_sum : ∀ j, j < S.N → toT j = sumN S.N fun m => if T m then (mid j).count m else 0 := fun j hj => by
    have key : ∀ (l : List Nat), (∀ x ∈ l, x < S.N) → (l.filter fun x => decide (T x)).length = sumN S.N fun m => if T m then l.count m else 0 := by
      intro l
      induction l with
      | nil => intro _; rw [sumN_eq (g := fun _ => 0) (fun m _ => by simp), sumN_zero]; rfl
      | cons a l ih =>
        intro h
        have ih' := ih fun x hx => h x (List.mem_cons_of_mem _ hx)
        have e : (sumN S.N fun m => if T m then (a :: l).count m else 0) = (sumN S.N fun m => if T m then l.count m else 0) + sumN S.N fun m => if m = a then (if T a then 1 else 0) else 0 := by
          rw [← sumN_add]
          refine sumN_eq fun m _ => ?_
          rw [List.count_cons]
          by_cases q : m = a
          · subst q
            by_cases t : T m <;> simp [t]
          · by_cases t : T m <;> simp [t, q, Ne.symm q]
        rw [e, sumN_one _ (h a (List.mem_cons_self ..)), ← ih', List.filter_cons]
        by_cases t : T a
        · simp [t]
        · simp [t]
    exact key _ (mN j hj)
  have toT_le : ∀ j, j < S.N → toT j ≤ w j - u j := fun j hj => by
    rw [← ml j hj]
    exact List.length_filter_le _ _
  have out0 : ∀ j, j < S.N → ¬ T j → w j - u j = 0 := fun j hj h => by
    have h1 : ¬ (u j < w j) := fun q => h ⟨hj, q⟩
    omega
  have total : sumN S.N (fun j => w j - u j) ≤ sumN S.N toT := by
    have h1 : sumN S.N (fun m => w m - u m) ≤ sumN S.N fun m => if T m then sumN S.N (fun j => (mid j).count m) else 0 := sumN_le fun m hm => by
      by_cases t : T m
      · rw [if_pos t]
        have := hT m t
        rw [rw_ m] at this
        omega
      · rw [if_neg t, out0 m hm t]
        exact Nat.le_refl _
    have h2 : (sumN S.N fun m => if T m then sumN S.N (fun j => (mid j).count m) else 0) = sumN S.N toT := by
      rw [show (sumN S.N fun m => if T m then sumN S.N (fun j => (mid j).count m) else 0) = sumN S.N fun m => sumN S.N fun j => if T m then (mid j).count m else 0 from sumN_eq fun m _ => by
        by_cases t : T m
        · simp only [t, if_true]
        · simp only [t, if_false]
          exact sumN_zero.symm, sumN_swap (f := fun m j => if T m then (mid j).count m else 0)]
      exact sumN_eq fun j hj => (toT_sum j hj).symm
    omega
  have each : ∀ j, j < S.N → toT j = w j - u j := fun j hj => by
    rcases Nat.lt_or_ge (toT j) (w j - u j) with q | q
    · have := sumN_lt toT_le hj q
      omega
    · have := toT_le j hj
      omega
  have cl : Closed S u T := fun m t => by
    have hl := wl m t.1
    have hlt := t.2
    have hne : R S u m ≠ [] := by
      unfold R
      rw [ne_eq, List.drop_eq_nil_iff]
      omega
    refine ⟨t.1, hne, ?_⟩
    have e := each m t.1
    rw [← ml m t.1] at e
    have all : ∀ x ∈ mid m, T x := fun x hx => by
      have e2 : (mid m).filter (fun x => decide (T x)) = mid m := List.filter_eq_self.mpr fun a ha => by
        have e3 : ((mid m).filter fun x => decide (T x)).length = (mid m).length := e
        have := (List.length_filter_eq_length_iff.mp e3) a ha
        exact this
      rw [← e2] at hx
      exact of_decide_eq_true (List.mem_filter.mp hx).2
    refine all _ ?_
    show hd S u m ∈ ((S.r m).take (w m)).drop (u m)
    rw [List.drop_take]
    have e4 := R_cons hne
    unfold R at e4
    have e5 : (S.r m).drop (u m) = hd S u m :: ((S.r m).drop (u m)).tail := e4
    rw [e5]
    have : w m - u m = (w m - u m - 1) + 1 := by omega
    rw [this, List.take_succ_cons]
    exact List.mem_cons_self ..
  intro m hm
  rcases Nat.lt_or_ge (u m) (w m) with q | q
  · exact absurd ⟨hm, q⟩ (nc T cl m)
  · have := vw m hm
    omega
end M68
end
section
set_option Elab.async false
set_option linter.all false
set_option autoImplicit false
set_option maxHeartbeats 4000000
set_option maxRecDepth 10000
namespace T68
open PySem Ro

/-! ## rows of numbers, tables by place -/
def nD (xs : List Nat) : List D := xs.map fun (n : Nat) => D.int (n : Int)
def tab (N : Nat) (f : Nat → D) : List D := (List.range N).map f
theorem tab_len {N : Nat} {f : Nat → D} : (tab N f).length = N := by simp [tab]
theorem tab_get {N : Nat} {f : Nat → D} {i : Nat} (h : i < N) : (tab N f)[i]? = some (f i) := by
  unfold tab
  rw [List.getElem?_map, List.getElem?_range h]
  rfl
theorem at_nat {xs : List D} {i : Nat} : L2.atI xs (i : Int) = xs[i]? := by
  unfold L2.atI L2.ixN
  rw [if_pos (Int.natCast_nonneg i)]
  by_cases h : i < xs.length
  · rw [if_pos (by omega)]
    simp
  · rw [if_neg (by omega)]
    simp only [Option.bind_none]
    exact (List.getElem?_eq_none (by omega)).symm
theorem at_last {xs : List D} {x : D} : L2.atI (xs ++ [x]) (-1) = some x := by
  unfold L2.atI L2.ixN
  rw [if_neg (by decide), if_pos (by simp; omega)]
  simp
  rw [show (-1 + ((xs.length : Int) + 1)).toNat = xs.length by omega]
  simp
theorem ix_nat {xs : List D} {i : Nat} : ixD xs (i : Int) = xs[i]? := at_nat
theorem ix_last {xs : List D} {x : D} : ixD (xs ++ [x]) (-1) = some x := at_last
theorem tab_at {N : Nat} {f : Nat → D} {i : Nat} (h : i < N) : ixD (tab N f) (i : Int) = some (f i) := by
  unfold ixD
  rw [at_nat, tab_get h]
theorem enum_tab {f : Nat → D} : ∀ {N k : Nat}, enumL k ((List.range' k N).map f) = (List.range' k N).map fun (i : Nat) => D.tup [.int (i : Int), f i]
  | 0, _ => rfl
  | N + 1, k => by
    rw [List.range'_succ, List.map_cons, List.map_cons, enumL, enum_tab]
theorem enum_tab0 {f : Nat → D} {N : Nat} : enumL 0 (tab N f) = tab N fun (i : Nat) => D.tup [.int (i : Int), f i] := by
  unfold tab
  rw [List.range_eq_range', enum_tab]
theorem zip_tab {f g : Nat → D} {N : Nat} : zipL (tab N f) (tab N g) = tab N fun i => D.tup [f i, g i] := by
  unfold zipL tab
  rw [List.zip_map', List.map_map]
  rfl
theorem zip3_tab {f g h : Nat → D} {N : Nat} : zip3L (tab N f) (tab N g) (tab N h) = tab N fun i => D.tup [f i, g i, h i] := by
  unfold zip3L tab
  rw [List.zip_map', List.zip_map', List.map_map]
  rfl
theorem tab_map {f : Nat → D} {N : Nat} {g : D → D} : (tab N f).map g = tab N fun i => g (f i) := by
  unfold tab
  rw [List.map_map]
  rfl
theorem tab_mem {f : Nat → D} {N : Nat} {x : D} (h : x ∈ tab N f) : ∃ i, i < N ∧ x = f i := by
  unfold tab at h
  obtain ⟨i, hi, rfl⟩ := List.mem_map.mp h
  exact ⟨i, List.mem_range.mp hi, rfl⟩
theorem tab_ext {f g : Nat → D} {N : Nat} (h : ∀ i, i < N → f i = g i) : tab N f = tab N g := by
  unfold tab
  exact List.map_congr_left fun i hi => h i (List.mem_range.mp hi)
/-- what a comprehension keeps of a table -/
theorem fm_tab {f : Nat → D} {N : Nat} {g : D → Option D} {p : Nat → Bool} {h : Nat → D} (e : ∀ i, i < N → g (f i) = if p i then some (h i) else none) : (tab N f).filterMap g = ((List.range N).filter p).map h := by
  unfold tab
  have key : ∀ (l : List Nat), (∀ i ∈ l, i < N) → (l.map f).filterMap g = (l.filter p).map h := by
    intro l
    induction l with
    | nil => intro _; rfl
    | cons a l ih =>
      intro hl
      rw [List.map_cons, List.filterMap_cons, e a (hl a (List.mem_cons_self ..)), List.filter_cons]
      by_cases q : p a = true
      · rw [if_pos q, if_pos q, List.map_cons, ih fun i hi => hl i (List.mem_cons_of_mem _ hi)]
      · rw [if_neg q, if_neg q, ih fun i hi => hl i (List.mem_cons_of_mem _ hi)]
  exact key _ fun i hi => List.mem_range.mp hi
/-- the debts, the coins -/
def dbT (N : Nat) (r : Nat → List Nat) : D := .tup (tab N fun m => .tup (nD (r m)))
def coT (N : Nat) (c : Nat → Nat) : D := .tup (tab N fun m => .int (c m : Int))
section
variable {N : Nat} {r : Nat → List Nat} {c : Nat → Nat} {st : Sto}
@[simp] theorem sq_db : seqOf st (dbT N r) = some (tab N fun m => .tup (nD (r m))) := rfl
@[simp] theorem sq_co : seqOf st (coT N c) = some (tab N fun m => .int (c m : Int)) := rfl
@[simp] theorem rd_db : rdL st (dbT N r) = some (tab N fun m => .tup (nD (r m)), []) := rfl
@[simp] theorem rd_co : rdL st (coT N c) = some (tab N fun m => .int (c m : Int), []) := rfl
@[simp] theorem ty_db : tyOf st (dbT N r) = some "tuple" := rfl
@[simp] theorem ty_co : tyOf st (coT N c) = some "tuple" := rfl
@[simp] theorem de_db : deref st (dbT N r) = dbT N r := rfl
@[simp] theorem de_co : deref st (coT N c) = coT N c := rfl
@[simp] theorem tl_len {f : Nat → D} : (tab N f).length = N := tab_len
end
theorem nD_len {xs : List Nat} : (nD xs).length = xs.length := by simp [nD]
theorem nD_get {xs : List Nat} {i : Nat} : (nD xs)[i]? = xs[i]?.map fun (n : Nat) => D.int (n : Int) := by
  unfold nD
  rw [List.getElem?_map]
theorem nD_drop {xs : List Nat} {i : Nat} : (nD xs).drop i = nD (xs.drop i) := by
  unfold nD
  rw [List.map_drop]
theorem nD_nil {xs : List Nat} : nD xs = [] ↔ xs = [] := by
  unfold nD
  rw [List.map_eq_nil_iff]
theorem bls_all {p : Nat → Bool} : ∀ {l : List Nat}, blsOf (l.map fun i => D.bl (p i)) = some (l.map p)
  | [] => rfl
  | a :: l => by
    rw [List.map_cons, blsOf, bls_all]
    rfl
theorem bls_tab {p : Nat → Bool} {N : Nat} : blsOf (tab N fun i => .bl (p i)) = some ((List.range N).map p) := bls_all
theorem all_range {p : Nat → Bool} {N : Nat} (h : ∀ i, i < N → p i = true) : ((List.range N).map p).all id = true := by
  rw [List.all_eq_true]
  intro b hb
  obtain ⟨i, hi, rfl⟩ := List.mem_map.mp hb
  exact h i (List.mem_range.mp hi)
/-! ### equality -/
theorem eqN_nil {ys : List D} {n : Nat} : eqD (n + 1) (.tup ys) (.tup []) = some ys.isEmpty := by
  cases ys <;> simp [eqD, eqN, nrm, eqL]
theorem eqL_nat {n : Nat} : ∀ {xs ys : List Nat}, eqL (eqD (n + 1)) (nD xs) (nD ys) = some (decide (xs = ys))
  | [], [] => by simp [nD, eqL]
  | [], y :: ys => by simp [nD, eqL]
  | x :: xs, [] => by simp [nD, eqL]
  | x :: xs, y :: ys => by
    have ih := @eqL_nat n xs ys
    simp only [nD, List.map_cons] at ih ⊢
    rw [eqL, ih]
    simp only [eqD, eqN, nrm]
    congr 1
    rw [Bool.eq_iff_iff]
    simp [Int.ofNat_inj]
theorem eq_row {n : Nat} {xs ys : List Nat} : eqD (n + 2) (.tup (nD xs)) (.tup (nD ys)) = some (decide (xs = ys)) := by
  rw [eqD]
  simp only [nrm, eqN]
  exact eqL_nat
/-! ## plain.py, further -/
theorem f_are_numbers {n : Nat} {xs : List Int} {st : Sto} : callN Tb (n + 2) 3 [.tup (xs.map D.int)] st = some (.bl true, st) := by
  rw [callN_at (d := d_are_numbers) rfl]
  refine run_ret rfl ?_ fin_no
  have hc := w_compM (C := callN Tb (n + 1)) (ρ := [some (.tup (xs.map D.int)), none]) (st := st) (own := [1]) (t := .v 1) (it := .seq (.var 0)) (ifs := .nil) (e := .call 0 (.cons (.var 1) .nil)) (xs := xs.map D.int) (ns := []) (st1 := st) (g := fun _ => .bl true) (by simp) (by
    intro x hm
    obtain ⟨i, _, rfl⟩ := List.mem_map.mp hm
    simp [tn, testD, f_is_number])
  have hb : ∀ l : List Int, blsOf ((l.map D.int).map fun _ => D.bl true) = some (l.map fun _ => true) := by
    intro l
    induction l with
    | nil => rfl
    | cons a l ih =>
      simp only [List.map_cons, blsOf, ih]
      rfl
  have ha : (List.map (fun _ => true) xs).all id = true := by simp
  have := hb xs
  simp only [List.map_map] at this
  simp at hc
  simp [hc, this]
theorem nD_int (xs : List Nat) : nD xs = (xs.map fun (n : Nat) => (n : Int)).map D.int := by
  unfold nD
  rw [List.map_map]
  rfl
theorem f_are_nat {n : Nat} {xs : List Nat} {st : Sto} : callN Tb (n + 2) 3 [.tup (nD xs)] st = some (.bl true, st) := by
  rw [nD_int]
  exact f_are_numbers
end T68
end
section
set_option Elab.async false
set_option linter.all false
set_option autoImplicit false
set_option maxHeartbeats 4000000
set_option maxRecDepth 10000
namespace T68
open PySem Ro

/-! ## dues.py: the debts and coins that are asked about -/
def okR (N : Nat) (r : Nat → List Nat) : Prop := ∀ m, m < N → ∀ o ∈ r m, o < N ∧ o ≠ m
theorem beq_nat {a b : Nat} : ((a : Int) == (b : Int)) = decide (a = b) := by
  rw [Bool.eq_iff_iff]
  simp [Int.ofNat_inj]
@[simp] theorem all_const {α : Type} {l : List α} : (l.all fun _ => true) = true := by
  rw [List.all_eq_true]
  intros
  rfl
theorem all_true {α : Type} {l : List α} : (l.map fun _ => true).all id = true := by simp
theorem bls_nat {α : Type} : ∀ {l : List α}, blsOf (l.map fun _ => D.bl true) = some (l.map fun _ => true)
  | [] => rfl
  | a :: l => by
    rw [List.map_cons, blsOf, bls_nat]
    rfl
theorem f_is_debts {n N : Nat} {r : Nat → List Nat} (h : okR N r) {st : Sto} : callN Tb (n + 3) 4 [dbT N r] st = some (.bl true, st) := by
  rw [callN_at (d := d_is_debts_in) rfl]
  refine run_ret rfl ?_ fin_no
  have e1 : ∀ ρ : Ro.Env, ρ[0]? = some (some (dbT N r)) → ρ.length = 5 → ev (callN Tb (n + 2)) (.comp false [3] (.v 3) (.seq (.var 0)) .nil (.call 3 (.cons (.var 3) .nil))) ρ st = some (.lst ((List.range N).map fun _ => .bl true), st) := fun ρ h0 hl => by
    rw [w_compM (xs := tab N fun m => .tup (nD (r m))) (ns := []) (st1 := st) (g := fun _ => .bl true) (by simp [h0]) (by
      intro x hm
      obtain ⟨i, hi, rfl⟩ := tab_mem hm
      simp [tn, hl, f_are_nat]), tab_map]
    rfl
  have inner : ∀ (x : Option D) (m : Nat), m < N → 
      ev (callN Tb (n + 2)) (.comp false [4] (.v 4) (.seq (.var 3)) .nil (.and (.chain .LtE .Lt (.cst (.int 0)) (.var 4) (.var 1)) (.op (.cmp .NotEq) (.cons (.var 4) (.cons (.var 2) .nil))))) [x, some (.int (N : Int)), some (.int (m : Int)), some (.tup (nD (r m))), none] st = some (.lst ((nD (r m)).map fun _ => .bl true), st) := fun y m hm => by
    refine w_compM (ns := []) (by simp) fun x hx => ?_
    obtain ⟨o, ho, rfl⟩ := List.mem_map.mp hx
    obtain ⟨g1, g2⟩ := h m hm o ho
    simp [tn, g1, beq_nat, g2]
  have e4 : ev (callN Tb (n + 2)) (.comp false [2, 3] (.t [(.v 2), (.v 3)]) (.enum (.var 0)) .nil (.op .all (.cons (.comp false [4] (.v 4) (.seq (.var 3)) .nil (.and (.chain .LtE .Lt (.cst (.int 0)) (.var 4) (.var 1)) (.op (.cmp .NotEq) (.cons (.var 4) (.cons (.var 2) .nil))))) .nil))) [some (dbT N r), some (.int (N : Int)), none, none, none] st = some (.lst ((List.range N).map fun _ => .bl true), st) := by
    rw [w_compM (xs := tab N fun (m : Nat) => .tup [.int (m : Int), .tup (nD (r m))]) (ns := []) (st1 := st) (g := fun _ => .bl true) (by simp [enum_tab0]) (by
      intro x hm
      obtain ⟨i, hi, rfl⟩ := tab_mem hm
      simp [tn, inner _ i hi, bls_nat]), tab_map]
    rfl
  have e3 := e1 [some (dbT N r), none, none, none, none] rfl rfl
  simp [e3, e4, bls_nat]
theorem tup_db {N : Nat} {r : Nat → List Nat} : tupD (dbT N r) = dbT N r := by
  unfold dbT
  rw [tupD, tupL_map, tab_map]
  refine congrArg D.tup (tab_ext fun i _ => ?_)
  rw [tupD, tupL_map]
  unfold nD
  rw [List.map_map]
  rfl
theorem tup_co {N : Nat} {c : Nat → Nat} : tupD (coT N c) = coT N c := by
  unfold coT
  rw [tupD, tupL_map, tab_map]
  rfl
/-- what is taken for these debts -/
structure AsDb (d : D) (N : Nat) (r : Nat → List Nat) : Prop where
  t : tupD d = dbT N r
  d : dep 3 d = true
structure AsCo (d : D) (N : Nat) (c : Nat → Nat) : Prop where
  t : tupD d = coT N c
  d : dep 3 d = true
theorem depL_of {n : Nat} : ∀ {xs : List D}, (∀ x ∈ xs, dep n x = true) → depL n xs = true
  | [], _ => rfl
  | x :: xs, h => by
    simp only [depL, Bool.and_eq_true]
    exact ⟨h x (List.mem_cons_self ..), depL_of fun y hy => h y (List.mem_cons_of_mem _ hy)⟩
theorem dep_nD {n : Nat} {xs : List Nat} : depL n (nD xs) = true := depL_of fun x hx => by
  obtain ⟨o, _, rfl⟩ := List.mem_map.mp hx
  cases n <;> rfl
theorem asDb {N : Nat} {r : Nat → List Nat} : AsDb (dbT N r) N r := ⟨tup_db, by
  unfold dbT
  rw [dep]
  refine depL_of fun x hx => ?_
  obtain ⟨i, _, rfl⟩ := tab_mem hx
  rw [dep]
  exact dep_nD⟩
theorem asCo {N : Nat} {c : Nat → Nat} : AsCo (coT N c) N c := ⟨tup_co, by
  unfold coT
  rw [dep]
  refine depL_of fun x hx => ?_
  obtain ⟨i, _, rfl⟩ := tab_mem hx
  rfl⟩
theorem f_sure_debts {n N : Nat} {r : Nat → List Nat} (h : okR N r) {d : D} (a : AsDb d N r) {st : Sto} : callN Tb (n + 5) 5 [d] st = some (dbT N r, st) := by
  rw [callN_at (d := d_sure_debts) rfl]
  refine run_ret rfl ?_ fin_no
  have t1 := f_tupled (n := n) (st := st) 3 d a.d
  rw [a.t] at t1
  have t2 := f_is_debts (n := n + 1) h (st := st)
  simp [t1, t2]
theorem co_ints {N : Nat} {c : Nat → Nat} : coT N c = .tup (((List.range N).map fun m => (c m : Int)).map D.int) := by
  unfold coT tab
  rw [List.map_map]
  rfl
theorem f_sure_owing {n N : Nat} {r : Nat → List Nat} {c : Nat → Nat} (h : okR N r) {d e : D} (a : AsDb d N r) (b : AsCo e N c) {st : Sto} : callN Tb (n + 6) 6 [d, e] st = some (.tup [dbT N r, coT N c], st) := by
  rw [callN_at (d := d_sure_owing) rfl]
  refine run_ret rfl ?_ fin_no
  have t1 := f_tupled (n := n + 1) (st := st) 3 e b.d
  rw [b.t] at t1
  have t2 := f_sure_debts (n := n) h a (st := st)
  have t3 := f_are_numbers (n := n + 3) (xs := (List.range N).map fun m => (c m : Int)) (st := st)
  rw [← co_ints] at t3
  have e1 : ev (callN Tb (n + 5)) (.comp false [4] (.v 4) (.seq (.var 3)) .nil (.op (.cmp .GtE) (.cons (.var 4) (.cons (.cst (.int 0)) .nil)))) [some d, some e, some (dbT N r), some (coT N c), none] st = some (.lst ((List.range N).map fun _ => .bl true), st) := by
    rw [w_compM (xs := tab N fun m => .int (c m : Int)) (ns := []) (st1 := st) (g := fun _ => .bl true) (by simp) (by
      intro x hm
      obtain ⟨i, hi, rfl⟩ := tab_mem hm
      simp [tn]), tab_map]
    rfl
  simp [t1, t2, t3, e1, bls_nat]
end T68
end
section
set_option Elab.async false
set_option linter.all false
set_option autoImplicit false
set_option maxHeartbeats 4000000
set_option maxRecDepth 10000
namespace T68
open PySem Ro

/-! ## who can pay, a deed done -/
def payers (N : Nat) (r : Nat → List Nat) (c : Nat → Nat) : List Nat := (List.range N).filter fun m => !(r m).isEmpty && decide (0 < c m)
@[simp] theorem nD_emp {xs : List Nat} : (nD xs).isEmpty = xs.isEmpty := by cases xs <;> rfl
@[simp] theorem nD_tail {xs : List Nat} : (nD xs).tail = nD xs.tail := by cases xs <;> rfl
theorem f_payers {n N : Nat} {r : Nat → List Nat} {c : Nat → Nat} {st : Sto} : callN Tb (n + 1) 9 [dbT N r, coT N c] st = some (.lst (nD (payers N r c)), st) := by
  rw [callN_at (d := d_payers_in) rfl]
  refine run_ret rfl ?_ fin_no
  have e1 : ev (callN Tb n) (.comp false [2, 3] (.t [(.v 2), (.v 3)]) (.enum (.var 0)) (.cons (.and (.op (.cmp .NotEq) (.cons (.var 3) (.cons (.op .tup .nil) .nil))) (.op (.cmp .Gt) (.cons (.op .sub (.cons (.var 1) (.cons (.var 2) .nil))) (.cons (.cst (.int 0)) .nil)))) .nil) (.var 2)) [some (dbT N r), some (coT N c), none, none] st = some (.lst (nD (payers N r c)), st) := by
    rw [w_compP (xs := tab N fun (m : Nat) => .tup [.int (m : Int), .tup (nD (r m))]) (ns := []) (st1 := st) (g := fun x => match x with
      | .tup [.int i, _] => if !(r i.toNat).isEmpty && decide (0 < c i.toNat) then some (.int i) else none
      | _ => none) (by simp [enum_tab0]) (by
      intro x hm
      obtain ⟨i, hi, rfl⟩ := tab_mem hm
      by_cases h1 : (r i).isEmpty = true
      · simp [tn, h1]
      · have h1' : (r i).isEmpty = false := by simpa using h1
        by_cases h2 : 0 < c i
        · simp [tn, h1', tab_at hi, h2]
        · simp [tn, h1', tab_at hi, h2])]
    rw [fm_tab (p := fun m => !(r m).isEmpty && decide (0 < c m)) (h := fun m => .int (m : Int)) (by intro i hi; simp)]
    rfl
  simp [e1]
/-! ### a deed done -/
def upd {α : Type} (f : Nat → α) (m : Nat) (v : α) : Nat → α := fun k => if k = m then v else f k
theorem tab_set {N m : Nat} {f : Nat → D} {v : D} (h : m < N) : (tab N f).set m v = tab N (upd f m v) := by
  refine List.ext_getElem? fun i => ?_
  rw [List.getElem?_set]
  by_cases e : m = i
  · subst e
    rw [if_pos rfl, tab_len, if_pos h, tab_get h]
    unfold upd
    rw [if_pos rfl]
  · rw [if_neg e]
    rcases Nat.lt_or_ge i N with q | q
    · rw [tab_get q, tab_get q]
      unfold upd
      rw [if_neg (Ne.symm e)]
    · rw [List.getElem?_eq_none (by rw [tab_len]; exact q), List.getElem?_eq_none (by rw [tab_len]; exact q)]
theorem nol_tab {N : Nat} {f : Nat → D} (h : ∀ i, i < N → nol (f i) = true) : nolL (tab N f) = true := nolL_of fun x hx => by
  obtain ⟨i, hi, rfl⟩ := tab_mem hx
  exact h i hi
theorem nol_nD {xs : List Nat} : nolL (nD xs) = true := nolL_of fun x hx => by
  obtain ⟨i, _, rfl⟩ := List.mem_map.mp hx
  rfl
theorem nol_db {N : Nat} {r : Nat → List Nat} : nol (dbT N r) = true := by
  unfold dbT
  rw [nol]
  exact nol_tab fun i _ => by rw [nol]; exact nol_nD
theorem nol_co {N : Nat} {c : Nat → Nat} : nol (coT N c) = true := by
  unfold coT
  rw [nol]
  exact nol_tab fun i _ => rfl
theorem ixN_nat {n i : Nat} (h : i < n) : L2.ixN n (i : Int) = some i := by
  unfold L2.ixN
  rw [if_pos (Int.natCast_nonneg i), if_pos (by omega)]
  simp
theorem cut_from1 {xs : List D} : cutD xs (some 1) none = xs.drop 1 := by
  unfold cutD
  have h1 : HT.sIx xs.length 0 (some 1) = min 1 xs.length := by
    unfold HT.sIx
    simp
  have h2 : HT.sIx xs.length xs.length none = xs.length := rfl
  rw [h1, h2]
  cases xs with
  | nil => rfl
  | cons x xs => simp
/-- a payment -/
theorem f_pay {n N : Nat} {r : Nat → List Nat} {c : Nat → Nat} {st : Sto} {m h : Nat} {t : List Nat} (hm : m < N) (hr : r m = h :: t) (hh : h < N) (hne : h ≠ m) (hc : 0 < c m) :
    callN Tb (n + 1) 12 [dbT N r, coT N c, .tup [.str "pay", .int (m : Int)]] st = some (.tup [dbT N (upd r m t), coT N (upd (upd c m (c m - 1)) h (c h + 1))], st) := by
  rw [callN_at (d := d_done_in) rfl]
  have e1 : ev (callN Tb n) (.comp false [7, 8] (.t [(.v 7), (.v 8)]) (.enum (.var 0)) .nil (.ite (.op (.cmp .In) (.cons (.var 7) (.cons (.ite (.op (.cmp .Eq) (.cons (.var 3) (.cons (.glob "PAY" (.str "pay")) .nil))) (.op .tup (.cons (.var 4) .nil)) (.var 4)) .nil))) (.slice (.var 8) (.cons (.cst (.int 1)) .nil) .nil) (.var 8)))
      [some (dbT N r), some (coT N c), some (.tup [.str "pay", .int (m : Int)]), some (.str "pay"), some (.int (m : Int)), none, none, none, none] st = some (.lst (tab N fun k => .tup (nD (upd r m t k))), st) := by
    rw [w_compM (xs := tab N fun (m : Nat) => .tup [.int (m : Int), .tup (nD (r m))]) (ns := []) (st1 := st) (g := fun x => match x with
      | .tup [.int i, _] => .tup (nD (upd r m t i.toNat))
      | _ => .non) (by simp [enum_tab0]) (by
      intro x hx
      obtain ⟨i, hi, rfl⟩ := tab_mem hx
      by_cases q : i = m
      · subst q
        simp only [hr] at hx ⊢
        simp [tn, inL, cut_from1, upd]
      · have q2 : ((m : Int) == (i : Int)) = false := by rw [beq_nat]; simp [Ne.symm q]
        simp [tn, inL, q2, upd, q]), tab_map]
    refine congrArg some (congrArg (·, st) (congrArg D.lst (tab_ext fun i hi => ?_)))
    simp
  refine run_ret rfl ?_ (fin_nol (xs := [.lst (tab N fun k => .int ((upd (upd c m (c m - 1)) h (c h + 1) k : Nat) : Int))]) ?_)
  · have hh0 : ∀ f : Nat → D, ixD (tab N f) (m : Int) = some (f m) := fun f => tab_at hm
    have hh1 : ∀ f : Nat → D, ixD (tab N f) (h : Int) = some (f h) := fun f => tab_at hh
    have r0 : ixD (nD (r m)) 0 = some (.int (h : Int)) := by
      rw [hr]
      exact ix_nat (i := 0)
    have u1 : upd (fun m => D.int (c m : Int)) m (D.int ((c m : Int) - 1)) h = .int (c h : Int) := if_neg hne
    have tc : tab N (upd (upd (fun m => D.int (c m : Int)) m (D.int ((c m : Int) - 1))) h (D.int ((c h : Int) + 1))) = tab N fun k => .int ((upd (upd c m (c m - 1)) h (c h + 1) k : Nat) : Int) := tab_ext fun i _ => by
      unfold upd
      by_cases q1 : i = h
      · simp [q1]
      · by_cases q2 : i = m
        · subst q2
          simp only [q1, if_false, if_true, D.int.injEq]
          omega
        · simp [q1, q2]
    simp [e1, hh0, hh1, r0, ixN_nat hm, ixN_nat hh, tab_set hm, tab_set hh, u1, tc]
    exact ⟨rfl, rfl⟩
  · simp only [nol, nolL, Bool.and_eq_true]
    exact ⟨nol_db, nol_co, trivial⟩
/-- a ring cleared -/
theorem inL_nat {m : Nat} : ∀ {L : List Nat}, inL (.int (m : Int)) (nD L) = some (decide (m ∈ L))
  | [] => rfl
  | a :: L => by
    show (match eqD dp (.int (a : Int)) (.int (m : Int)), inL (.int (m : Int)) (nD L) with
      | some x, some y => some (x || y)
      | _, _ => none) = _
    rw [inL_nat, e_int, beq_nat]
    simp only []
    congr 1
    rw [Bool.eq_iff_iff]
    simp only [List.mem_cons, Bool.or_eq_true, decide_eq_true_eq]
    rw [@eq_comm _ a m]
theorem f_ring {n N : Nat} {r : Nat → List Nat} {c : Nat → Nat} {st : Sto} {L : List Nat} :
    callN Tb (n + 1) 12 [dbT N r, coT N c, .tup [.str "ring", .tup (nD L)]] st = some (.tup [dbT N (fun k => if k ∈ L then (r k).drop 1 else r k), coT N c], st) := by
  rw [callN_at (d := d_done_in) rfl]
  have e1 : ev (callN Tb n) (.comp false [7, 8] (.t [(.v 7), (.v 8)]) (.enum (.var 0)) .nil (.ite (.op (.cmp .In) (.cons (.var 7) (.cons (.ite (.op (.cmp .Eq) (.cons (.var 3) (.cons (.glob "PAY" (.str "pay")) .nil))) (.op .tup (.cons (.var 4) .nil)) (.var 4)) .nil))) (.slice (.var 8) (.cons (.cst (.int 1)) .nil) .nil) (.var 8)))
      [some (dbT N r), some (coT N c), some (.tup [.str "ring", .tup (nD L)]), some (.str "ring"), some (.tup (nD L)), none, none, none, none] st = some (.lst (tab N fun k => .tup (nD (if k ∈ L then (r k).drop 1 else r k))), st) := by
    rw [w_compM (xs := tab N fun (m : Nat) => .tup [.int (m : Int), .tup (nD (r m))]) (ns := []) (st1 := st) (g := fun x => match x with
      | .tup [.int i, _] => .tup (nD (if i.toNat ∈ L then (r i.toNat).drop 1 else r i.toNat))
      | _ => .non) (by simp [enum_tab0]) (by
      intro x hx
      obtain ⟨i, hi, rfl⟩ := tab_mem hx
      have ns : (("ring" : Str) == ("pay" : Str)) = false := by decide
      by_cases q : i ∈ L
      · simp [tn, inL_nat, ns, q, cut_from1, ← nD_drop]
      · simp [tn, inL_nat, ns, q]), tab_map]
    refine congrArg some (congrArg (·, st) (congrArg D.lst (tab_ext fun i hi => ?_)))
    simp
  refine run_ret rfl ?_ (fin_nol (xs := [.lst (tab N fun k => .int (c k : Int))]) ?_)
  · have ns : (("ring" : Str) == ("pay" : Str)) = false := by decide
    simp [e1, ns]
    exact ⟨rfl, rfl⟩
  · simp only [nol, nolL, Bool.and_eq_true]
    exact ⟨nol_db, nol_co, trivial⟩
end T68
end
section
set_option Elab.async false
set_option linter.all false
set_option autoImplicit false
set_option maxHeartbeats 4000000
set_option maxRecDepth 10000
namespace T68
open PySem Ro

/-! ## rings -/
def hdR (r : Nat → List Nat) (m : Nat) : Nat := ((r m).head?).getD 0
theorem hdR_cons {r : Nat → List Nat} {m : Nat} (h : r m ≠ []) : r m = hdR r m :: (r m).tail := by
  unfold hdR
  cases q : r m with
  | nil => exact absurd q h
  | cons a t => rfl
/-- from m on the first notes come to an end -/
inductive Dead (r : Nat → List Nat) : Nat → Prop where
  | nil {m : Nat} (h : r m = []) : Dead r m
  | go {m : Nat} (h : r m ≠ []) (d : Dead r (hdR r m)) : Dead r m
structure RingR (N : Nat) (r : Nat → List Nat) (L : List Nat) : Prop where
  nd : L.Nodup
  n0 : L ≠ []
  lt : ∀ j ∈ L, j < N
  ne : ∀ j ∈ L, r j ≠ []
  go : (L.map (hdR r)).Perm L
/-- row goes along the first notes and then comes to m -/
def Chain (r : Nat → List Nat) : List Nat → Nat → Prop
  | [], _ => True
  | [x], m => hdR r x = m
  | x :: y :: l, m => hdR r x = y ∧ Chain r (y :: l) m
theorem chain_snoc {r : Nat → List Nat} {m : Nat} : ∀ {l : List Nat}, Chain r l m → Chain r (l ++ [m]) (hdR r m)
  | [], _ => rfl
  | [x], h => ⟨h, rfl⟩
  | x :: y :: l, h => ⟨h.1, chain_snoc (l := y :: l) h.2⟩
theorem chain_map {r : Nat → List Nat} {m : Nat} : ∀ {x : Nat} {l : List Nat}, Chain r (x :: l) m → (x :: l).map (hdR r) = l ++ [m]
  | x, [], h => by
    have h' : hdR r x = m := h
    simp [h']
  | x, y :: l, h => by
    rw [List.map_cons, chain_map (x := y) (l := l) h.2, h.1]
    rfl
theorem chain_drop {r : Nat → List Nat} {m : Nat} : ∀ {l : List Nat} (j : Nat), Chain r l m → Chain r (l.drop j) m
  | _, 0, h => h
  | [], _ + 1, _ => trivial
  | [x], j + 1, h => by simp [Chain]
  | x :: y :: l, j + 1, h => chain_drop (l := y :: l) j h.2
theorem chain_dead {r : Nat → List Nat} {m : Nat} (d : Dead r m) : ∀ {l : List Nat}, Chain r l m → (∀ x ∈ l, r x ≠ []) → ∀ x ∈ l, Dead r x
  | [], _, _, x, hx => by cases hx
  | [y], h, hn, x, hx => by
    rw [List.mem_singleton.mp hx]
    have h' : hdR r y = m := h
    exact .go (hn y (List.mem_cons_self ..)) (by rw [h']; exact d)
  | y :: z :: l, h, hn, x, hx => by
    have ih := chain_dead d (l := z :: l) h.2 fun x hx => hn x (List.mem_cons_of_mem _ hx)
    rcases List.mem_cons.mp hx with rfl | hx
    · exact .go (hn x (List.mem_cons_self ..)) (by rw [h.1]; exact ih z (List.mem_cons_self ..))
    · exact ih x hx
/-- what is cut off where the way comes back to it is a ring -/
theorem ring_of {N : Nat} {r : Nat → List Nat} {row : List Nat} {m j : Nat} (c : Chain r row m) (nd : row.Nodup) (lt : ∀ x ∈ row, x < N) (ne : ∀ x ∈ row, r x ≠ []) (hj : row[j]? = some m) (l : Nat) : RingR N r ((row.drop j).drop l ++ (row.drop j).take l) := by
  have hd : row.drop j = m :: row.drop (j + 1) := by
    obtain ⟨h1, h2⟩ := List.getElem?_eq_some_iff.mp hj
    rw [List.drop_eq_getElem_cons h1, h2]
  have pm : ((row.drop j).drop l ++ (row.drop j).take l).Perm (row.drop j) := by
    refine List.perm_append_comm.trans ?_
    rw [List.take_append_drop]
  have sub : ∀ x ∈ (row.drop j).drop l ++ (row.drop j).take l, x ∈ row := fun x hx => List.mem_of_mem_drop (pm.mem_iff.mp hx)
  have mp : ((row.drop j).map (hdR r)).Perm (row.drop j) := by
    have cd := chain_drop j c
    rw [hd] at cd ⊢
    rw [chain_map cd]
    exact List.perm_append_comm (l₁ := row.drop (j + 1)) (l₂ := [m])
  refine ⟨pm.nodup_iff.mpr (nd.sublist (List.drop_sublist _ _)), fun e => ?_, fun x hx => lt x (sub x hx), fun x hx => ne x (sub x hx), ((pm.map _).trans mp).trans pm.symm⟩
  have := pm.length_eq
  rw [e, hd] at this
  simp at this
/-! ### the dict of those seen -/
def kv (ks : List (Nat × Nat)) : List (L2.Key × D) := ks.map fun p => ((.inl (p.1 : Int) : L2.Key), D.int (p.2 : Int))
theorem look_kv {m : Nat} : ∀ {ks : List (Nat × Nat)}, (lookK (.inl (m : Int) : L2.Key) (kv ks)).isSome = decide (m ∈ ks.map (·.1))
  | [] => rfl
  | (a, b) :: ks => by
    unfold kv
    rw [List.map_cons, lookK]
    by_cases e : a = m
    · subst e
      simp
    · have ne : ¬ ((.inl (a : Int) : L2.Key) = .inl (m : Int)) := fun z => e (by simpa [Int.ofNat_inj] using z)
      rw [if_neg ne]
      have ih := look_kv (m := m) (ks := ks)
      unfold kv at ih
      rw [ih]
      simp [Ne.symm e]
theorem put_kv {m s : Nat} {ks : List (Nat × Nat)} (h : m ∉ ks.map (·.1)) : putK (.inl (m : Int) : L2.Key) (.int (s : Int)) (kv ks) = kv (ks ++ [(m, s)]) := by
  unfold putK
  rw [if_neg]
  · unfold kv
    rw [List.map_append]
    rfl
  · intro w
    obtain ⟨p, hp, e⟩ := List.any_eq_true.mp w
    unfold kv at hp
    obtain ⟨q, hq, rfl⟩ := List.mem_map.mp hp
    have e2 := of_decide_eq_true e
    have : q.1 = m := by simpa [Int.ofNat_inj] using e2
    exact h (List.mem_map.mpr ⟨q, hq, this⟩)
theorem has_kv {st xs : Sto} {i m : Nat} {ks : List (Nat × Nat)} (h : xs[i]? = some (.dk (kv ks))) : hasK (st ++ xs) (.int (m : Int)) (.loc (st.length + i)) = some (decide (m ∈ ks.map (·.1))) := by
  unfold hasK lookD dkOf
  simp only [ap_get, h, keyOf, Option.map_some]
  rw [look_kv]
def cR : Ex := (.and (.op (.cmp .NotIn) (.cons (.var 5) (.cons (.var 2) .nil))) (.op (.cmp .NotEq) (.cons (.op .sub (.cons (.var 0) (.cons (.var 5) .nil))) (.cons (.op .tup .nil) .nil))))
def bR : Ss := (.cons (.setS (.var 2) (.var 5) (.var 3))
  (.cons (.ex (.meth .append (.var 4) (.cons (.var 5) .nil)))
  (.cons (.asg (.v 5) (.op .sub (.cons (.op .sub (.cons (.var 0) (.cons (.var 5) .nil))) (.cons (.cst (.int 0)) .nil))))
  .nil)))
def eR (N : Nat) (r : Nat → List Nat) (l : Nat) (s m : Nat) (x6 x7 : Option D) : Ro.Env := [some (dbT N r), some (.loc l), some (.loc (l + 1)), some (.int (s : Int)), some (.loc (l + 2)), some (.int (m : Int)), x6, x7]
def sR (st : Sto) (F : List D) (ks : List (Nat × Nat)) (row : List Nat) : Sto := st ++ [.lst F, .dk (kv ks), .lst (nD row)]
theorem nD_app {xs ys : List Nat} : nD xs ++ nD ys = nD (xs ++ ys) := by
  unfold nD
  rw [List.map_append]
theorem turnR {C : CallF} {N : Nat} {r : Nat → List Nat} {st : Sto} {F : List D} {ks : List (Nat × Nat)} {row : List Nat} {s m : Nat} {x6 x7 : Option D} (hm : m < N) (hk : ks.length < sizeLine) (hrow : row.length < sizeLine) :
    wt C false cR bR (eR N r st.length s m x6 x7) (sR st F ks row) = if m ∉ ks.map (·.1) ∧ r m ≠ [] then some (.inr (eR N r st.length s (hdR r m) x6 x7, sR st F (ks ++ [(m, s)]) (row ++ [m]))) else some (.inl (.nx (eR N r st.length s m x6 x7) (sR st F ks row))) := by
  have h1 : hasK (st ++ [.lst F, .dk (kv ks), .lst (nD row)]) (.int (m : Int)) (.loc (st.length + 1)) = some (decide (m ∈ ks.map (·.1))) := has_kv (i := 1) rfl
  have ta : ∀ f : Nat → D, ixD (tab N f) (m : Int) = some (f m) := fun f => tab_at hm
  unfold wt cR eR sR
  by_cases q1 : m ∈ ks.map (·.1)
  · have q1' : decide (m ∈ ks.map (·.1)) = true := decide_eq_true q1
    rw [if_neg (fun z => z.1 q1)]
    rw [q1'] at h1
    simp [h1]
  · have q1' : decide (m ∈ ks.map (·.1)) = false := decide_eq_false q1
    rw [q1'] at h1
    by_cases q2 : r m = []
    · rw [if_neg (fun z => z.2 q2)]
      simp [h1, ta, q2]
    · rw [if_pos ⟨q1, q2⟩]
      have r0 : ixD (nD (r m)) 0 = some (.int (hdR r m : Int)) := by
        rw [hdR_cons q2]
        exact ix_nat (i := 0)
      have q3 : (r m).isEmpty = false := by simpa using q2
      have nk : kv (ks ++ [(m, s)]) = putK (.inl (m : Int) : L2.Key) (.int (s : Int)) (kv ks) := (put_kv q1).symm
      have lk : (kv ks).length < sizeLine := by simpa [kv] using hk
      have lr : (nD row).length < sizeLine := by rw [nD_len]; exact hrow
      have ap : nD (row ++ [m]) = nD row ++ [.int (m : Int)] := nD_app.symm
      simp [h1, ta, q3, bR, r0, turn_no, nk, lk, lr, ap]
theorem nodup_le : ∀ {N : Nat} {l : List Nat}, l.Nodup → (∀ x ∈ l, x < N) → l.length ≤ N
  | 0, l, _, h => by
    cases l with
    | nil => exact Nat.le_refl _
    | cons a l => exact absurd (h a (List.mem_cons_self ..)) (by omega)
  | N + 1, l, nd, h => by
    have ih := nodup_le (N := N) (l := l.erase N) (nd.erase N) fun x hx => by
      have h1 := h x (List.mem_of_mem_erase hx)
      have h2 : x ≠ N := fun e => by
        subst e
        exact nd.not_mem_erase hx
      omega
    rw [List.length_erase] at ih
    split at ih
    · omega
    · omega
/-- the inner loop's end -/
structure EndR (N : Nat) (r : Nat → List Nat) (ks : List Nat) (s : Nat) (row : List Nat) (m : Nat) : Prop where
  c : Chain r row m
  nd : (ks ++ row).Nodup
  lt : ∀ x ∈ row, x < N
  ne : ∀ x ∈ row, r x ≠ []
  ml : m < N
  st : (row = [] ∧ m = s) ∨ s ∈ row
theorem innerR {N : Nat} {r : Nat → List Nat} (ok : okR N r) (hN : N < sizeLine) {ks : List (Nat × Nat)} {s : Nat} (nd : (ks.map (·.1)).Nodup) (lt : ∀ x ∈ ks.map (·.1), x < N) : ∀ (q : Nat) (row : List Nat) (m : Nat), N - row.length = q → EndR N r (ks.map (·.1)) s row m →
    ∃ row' m', (∀ (C : CallF) (st : Sto) (F : List D) (x6 x7 : Option D), wRun (wt C false cR bR) (eR N r st.length s m x6 x7) (sR st F (ks ++ row.map fun x => (x, s)) row) = some (.nx (eR N r st.length s m' x6 x7) (sR st F (ks ++ row'.map fun x => (x, s)) row'))) ∧ EndR N r (ks.map (·.1)) s row' m' ∧ (m' ∈ ks.map (·.1) ++ row' ∨ r m' = []) := by
  have keys : ∀ row : List Nat, (ks ++ row.map fun x => (x, s)).map (·.1) = ks.map (·.1) ++ row := fun row => by
    rw [List.map_append, List.map_map]
    congr 1
    exact List.map_id' row
  intro q
  induction q using Nat.strongRecOn with
  | _ q ih =>
    intro row m hq e
    have all : ∀ x ∈ ks.map (·.1) ++ row, x < N := fun x hx => (List.mem_append.mp hx).elim (lt x) (e.lt x)
    have len := nodup_le e.nd all
    rw [List.length_append, List.length_map] at len
    have t := fun (C : CallF) (st : Sto) (F : List D) (x6 x7 : Option D) => turnR (C := C) (r := r) (st := st) (F := F) (ks := ks ++ row.map fun x => (x, s)) (row := row) (s := s) (m := m) (x6 := x6) (x7 := x7) e.ml (by rw [List.length_append, List.length_map]; omega) (by omega)
    simp only [keys] at t
    by_cases q : m ∉ ks.map (·.1) ++ row ∧ r m ≠ []
    · simp only [if_pos q] at t
      have hlt : (ks.map (·.1) ++ (row ++ [m])).Nodup := by
        rw [← List.append_assoc, List.nodup_append]
        refine ⟨e.nd, by simp, fun a ha b hb z => ?_⟩
        rw [List.mem_singleton] at hb
        exact q.1 (by rw [← hb, ← z]; exact ha)
      have lx : ∀ x ∈ row ++ [m], x < N := fun x hx => by
        rcases List.mem_append.mp hx with h | h
        · exact e.lt x h
        · rw [List.mem_singleton.mp h]; exact e.ml
      have l2 := nodup_le (N := N) hlt fun x hx => (List.mem_append.mp hx).elim (lt x) (lx x)
      rw [List.length_append, List.length_map, List.length_append, List.length_singleton] at l2
      obtain ⟨row', m', g1, g2, g3⟩ := ih (N - (row ++ [m]).length) (by rw [List.length_append, List.length_singleton]; omega) (row ++ [m]) (hdR r m) rfl
        ⟨chain_snoc e.c, hlt, lx, fun x hx => by
          rcases List.mem_append.mp hx with h | h
          · exact e.ne x h
          · rw [List.mem_singleton.mp h]; exact q.2, by
          have hm : hdR r m ∈ r m := by
            have e2 := hdR_cons q.2
            rw [e2]
            exact List.mem_cons_self ..
          exact (ok m e.ml _ hm).1, by
          right
          rcases e.st with ⟨rfl, h2⟩ | h
          · have h3 : m = s := h2
            rw [h3]
            simp
          · exact List.mem_append_left _ h⟩
      refine ⟨row', m', fun C st F x6 x7 => wRun_go (t C st F x6 x7) ?_, g2, g3⟩
      have := g1 C st F x6 x7
      rw [List.map_append, ← List.append_assoc] at this
      exact this
    · simp only [if_neg q] at t
      refine ⟨row, m, fun C st F x6 x7 => wRun_end (t C st F x6 x7), e, ?_⟩
      by_cases q1 : m ∈ ks.map (·.1) ++ row
      · exact .inl q1
      · refine .inr ?_
        by_cases q2 : r m = []
        · exact q2
        · exact absurd ⟨q1, q2⟩ q
end T68
end
section
set_option Elab.async false
set_option linter.all false
set_option autoImplicit false
set_option maxHeartbeats 4000000
set_option maxRecDepth 10000
namespace T68
open PySem Ro

/-! ## rings, the outer loop -/
theorem ints_nD {xs : List Nat} : intsOf (nD xs) = some (xs.map fun (n : Nat) => (n : Int)) := by
  induction xs with
  | nil => rfl
  | cons a xs ih =>
    show (intsOf (nD xs)).map _ = _
    rw [ih]
    rfl
theorem first_nat {m : Nat} : ∀ {xs : List Nat}, m ∈ xs → ∃ j, firstI (m : Int) (xs.map fun (n : Nat) => (n : Int)) = some j ∧ xs[j]? = some m
  | a :: xs, h => by
    rw [List.map_cons, firstI]
    by_cases e : a = m
    · subst e
      exact ⟨0, by rw [if_pos rfl], rfl⟩
    · rw [if_neg (fun z => e (by simpa [Int.ofNat_inj] using z))]
      rcases List.mem_cons.mp h with q | q
      · exact absurd q.symm e
      · obtain ⟨j, h1, h2⟩ := first_nat q
        exact ⟨j + 1, by rw [h1]; rfl, by simpa using h2⟩
theorem min_nat : ∀ {xs : List Nat}, xs ≠ [] → ∃ m, m ∈ xs ∧ minL (xs.map fun (n : Nat) => (n : Int)) = some (m : Int)
  | [a], _ => ⟨a, List.mem_cons_self .., rfl⟩
  | a :: b :: xs, _ => by
    obtain ⟨m, h1, h2⟩ := min_nat (xs := b :: xs) (by simp)
    rw [List.map_cons]
    show ∃ m', m' ∈ a :: b :: xs ∧ (match (b :: xs).map (fun (n : Nat) => (n : Int)) with
      | [] => some (a : Int)
      | _ => (minL ((b :: xs).map fun (n : Nat) => (n : Int))).map fun m => if m < (a : Int) then m else (a : Int)) = some (m' : Int)
    rw [h2]
    simp only [List.map_cons, Option.map_some]
    by_cases q : (m : Int) < (a : Int)
    · exact ⟨m, List.mem_cons_of_mem _ h1, by rw [if_pos q]⟩
    · exact ⟨a, List.mem_cons_self .., by rw [if_neg q]⟩
theorem cut_from {xs : List D} {j : Nat} : cutD xs (some (j : Int)) none = xs.drop j := by
  unfold cutD
  have h1 : HT.sIx xs.length 0 (some (j : Int)) = min j xs.length := HT.sIx_nat _ _ _
  have h2 : HT.sIx xs.length xs.length none = xs.length := rfl
  rw [h1, h2]
  rcases Nat.le_total j xs.length with q | q
  · rw [Nat.min_eq_left q, List.take_of_length_le (by rw [List.length_drop]; exact Nat.le_refl _)]
  · rw [Nat.min_eq_right q, List.drop_eq_nil_of_le q]
    simp
theorem cut_to {xs : List D} {j : Nat} : cutD xs none (some (j : Int)) = xs.take j := by
  unfold cutD
  have h1 : HT.sIx xs.length xs.length (some (j : Int)) = min j xs.length := HT.sIx_nat _ _ _
  have h2 : HT.sIx xs.length 0 none = 0 := rfl
  rw [h1, h2]
  rcases Nat.le_total j xs.length with q | q
  · rw [Nat.min_eq_left q]
    simp
  · rw [Nat.min_eq_right q, List.take_of_length_le q]
    simp
def bO : Ss := (.cons (.par [4, 5] (.cons (.op (.lst true) .nil) (.cons (.var 3) .nil)))
  (.cons (.whl false cR bR)
  (.cons (.ifs (.op (.cmp .In) (.cons (.var 5) (.cons (.var 4) .nil))) (.cons (.asg (.v 6) (.slice (.var 4) (.cons (.meth .index (.var 4) (.cons (.var 5) .nil)) .nil) .nil))
  (.cons (.asg (.v 7) (.meth .index (.var 6) (.cons (.op .min1 (.cons (.var 6) .nil)) .nil)))
  (.cons (.ex (.meth .append (.var 1) (.cons (.op (.tuple false) (.cons (.op (.bin .Add) (.cons (.slice (.var 6) (.cons (.var 7) .nil) .nil) (.cons (.slice (.var 6) .nil (.cons (.var 7) .nil)) .nil))) .nil)) .nil)))
  .nil))) .nil)
  .nil)))
def rgD (rs : List (List Nat)) : List D := rs.map fun L => D.tup (nD L)
/-- a slot that holds nothing of the store -/
def nolO : Option D → Bool
  | none => true
  | some d => nol d
def eO (N : Nat) (r : Nat → List Nat) (l : Nat) (x : List (Option D)) : Ro.Env := some (dbT N r) :: some (.loc l) :: some (.loc (l + 1)) :: x
/-- what holds between the starts -/
structure InvR (N : Nat) (r : Nat → List Nat) (done : List Nat) (rs : List (List Nat)) (ks : List (Nat × Nat)) : Prop where
  nd : (ks.map (·.1)).Nodup
  lt : ∀ x ∈ ks.map (·.1), x < N
  rg : ∀ L ∈ rs, RingR N r L
  few : rs.length ≤ done.length
  dead : rs = [] → (∀ x ∈ ks.map (·.1), Dead r x) ∧ ∀ x ∈ done, Dead r x
theorem nol_rg {rs : List (List Nat)} : nolL (rgD rs) = true := nolL_of fun x hx => by
  obtain ⟨L, _, rfl⟩ := List.mem_map.mp hx
  rw [nol]
  exact nol_nD
theorem fzE_cons {st : Sto} {b : Nat} {d e : D} {ρ ρ' : Ro.Env} (h : fzD st b d = some e) (h' : fzE st b ρ = some ρ') : fzE st b (some d :: ρ) = some (some e :: ρ') := by
  rw [fzE, h, h']
theorem fzE_nol {st : Sto} {b : Nat} : ∀ {ρ : Ro.Env}, (∀ o ∈ ρ, nolO o = true) → fzE st b ρ = some ρ
  | [], _ => by rw [fzE]
  | none :: ρ, h => by
    rw [fzE, fzE_nol fun o ho => h o (List.mem_cons_of_mem _ ho)]
    rfl
  | some d :: ρ, h => fzE_cons (fz_nol (h _ (List.mem_cons_self ..))) (fzE_nol fun o ho => h o (List.mem_cons_of_mem _ ho))
theorem fz_old {st : Sto} {b n : Nat} (h : n < b) : fzD st b (.loc n) = some (.loc n) := by
  rw [fzD, if_pos h]
theorem ft_fz {C : CallF} {t : Tg} {b : Ss} {st0 st1 st2 : Sto} {x : D} {ρ ρ' ρ2 ρ3 : Ro.Env} (h1 : bindT t x ρ = some ρ') (h2 : exSs C b ρ' st1 = some (.nx ρ2 st2)) (h3 : fzE st2 st1.length ρ2 = some ρ3) (g : gcOk st1.length st1 st2) : ft C true t b [] st0 x ρ st1 = some (.inr (ρ3, st2.take st1.length)) := by
  unfold ft
  rw [h1]
  simp only []
  rw [h2, grdF_nil, turn_fz h3 g]
theorem gc2 {st xs : Sto} {a b a' b' : Ob} (ha : belowO (st.length + 2) a' = true) (hb : belowO (st.length + 2) b' = true) : gcOk (st ++ [a, b]).length (st ++ [a, b]) (st ++ a' :: b' :: xs) := by
  have e : (st ++ [a, b]).length = st.length + 2 := by simp
  refine ⟨by rw [e]; simp, fun i hi => ?_⟩
  rw [e] at hi
  rcases Nat.lt_or_ge i st.length with q | q
  · left
    rw [List.getElem?_append_left q, List.getElem?_append_left q]
  · right
    have : i = st.length ∨ i = st.length + 1 := by omega
    rcases this with rfl | rfl
    · exact ⟨a', by rw [ap_get0]; rfl, by rw [e]; exact ha⟩
    · exact ⟨b', by rw [ap_get]; rfl, by rw [e]; exact hb⟩
theorem kv_nol {ks : List (Nat × Nat)} {b : Nat} : belowO b (.dk (kv ks)) = true := by
  show belowL b ((kv ks).map (·.2)) = true
  refine belowL_nol (nolL_of fun x hx => ?_)
  unfold kv at hx
  rw [List.map_map] at hx
  obtain ⟨p, _, rfl⟩ := List.mem_map.mp hx
  rfl
theorem outerR {N : Nat} {r : Nat → List Nat} (ok : okR N r) (hN : N < 1000) {done : List Nat} {rs : List (List Nat)} {ks : List (Nat × Nat)} {s : Nat} (hs : s < N) (hd : done.length < 1000) (i : InvR N r done rs ks) :
    ∃ rs' ks', (∀ (C : CallF) (st : Sto) (x : List (Option D)), x.length = 5 → (∀ o ∈ x, nolO o = true) → ∃ x', ft C true (.v 3) bO [] (st ++ [.lst [], .dk []]) (.int (s : Int)) (eO N r st.length x) (st ++ [.lst (rgD rs), .dk (kv ks)]) = some (.inr (eO N r st.length x', st ++ [.lst (rgD rs'), .dk (kv ks')])) ∧ x'.length = 5 ∧ ∀ o ∈ x', nolO o = true) ∧ InvR N r (done ++ [s]) rs' ks' := by
  have big : N < sizeLine := Nat.lt_trans hN (by decide)
  obtain ⟨row, m, hw, e, hend⟩ := innerR ok big i.nd i.lt _ [] s rfl ⟨trivial, by rw [List.append_nil]; exact i.nd, fun x hx => (by cases hx), fun x hx => (by cases hx), hs, .inl ⟨rfl, rfl⟩⟩
  have all : ∀ y ∈ ks.map (·.1) ++ row, y < N := fun y hy => (List.mem_append.mp hy).elim (i.lt y) (e.lt y)
  have keys : (ks ++ row.map fun x => (x, s)).map (·.1) = ks.map (·.1) ++ row := by
    rw [List.map_append, List.map_map]
    congr 1
    exact List.map_id' row
  have nd0 : nD [] = [] := rfl
  have w1 : ∀ (C : CallF) (st : Sto) (x6 x7 : Option D), exS C (.whl false cR bR) [some (dbT N r), some (.loc st.length), some (.loc (st.length + 1)), some (.int (s : Int)), some (.loc (st.length + 2)), some (.int (s : Int)), x6, x7] (st ++ [.lst (rgD rs), .dk (kv ks), .lst []]) = some (.nx [some (dbT N r), some (.loc st.length), some (.loc (st.length + 1)), some (.int (s : Int)), some (.loc (st.length + 2)), some (.int (m : Int)), x6, x7] (st ++ [.lst (rgD rs), .dk (kv (ks ++ row.map fun x => (x, s))), .lst (nD row)])) := by
    intro C st x6 x7
    rw [x_whl]
    have := hw C st (rgD rs) x6 x7
    rw [List.map_nil, List.append_nil] at this
    exact this
  have go : ∀ (C : CallF) (st : Sto) (x3 x4 x5 x6 x7 : Option D) (rs' : List (List Nat)) (y6 y7 : Option D), nolO y6 = true → nolO y7 = true →
      exSs C bO [some (dbT N r), some (.loc st.length), some (.loc (st.length + 1)), some (.int (s : Int)), x4, x5, x6, x7] (st ++ [.lst (rgD rs), .dk (kv ks)]) = some (.nx [some (dbT N r), some (.loc st.length), some (.loc (st.length + 1)), some (.int (s : Int)), some (.loc (st.length + 2)), some (.int (m : Int)), y6, y7] (st ++ [.lst (rgD rs'), .dk (kv (ks ++ row.map fun x => (x, s))), .lst (nD row)])) →
      ft C true (.v 3) bO [] (st ++ [.lst [], .dk []]) (.int (s : Int)) (eO N r st.length [x3, x4, x5, x6, x7]) (st ++ [.lst (rgD rs), .dk (kv ks)]) = some (.inr (eO N r st.length [some (.int (s : Int)), some (.lst (nD row)), some (.int (m : Int)), y6, y7], st ++ [.lst (rgD rs'), .dk (kv (ks ++ row.map fun x => (x, s)))])) := by
    intro C st x3 x4 x5 x6 x7 rs' y6 y7 h6 h7 hb
    have b1 : (st ++ [Ob.lst (rgD rs), Ob.dk (kv ks)]).length = st.length + 2 := by simp
    have fz := ft_fz (st0 := st ++ [.lst [], .dk []]) (ρ := eO N r st.length [x3, x4, x5, x6, x7]) (t := .v 3) (x := .int (s : Int)) (ρ3 := eO N r st.length [some (.int (s : Int)), some (.lst (nD row)), some (.int (m : Int)), y6, y7]) (by simp [eO]) hb (by
      rw [b1]
      refine fzE_cons (fz_nol nol_db) (fzE_cons (fz_old (by omega)) (fzE_cons (fz_old (by omega)) (fzE_cons (fz_nol rfl) (fzE_cons ?_ (fzE_cons (fz_nol rfl) (fzE_nol ?_))))))
      · rw [fzD, if_neg (by omega)]
        simp only [ap_get]
        show (if belowL (st.length + 2) (nD row) then some (D.lst (nD row)) else none) = _
        rw [if_pos (belowL_nol nol_nD)]
      · intro o ho
        simp only [List.mem_cons, List.not_mem_nil, or_false] at ho
        rcases ho with rfl | rfl
        · exact h6
        · exact h7) (gc2 (belowL_nol nol_rg) kv_nol)
    rw [fz, b1]
    congr 3
    rw [List.take_append, List.take_of_length_le (by omega)]
    simp
  by_cases q : m ∈ row
  · obtain ⟨j, f1, f2⟩ := first_nat q
    have hz : row.drop j ≠ [] := by
      intro z
      have : j < row.length := (List.getElem?_eq_some_iff.mp f2).1
      rw [List.drop_eq_nil_iff] at z
      omega
    obtain ⟨lo, l1, l2⟩ := min_nat hz
    obtain ⟨l, f3, f4⟩ := first_nat l1
    have rg : RingR N r ((row.drop j).drop l ++ (row.drop j).take l) := ring_of e.c ((List.nodup_append.mp e.nd).2.1) e.lt e.ne f2 l
    have inr : inL (.int (m : Int)) (nD row) = some true := by rw [inL_nat]; simp [q]
    have c1 : cutD (nD row) (some (j : Int)) none = nD (row.drop j) := by rw [cut_from, nD_drop]
    have c2 : cutD (nD (row.drop j)) (some (l : Int)) none = nD ((row.drop j).drop l) := by rw [cut_from, nD_drop]
    have c3 : cutD (nD (row.drop j)) none (some (l : Int)) = nD ((row.drop j).take l) := by
      rw [cut_to]
      unfold nD
      rw [List.map_take]
    have rl : row.length ≤ N := by
      have := nodup_le e.nd all
      rw [List.length_append] at this
      omega
    have sz : (nD ((row.drop j).drop l)).length + (nD ((row.drop j).take l)).length ≤ sizeLine := by
      rw [nD_len, nD_len, List.length_drop, List.length_take, List.length_drop]
      have : (1000 : Nat) ≤ sizeLine := by decide
      omega
    have sf : (rgD rs).length < sizeLine := by
      unfold rgD
      rw [List.length_map]
      have := i.few
      have : (1000 : Nat) ≤ sizeLine := by decide
      omega
    refine ⟨rs ++ [(row.drop j).drop l ++ (row.drop j).take l], ks ++ row.map fun x => (x, s), fun C st x hx nx => ?_, ⟨?_, ?_, ?_, ?_, ?_⟩⟩
    · match x, hx with
      | [x3, x4, x5, x6, x7], _ =>
      refine ⟨_, go C st x3 x4 x5 x6 x7 _ (some (.lst (nD (row.drop j)))) (some (.int (l : Int))) (by show nol (.lst (nD (row.drop j))) = true; rw [nol]; exact nol_nD) rfl ?_, rfl, ?_⟩
      rotate_left
      · intro o ho
        simp only [List.mem_cons, List.not_mem_nil, or_false] at ho
        rcases ho with rfl | rfl | rfl | rfl | rfl
        · rfl
        · show nol (.lst (nD row)) = true
          rw [nol]; exact nol_nD
        · rfl
        · show nol (.lst (nD (row.drop j))) = true
          rw [nol]; exact nol_nD
        · rfl
      unfold bO
      have ap : rgD (rs ++ [(row.drop j).drop l ++ (row.drop j).take l]) = rgD rs ++ [.tup (nD ((row.drop j).drop l) ++ nD ((row.drop j).take l))] := by
        unfold rgD
        rw [List.map_append, nD_app]
        rfl
      rw [ap]
      clear ap rg go f4
      generalize (row.drop j).drop l = A at c2 sz ⊢
      generalize (row.drop j).take l = B at c3 sz ⊢
      generalize row.drop j = P at c1 c2 c3 l2 f3 ⊢
      have w2 := w1 C st x6 x7
      simp [w2, inr, ints_nD, f1, f3, l2, c1, c2, c3, sz, sf]
    · rw [keys]; exact e.nd
    · rw [keys]; exact all
    · intro L hL
      rcases List.mem_append.mp hL with h | h
      · exact i.rg L h
      · rw [List.mem_singleton.mp h]; exact rg
    · rw [List.length_append, List.length_append]
      have := i.few
      simp
      omega
    · intro h
      simp at h
  · have inr : inL (.int (m : Int)) (nD row) = some false := by rw [inL_nat]; simp [q]
    refine ⟨rs, ks ++ row.map fun x => (x, s), fun C st x hx nx => ?_, ⟨?_, ?_, i.rg, ?_, ?_⟩⟩
    · match x, hx with
      | [x3, x4, x5, x6, x7], _ =>
      have n6 : nolO x6 = true := nx _ (by simp)
      have n7 : nolO x7 = true := nx _ (by simp)
      refine ⟨_, go C st x3 x4 x5 x6 x7 _ x6 x7 n6 n7 ?_, rfl, ?_⟩
      rotate_left
      · intro o ho
        simp only [List.mem_cons, List.not_mem_nil, or_false] at ho
        rcases ho with rfl | rfl | rfl | rfl | rfl
        · rfl
        · show nol (.lst (nD row)) = true
          rw [nol]; exact nol_nD
        · rfl
        · exact n6
        · exact n7
      unfold bO
      have w2 := w1 C st x6 x7
      simp [w2, inr]
    · rw [keys]; exact e.nd
    · rw [keys]; exact all
    · rw [List.length_append]
      have := i.few
      omega
    · intro h
      obtain ⟨d1, d2⟩ := i.dead h
      have dm : Dead r m := by
        rcases hend with h | h
        · rcases List.mem_append.mp h with h | h
          · exact d1 m h
          · exact absurd h q
        · exact .nil h
      have dr := chain_dead dm e.c e.ne
      refine ⟨fun y hy => ?_, fun y hy => ?_⟩
      · rw [keys] at hy
        rcases List.mem_append.mp hy with h | h
        · exact d1 y h
        · exact dr y h
      · rcases List.mem_append.mp hy with h | h
        · exact d2 y h
        · rw [List.mem_singleton.mp h]
          rcases e.st with ⟨_, rfl⟩ | h
          · exact dm
          · exact dr s h
end T68
end
section
set_option Elab.async false
set_option linter.all false
set_option autoImplicit false
set_option maxHeartbeats 4000000
set_option maxRecDepth 100000
namespace T68
open PySem Ro

theorem loopR {N : Nat} {r : Nat → List Nat} (ok : okR N r) (hN : N < 1000) : ∀ (l done : List Nat) (rs : List (List Nat)) (ks : List (Nat × Nat)), (∀ s ∈ l, s < N) → done.length + l.length < 1000 → InvR N r done rs ks →
    ∃ rs' ks', (∀ (C : CallF) (st : Sto) (x : List (Option D)), x.length = 5 → (∀ o ∈ x, nolO o = true) → ∃ x', fLoop (ft C true (.v 3) bO [] (st ++ [.lst [], .dk []])) (nD l) (eO N r st.length x) (st ++ [.lst (rgD rs), .dk (kv ks)]) = some (.nx (eO N r st.length x') (st ++ [.lst (rgD rs'), .dk (kv ks')])) ∧ x'.length = 5) ∧ InvR N r (done ++ l) rs' ks'
  | [], done, rs, ks, _, _, i => ⟨rs, ks, fun C st x hx nx => ⟨x, rfl, hx⟩, by rw [List.append_nil]; exact i⟩
  | s :: l, done, rs, ks, hl, hd, i => by
    rw [List.length_cons] at hd
    obtain ⟨rs1, ks1, h1, i1⟩ := outerR ok hN (hl s (List.mem_cons_self ..)) (by omega) i
    obtain ⟨rs2, ks2, h2, i2⟩ := loopR ok hN l (done ++ [s]) rs1 ks1 (fun x hx => hl x (List.mem_cons_of_mem _ hx)) (by rw [List.length_append, List.length_singleton]; omega) i1
    refine ⟨rs2, ks2, fun C st x hx nx => ?_, by rw [List.append_assoc] at i2; exact i2⟩
    obtain ⟨x1, e1, l1, n1⟩ := h1 C st x hx nx
    obtain ⟨x2, e2, l2⟩ := h2 C st x1 l1 n1
    exact ⟨x2, by
      show fLoop _ (.int (s : Int) :: nD l) _ _ = _
      rw [fLoop_go e1]
      exact e2, l2⟩
/-! ### sorted -/
def toI (L : List Nat) : List Int := L.map fun (n : Nat) => (n : Int)
theorem ins_toI (x : List Nat) : ∀ ys : List (List Nat), ∃ zs : List (List Nat), insX (toI x) (ys.map toI) = zs.map toI ∧ zs.Perm (x :: ys)
  | [] => ⟨[x], rfl, .refl _⟩
  | y :: ys => by
    rw [List.map_cons, insX]
    by_cases q : HT.lexLt (toI y) (toI x) = true
    · obtain ⟨zs, h1, h2⟩ := ins_toI x ys
      refine ⟨y :: zs, by rw [if_pos q, h1]; rfl, ?_⟩
      exact (h2.cons y).trans (.swap _ _ _)
    · exact ⟨x :: y :: ys, by rw [if_neg q]; rfl, .refl _⟩
theorem sort_toI : ∀ xs : List (List Nat), ∃ zs : List (List Nat), sortX (xs.map toI) = zs.map toI ∧ zs.Perm xs
  | [] => ⟨[], rfl, .refl _⟩
  | x :: xs => by
    obtain ⟨ys, h1, h2⟩ := sort_toI xs
    obtain ⟨zs, h3, h4⟩ := ins_toI x ys
    refine ⟨zs, ?_, h4.trans (h2.cons x)⟩
    unfold sortX at h1 ⊢
    rw [List.map_cons, List.foldr_cons, h1, h3]
theorem tups_rg : ∀ {rs : List (List Nat)}, (∀ L ∈ rs, L ≠ []) → tupsOf (rgD rs) = some (rs.map toI)
  | [], _ => rfl
  | L :: rs, h => by
    have ih := tups_rg (rs := rs) fun M hM => h M (List.mem_cons_of_mem _ hM)
    have hL := h L (List.mem_cons_self ..)
    cases L with
    | nil => exact absurd rfl hL
    | cons a L =>
      show tupsOf (.tup (.int (a : Int) :: nD L) :: rgD rs) = _
      rw [tupsOf, ih]
      have : intsOf (.int (a : Int) :: nD L) = some (toI (a :: L)) := ints_nD (xs := a :: L)
      rw [this]
      rfl
theorem sort_rg {rs : List (List Nat)} (h : ∀ L ∈ rs, L ≠ []) : ∃ zs : List (List Nat), sortD (rgD rs) = some (rgD zs) ∧ zs.Perm rs := by
  cases rs with
  | nil => exact ⟨[], rfl, .refl _⟩
  | cons L rs =>
    obtain ⟨zs, h1, h2⟩ := sort_toI (L :: rs)
    refine ⟨zs, ?_, h2⟩
    have hi : intsOf (rgD (L :: rs)) = none := rfl
    unfold sortD
    rw [hi, tups_rg h]
    simp only []
    rw [h1, List.map_map]
    refine congrArg some (List.map_congr_left fun M _ => ?_)
    show D.tup ((toI M).map D.int) = D.tup (nD M)
    rw [nD_int]
    rfl
theorem range_nat {N : Nat} (h : N ≤ sizeLine) : rangeD [.int (N : Int)] = some (rangeL 0 N) := by
  have h2 : sizeLine = 16777216 := by decide
  rw [h2] at h
  have t : (N : Int).toNat = N := Int.toNat_natCast N
  have e1 : (-(2 ^ 62) : Int) ≤ (N : Int) := by omega
  have e2 : (N : Int) < 2 ^ 62 := by omega
  have e3 : N ≤ sizeLine := by rw [h2]; exact h
  simp only [rangeD, e1, e2, t, true_and, e3, if_true]
theorem f_rings {N : Nat} {r : Nat → List Nat} (ok : okR N r) (hN : N < 500) : ∃ rings : List (List Nat), (∀ (n : Nat) (st : Sto), callN Tb (n + 1) 10 [dbT N r] st = some (.lst (rgD rings), st)) ∧ (∀ L ∈ rings, RingR N r L) ∧ (rings = [] → ∀ m, m < N → Dead r m) ∧ rings.length ≤ N := by
  obtain ⟨rs, ks, h1, i⟩ := loopR ok (by omega) (List.range N) [] [] [] (fun s hs => List.mem_range.mp hs) (by simp; omega) ⟨List.nodup_nil, fun x hx => (by cases hx), fun L hL => (by cases hL), Nat.le_refl _, fun _ => ⟨fun x hx => (by cases hx), fun x hx => (by cases hx)⟩⟩
  obtain ⟨zs, h2, h3⟩ := sort_rg (rs := rs) fun L hL => (i.rg L hL).n0
  refine ⟨zs, fun n st => ?_, fun L hL => i.rg L (h3.mem_iff.mp hL), fun e m hm => ?_, ?_⟩
  · rw [callN_at (d := d_rings_in) rfl]
    obtain ⟨x', e1, l1⟩ := h1 (callN Tb n) st [none, none, none, none, none] rfl (by simp [nolO])
    have rl : rangeL 0 N = nD (List.range N) := by
      unfold rangeL nD
      refine List.map_congr_left fun k _ => ?_
      rw [Int.zero_add]
    have sz : (N : Int) < 4611686018427387904 := by omega
    have sl : N ≤ sizeLine := Nat.le_trans (Nat.le_of_lt (Nat.lt_trans hN (by decide : 500 < 1000))) (by decide)
    have ef : exS (callN Tb n) (.for true (.v 3) (.range (.cons (.op .len (.cons (.var 0) .nil)) .nil)) bO) [some (dbT N r), some (.loc st.length), some (.loc (st.length + 1)), none, none, none, none, none] (st ++ [.lst [], .dk []]) = some (.nx (eO N r st.length x') (st ++ [.lst (rgD rs), .dk (kv ks)])) := by
      rw [x_for]
      have ei : evi (callN Tb n) (.range (.cons (.op .len (.cons (.var 0) .nil)) .nil)) [some (dbT N r), some (.loc st.length), some (.loc (st.length + 1)), none, none, none, none, none] (st ++ [.lst [], .dk []]) = some (nD (List.range N), [], st ++ [.lst [], .dk []]) := by
        simp [range_nat sl, rl]
      rw [ei]
      exact e1
    have nz : nolL (rgD zs) = true := nol_rg
    refine run_ret rfl ?_ (fin_nol (xs := [.lst (rgD rs), .dk (kv ks)]) (r := .lst (rgD zs)) (by rw [nol]; exact nz))
    have s1 : exS (callN Tb n) (.par [1, 2] (.cons (.op (.lst true) .nil) (.cons (.op .dnk .nil) .nil))) [some (dbT N r), none, none, none, none, none, none, none] st = some (.nx [some (dbT N r), some (.loc st.length), some (.loc (st.length + 1)), none, none, none, none, none] (st ++ [.lst [], .dk []])) := by simp
    have s3 : exS (callN Tb n) (.ret (.op (.sorted false) (.cons (.var 1) .nil))) (eO N r st.length x') (st ++ [.lst (rgD rs), .dk (kv ks)]) = some (.ret (.lst (rgD zs)) (st ++ [.lst (rgD rs), .dk (kv ks)])) := by
      simp [eO, h2]
    exact (ss_nx s1).trans ((ss_nx ef).trans (ss_ret s3))
  · have e2 : rs = [] := by
      rw [e] at h3
      exact h3.symm.eq_nil
    exact (i.dead e2).2 m (by simpa using hm)
  · have := i.few
    rw [h3.length_eq]
    simpa using this
end T68
end
section
set_option Elab.async false
set_option linter.all false
set_option autoImplicit false
set_option maxHeartbeats 4000000
set_option maxRecDepth 100000
namespace T68
open PySem Ro

/-! ## deeds, by the notes paid -/
open M68 (Sys Vec)
def payD (m : Nat) : D := .tup [.str "pay", .int (m : Int)]
def ringD (L : List Nat) : D := .tup [.str "ring", .tup (nD L)]
/-- small enough, and nobody owes himself -/
structure Good (S : Sys) : Prop where
  ok : M68.ok S
  few : S.N < 500
  sum : M68.sumN S.N (fun m => (S.r m).length) < 1000
abbrev dbS (S : Sys) (u : Vec) : D := dbT S.N (M68.R S u)
abbrev coS (S : Sys) (u : Vec) : D := coT S.N (M68.Cn S u)
theorem okU {S : Sys} (g : Good S) (u : Vec) : okR S.N (M68.R S u) := fun m hm o ho => g.ok m hm o (List.mem_of_mem_drop ho)
theorem hd_eq {S : Sys} {u : Vec} {m : Nat} : M68.hd S u m = hdR (M68.R S u) m := rfl
theorem ring_eq {S : Sys} {u : Vec} {L : List Nat} (h : RingR S.N (M68.R S u) L) : M68.Ring S u L := ⟨h.nd, h.lt, h.ne, h.go⟩
theorem pair_eq {a b c d : D} (h : a = c) (k : b = d) : [a, b] = [c, d] := by rw [h, k]
theorem pay_step {S : Sys} (g : Good S) {u : Vec} (f : M68.Fea S u) {m : Nat} (hm : m < S.N) (p : M68.payer S u m) {n : Nat} {st : Sto} : callN Tb (n + 1) 12 [dbS S u, coS S u, payD m] st = some (.tup [dbS S (M68.inc u m), coS S (M68.inc u m)], st) := by
  have hr := M68.R_cons p.1
  have hmem : M68.hd S u m ∈ M68.R S u m := by
    rw [hr]
    exact List.mem_cons_self ..
  obtain ⟨o1, o2⟩ := okU g u m hm _ hmem
  unfold payD
  rw [f_pay hm hr o1 o2 p.2]
  refine congrArg some (congrArg (·, st) (congrArg D.tup ?_))
  refine pair_eq (congrArg D.tup (tab_ext fun k hk => ?_)) (congrArg D.tup (tab_ext fun k hk => ?_))
  · rw [M68.pay_rows]
    unfold upd
    by_cases e : k = m
    · subst e; simp
    · simp [e]
  · rw [M68.pay_coins hm f p hk]
    unfold upd
    have pos := p.2
    by_cases e1 : k = M68.hd S u m
    · subst e1
      simp [o2]
    · by_cases e2 : k = m
      · subst e2
        simp [e1]
      · simp [e1, e2]
theorem ring_step {S : Sys} {u : Vec} (f : M68.Fea S u) {L : List Nat} (h : M68.Ring S u L) {n : Nat} {st : Sto} : callN Tb (n + 1) 12 [dbS S u, coS S u, ringD L] st = some (.tup [dbS S (M68.add u L), coS S (M68.add u L)], st) := by
  unfold ringD
  rw [f_ring]
  refine congrArg some (congrArg (·, st) (congrArg D.tup ?_))
  refine pair_eq (congrArg D.tup (tab_ext fun k hk => ?_)) (congrArg D.tup (tab_ext fun k hk => ?_))
  · rw [M68.ring_rows]
    by_cases e : k ∈ L
    · simp [e]
    · simp [e]
  · rw [M68.ring_coins f h hk]
theorem mem_payers {S : Sys} {u : Vec} {m : Nat} : m ∈ payers S.N (M68.R S u) (M68.Cn S u) ↔ m < S.N ∧ M68.payer S u m := by
  unfold payers M68.payer
  rw [List.mem_filter, List.mem_range]
  simp
theorem payers_len {N : Nat} {r : Nat → List Nat} {c : Nat → Nat} : (payers N r c).length ≤ N := by
  unfold payers
  refine Nat.le_trans (List.length_filter_le _ _) ?_
  simp
/-- the rings of a state, as they are told -/
noncomputable def rings (S : Sys) (u : Vec) : List (List Nat) := by
  classical
  exact if h : okR S.N (M68.R S u) ∧ S.N < 500 then Classical.choose (f_rings h.1 h.2) else []
theorem rings_spec {S : Sys} (g : Good S) (u : Vec) : (∀ (n : Nat) (st : Sto), callN Tb (n + 1) 10 [dbS S u] st = some (.lst (rgD (rings S u)), st)) ∧ (∀ L ∈ rings S u, RingR S.N (M68.R S u) L) ∧ (rings S u = [] → ∀ m, m < S.N → Dead (M68.R S u) m) ∧ (rings S u).length ≤ S.N := by
  have h : okR S.N (M68.R S u) ∧ S.N < 500 := ⟨okU g u, g.few⟩
  have e : rings S u = Classical.choose (f_rings h.1 h.2) := by
    unfold rings
    rw [dif_pos h]
  rw [e]
  exact Classical.choose_spec (f_rings h.1 h.2)
noncomputable def deeds (S : Sys) (u : Vec) : List D := (payers S.N (M68.R S u) (M68.Cn S u)).map payD ++ (rings S u).map ringD
theorem f_deeds {S : Sys} (g : Good S) (u : Vec) {n : Nat} {st : Sto} : callN Tb (n + 2) 11 [dbS S u, coS S u] st = some (.lst (deeds S u), st) := by
  obtain ⟨r1, r2, r3, r4⟩ := rings_spec g u
  rw [callN_at (d := d_deeds_in) rfl]
  have p1 := f_payers (n := n) (N := S.N) (r := M68.R S u) (c := M68.Cn S u) (st := st)
  have q1 := r1 n st
  have e1 : ev (callN Tb (n + 1)) (.comp false [2] (.v 2) (.seq (.call 9 (.cons (.var 0) (.cons (.var 1) .nil)))) .nil (.op .tup (.cons (.glob "PAY" (.str "pay")) (.cons (.var 2) .nil)))) [some (dbS S u), some (coS S u), none, none] st = some (.lst ((payers S.N (M68.R S u) (M68.Cn S u)).map payD), st) := by
    rw [w_compM (xs := nD (payers S.N (M68.R S u) (M68.Cn S u))) (ns := []) (st1 := st) (g := fun x => .tup [.str "pay", x]) (by simp [p1]) (by
      intro x hx
      simp [tn])]
    unfold nD
    rw [List.map_map]
    rfl
  have e2 : ev (callN Tb (n + 1)) (.comp false [3] (.v 3) (.seq (.call 10 (.cons (.var 0) .nil))) .nil (.op .tup (.cons (.glob "RING" (.str "ring")) (.cons (.var 3) .nil)))) [some (dbS S u), some (coS S u), none, none] st = some (.lst ((rings S u).map ringD), st) := by
    rw [w_compM (xs := rgD (rings S u)) (ns := []) (st1 := st) (g := fun x => .tup [.str "ring", x]) (by simp [q1]) (by
      intro x hx
      simp [tn])]
    unfold rgD
    rw [List.map_map]
    rfl
  have sz : ((payers S.N (M68.R S u) (M68.Cn S u)).map payD).length + ((rings S u).map ringD).length ≤ sizeLine := by
    rw [List.length_map, List.length_map]
    have := payers_len (N := S.N) (r := M68.R S u) (c := M68.Cn S u)
    have h2 : 1000 ≤ sizeLine := by decide
    have := g.few
    omega
  exact run_ret (r := .lst (deeds S u)) rfl (ss_ret (x_retE (w_addL e1 e2 sz))) fin_no
end T68
end
section
set_option Elab.async false
set_option linter.all false
set_option autoImplicit false
set_option maxHeartbeats 4000000
set_option maxRecDepth 100000
namespace T68
open PySem Ro
open M68 (Sys Vec)

/-! ## all that can be paid is paid -/
inductive PayRun (S : Sys) : Vec → List Nat → Vec → Prop where
  | nil (u : Vec) : PayRun S u [] u
  | cons {u v : Vec} {m : Nat} {l : List Nat} (hm : m < S.N) (p : M68.payer S u m) (h : PayRun S (M68.inc u m) l v) : PayRun S u (m :: l) v
def mu (S : Sys) (u : Vec) : Nat := M68.sumN S.N fun m => (S.r m).length - u m
theorem mu_inc {S : Sys} {u : Vec} {m : Nat} (hm : m < S.N) (p : M68.R S u m ≠ []) : mu S (M68.inc u m) < mu S u := by
  unfold M68.R at p
  rw [ne_eq, List.drop_eq_nil_iff] at p
  refine M68.sumN_lt (fun k _ => ?_) hm ?_
  · unfold M68.inc
    omega
  · unfold M68.inc
    rw [if_pos rfl]
    omega
abbrev pyS (S : Sys) (u : Vec) : List Nat := payers S.N (M68.R S u) (M68.Cn S u)
def cP : Ex := (.op (.cmp .NotEq) (.cons (.var 3) (.cons (.op (.lst false) .nil) .nil)))
def bP : Ss := (.cons (.ex (.meth .append (.var 2) (.cons (.op .tup (.cons (.glob "PAY" (.str "pay")) (.cons (.op .sub (.cons (.var 3) (.cons (.cst (.int 0)) .nil))) .nil))) .nil)))
  (.cons (.asg (.t [(.v 0), (.v 1)]) (.call 12 (.cons (.var 0) (.cons (.var 1) (.cons (.op .sub (.cons (.var 2) (.cons (.op .neg (.cons (.cst (.int 1)) .nil)) .nil))) .nil)))))
  (.cons (.asg (.v 3) (.call 9 (.cons (.var 0) (.cons (.var 1) .nil))))
  .nil)))
def eP (S : Sys) (u : Vec) (b : Nat) : Ro.Env := [some (dbS S u), some (coS S u), some (.loc b), some (.lst (nD (pyS S u)))]
theorem turnP0 {S : Sys} {u : Vec} {C : CallF} {st : Sto} {F : List D} (h : pyS S u = []) : wt C false cP bP (eP S u st.length) (st ++ [.lst F]) = some (.inl (.nx (eP S u st.length) (st ++ [.lst F]))) := by
  unfold wt cP eP
  rw [h]
  simp [nD]
theorem turnP1 {S : Sys} (g : Good S) {u : Vec} (f : M68.Fea S u) {m : Nat} {rest : List Nat} (h : pyS S u = m :: rest) {n : Nat} {st : Sto} {F : List D} (hF : F.length < 2000) :
    wt (callN Tb (n + 1)) false cP bP (eP S u st.length) (st ++ [.lst F]) = some (.inr (eP S (M68.inc u m) st.length, st ++ [.lst (F ++ [payD m])])) := by
  have hm : m ∈ pyS S u := by rw [h]; exact List.mem_cons_self ..
  obtain ⟨h1, h2⟩ := mem_payers.mp hm
  have s1 := pay_step g f h1 h2 (n := n) (st := st ++ [.lst (F ++ [payD m])])
  have s2 := f_payers (n := n) (N := S.N) (r := M68.R S (M68.inc u m)) (c := M68.Cn S (M68.inc u m)) (st := st ++ [.lst (F ++ [payD m])])
  have r0 : ixD (nD (m :: rest)) 0 = some (.int (m : Int)) := ix_nat (i := 0)
  have lt : F.length < sizeLine := Nat.lt_trans hF (by decide)
  have ne : (nD (m :: rest)).isEmpty = false := rfl
  have e1 : exS (callN Tb (n + 1)) (.ex (.meth .append (.var 2) (.cons (.op .tup (.cons (.glob "PAY" (.str "pay")) (.cons (.op .sub (.cons (.var 3) (.cons (.cst (.int 0)) .nil))) .nil))) .nil))) (eP S u st.length) (st ++ [.lst F]) = some (.nx (eP S u st.length) (st ++ [.lst (F ++ [payD m])])) := by
    unfold eP
    rw [h]
    simp [r0, lt]
    rfl
  have e2 : exS (callN Tb (n + 1)) (.asg (.t [(.v 0), (.v 1)]) (.call 12 (.cons (.var 0) (.cons (.var 1) (.cons (.op .sub (.cons (.var 2) (.cons (.op .neg (.cons (.cst (.int 1)) .nil)) .nil))) .nil))))) (eP S u st.length) (st ++ [.lst (F ++ [payD m])]) = some (.nx [some (dbS S (M68.inc u m)), some (coS S (M68.inc u m)), some (.loc st.length), some (.lst (nD (pyS S u)))] (st ++ [.lst (F ++ [payD m])])) := by
    unfold eP
    simp [ix_last, s1]
  have e3 : exS (callN Tb (n + 1)) (.asg (.v 3) (.call 9 (.cons (.var 0) (.cons (.var 1) .nil)))) [some (dbS S (M68.inc u m)), some (coS S (M68.inc u m)), some (.loc st.length), some (.lst (nD (pyS S u)))] (st ++ [.lst (F ++ [payD m])]) = some (.nx (eP S (M68.inc u m) st.length) (st ++ [.lst (F ++ [payD m])])) := by
    unfold eP
    simp [s2]
  have eb : exSs (callN Tb (n + 1)) bP (eP S u st.length) (st ++ [.lst F]) = some (.nx (eP S (M68.inc u m) st.length) (st ++ [.lst (F ++ [payD m])])) := (ss_nx e1).trans ((ss_nx e2).trans ((ss_nx e3).trans z_nil))
  have ec : ev (callN Tb (n + 1)) cP (eP S u st.length) (st ++ [.lst F]) = some (.bl true, st ++ [.lst F]) := by
    unfold cP eP
    rw [h]
    simp [ne]
  unfold wt
  rw [ec]
  simp only [tr_bl]
  rw [eb, turn_no]
theorem loopP {S : Sys} (g : Good S) : ∀ (q : Nat) (u : Vec) (pre : List Nat), mu S u = q → M68.Fea S u → pre.length + q < 2000 →
    ∃ v l, PayRun S u l v ∧ M68.noPay S v ∧ M68.Fea S v ∧ l.length ≤ q ∧ ∀ (n : Nat) (st : Sto), wRun (wt (callN Tb (n + 1)) false cP bP) (eP S u st.length) (st ++ [.lst (pre.map payD)]) = some (.nx (eP S v st.length) (st ++ [.lst ((pre ++ l).map payD)])) := by
  intro q
  induction q using Nat.strongRecOn with
  | _ q ih =>
    intro u pre hq f hl
    cases hp : pyS S u with
    | nil =>
      refine ⟨u, [], .nil u, fun m hm p => ?_, f, Nat.zero_le _, fun n st => ?_⟩
      · have : m ∈ pyS S u := mem_payers.mpr ⟨hm, p⟩
        rw [hp] at this
        cases this
      · rw [List.append_nil]
        exact wRun_end (turnP0 hp)
    | cons m rest =>
      have hm : m ∈ pyS S u := by rw [hp]; exact List.mem_cons_self ..
      obtain ⟨h1, h2⟩ := mem_payers.mp hm
      have lt := mu_inc h1 h2.1
      obtain ⟨v, l, r1, r2, r3, r4, r5⟩ := ih (mu S (M68.inc u m)) (by omega) (M68.inc u m) (pre ++ [m]) rfl (M68.pay_fea f h2) (by rw [List.length_append, List.length_singleton]; omega)
      refine ⟨v, m :: l, .cons h1 h2 r1, r2, r3, by rw [List.length_cons]; omega, fun n st => ?_⟩
      have t := turnP1 g f hp (n := n) (st := st) (F := pre.map payD) (by rw [List.length_map]; omega)
      refine wRun_go t ?_
      have := r5 n st
      rw [List.map_append, List.append_assoc] at this
      exact this
theorem nol_pays {l : List Nat} : nolL (l.map payD) = true := nolL_of fun x hx => by
  obtain ⟨m, _, rfl⟩ := List.mem_map.mp hx
  rfl
theorem mu_le {S : Sys} (g : Good S) (u : Vec) : mu S u < 1000 := by
  refine Nat.lt_of_le_of_lt (M68.sumN_le fun m _ => ?_) g.sum
  omega
theorem f_paid {S : Sys} (g : Good S) {u : Vec} (f : M68.Fea S u) : ∃ v l, PayRun S u l v ∧ M68.noPay S v ∧ M68.Fea S v ∧ l.length < 1000 ∧ ∀ (n : Nat) (st : Sto), callN Tb (n + 2) 13 [dbS S u, coS S u] st = some (.tup [dbS S v, coS S v, .lst (l.map payD)], st) := by
  have hmu := mu_le g u
  obtain ⟨v, l, r1, r2, r3, r4, r5⟩ := loopP g (mu S u) u [] rfl f (by rw [List.length_nil]; omega)
  refine ⟨v, l, r1, r2, r3, by omega, fun n st => ?_⟩
  rw [callN_at (d := d_paid_in) rfl]
  have p1 := f_payers (n := n) (N := S.N) (r := M68.R S u) (c := M68.Cn S u) (st := st ++ [.lst []])
  have s1 : exS (callN Tb (n + 1)) (.par [2, 3] (.cons (.op (.lst true) .nil) (.cons (.call 9 (.cons (.var 0) (.cons (.var 1) .nil))) .nil))) [some (dbS S u), some (coS S u), none, none] st = some (.nx (eP S u st.length) (st ++ [.lst []])) := by
    simp [p1]
    rfl
  have s2 : exS (callN Tb (n + 1)) (.whl false cP bP) (eP S u st.length) (st ++ [.lst []]) = some (.nx (eP S v st.length) (st ++ [.lst (l.map payD)])) := by
    rw [x_whl]
    exact r5 n st
  have s3 : exS (callN Tb (n + 1)) (.ret (.op .tup (.cons (.var 0) (.cons (.var 1) (.cons (.var 2) .nil))))) (eP S v st.length) (st ++ [.lst (l.map payD)]) = some (.ret (.tup [dbS S v, coS S v, .loc st.length]) (st ++ [.lst (l.map payD)])) := by
    simp [eP]
  refine run_ret rfl ((ss_nx s1).trans ((ss_nx s2).trans (ss_ret s3))) ?_
  have fz : fzD (st ++ [.lst (l.map payD)]) st.length (.tup [dbS S v, coS S v, .loc st.length]) = some (.tup [dbS S v, coS S v, .lst (l.map payD)]) := by
    rw [fzD, fzL, fz_nol nol_db, fzL, fz_nol nol_co, fzL, fz_loc0 rfl nol_pays, fzL]
    rfl
  exact (fin_gc fz gc_app).trans (by rw [ap_take])
end T68
end
section
set_option Elab.async false
set_option linter.all false
set_option autoImplicit false
set_option maxHeartbeats 4000000
set_option maxRecDepth 100000
namespace T68
open PySem Ro
open M68 (Sys Vec)

/-! ## all that can be cleared is cleared -/
inductive Deed where
  | pay (m : Nat) | ring (L : List Nat)
def Deed.D : Deed → Ro.D
  | .pay m => payD m
  | .ring L => ringD L
def Deed.ok (S : Sys) (u : Vec) : Deed → Prop
  | .pay m => m < S.N ∧ M68.payer S u m
  | .ring L => L ∈ rings S u
def Deed.to (u : Vec) : Deed → Vec
  | .pay m => M68.inc u m
  | .ring L => M68.add u L
inductive Run (S : Sys) : Vec → List Deed → Vec → Prop where
  | nil (u : Vec) : Run S u [] u
  | cons {u v : Vec} {d : Deed} {l : List Deed} (h : d.ok S u) (r : Run S (d.to u) l v) : Run S u (d :: l) v
theorem Run.app {S : Sys} {u v w : Vec} {l k : List Deed} (a : Run S u l v) (b : Run S v k w) : Run S u (l ++ k) w := by
  induction a with
  | nil u => exact b
  | cons h r ih => exact .cons h (ih b)
theorem PayRun.run {S : Sys} {u v : Vec} {l : List Nat} (a : PayRun S u l v) : Run S u (l.map Deed.pay) v := by
  induction a with
  | nil u => exact .nil u
  | cons hm p h ih => exact .cons (d := .pay _) ⟨hm, p⟩ ih
theorem ring_in {S : Sys} (g : Good S) {u : Vec} {L : List Nat} (h : L ∈ rings S u) : M68.Ring S u L := ring_eq ((rings_spec g u).2.1 L h)
theorem Deed.fea {S : Sys} (g : Good S) {u : Vec} (f : M68.Fea S u) {d : Deed} (h : d.ok S u) : M68.Fea S (d.to u) := by
  cases d with
  | pay m => exact M68.pay_fea f h.2
  | ring L => exact M68.ring_fea f (ring_in g h)
theorem mu_ring {S : Sys} (g : Good S) {u : Vec} {L : List Nat} (h : L ∈ rings S u) : mu S (M68.add u L) < mu S u := by
  have r := (rings_spec g u).2.1 L h
  cases hL : L with
  | nil => exact absurd hL r.n0
  | cons m t =>
    have hm : m ∈ L := by rw [hL]; exact List.mem_cons_self ..
    have ne := r.ne m hm
    unfold M68.R at ne
    rw [ne_eq, List.drop_eq_nil_iff] at ne
    rw [← hL]
    refine M68.sumN_lt (fun k _ => ?_) (r.lt m hm) ?_
    · unfold M68.add
      omega
    · unfold M68.add
      rw [if_pos hm]
      omega
theorem mu_pay {S : Sys} {u v : Vec} {l : List Nat} (a : PayRun S u l v) : mu S v + l.length ≤ mu S u := by
  induction a with
  | nil u => simp
  | cons hm p h ih =>
    have := mu_inc hm p.1
    rw [List.length_cons]
    omega
def bC : Ss := (.cons (.asg (.t [(.v 0), (.v 1), (.v 4)]) (.call 13 (.cons (.var 0) (.cons (.var 1) .nil))))
  (.cons (.asg (.v 2) (.op .cat (.cons (.var 2) (.cons (.var 4) .nil))))
  (.cons (.asg (.v 5) (.call 10 (.cons (.var 0) .nil)))
  (.cons (.asg (.v 3) (.op (.cmp .NotEq) (.cons (.var 5) (.cons (.op (.lst false) .nil) .nil))))
  (.cons (.ifs (.var 3) (.cons (.ex (.meth .append (.var 2) (.cons (.op .tup (.cons (.glob "RING" (.str "ring")) (.cons (.op .sub (.cons (.var 5) (.cons (.cst (.int 0)) .nil))) .nil))) .nil)))
  (.cons (.asg (.t [(.v 0), (.v 1)]) (.call 12 (.cons (.var 0) (.cons (.var 1) (.cons (.op .sub (.cons (.var 2) (.cons (.op .neg (.cons (.cst (.int 1)) .nil)) .nil))) .nil)))))
  .nil)) .nil)
  .nil)))))
def eC (S : Sys) (u : Vec) (F : List D) (b : Bool) (x y : Option D) : Ro.Env := [some (dbS S u), some (coS S u), some (.lst F), some (.bl b), x, y]
theorem e_cat {C : CallF} {a b : Ex} {ρ : Ro.Env} {st : Sto} {A B : List D} (h1 : ev C a ρ st = some (.lst A, st)) (h2 : ev C b ρ st = some (.lst B, st)) (sz : A.length + B.length ≤ sizeLine) : ev C (.op .cat (.cons a (.cons b .nil))) ρ st = some (.loc st.length, st ++ [.lst (A ++ B)]) := by
  simp [h1, h2, sz]
theorem turnC {S : Sys} (g : Good S) {u v : Vec} {l : List Nat} (hp : ∀ (n : Nat) (st : Sto), callN Tb (n + 2) 13 [dbS S u, coS S u] st = some (.tup [dbS S v, coS S v, .lst (l.map payD)], st)) (f : M68.Fea S v) (hl : l.length < 1000) {F : List D} (hF : F.length < 2000) (nF : nolL F = true) {n : Nat} {st : Sto} {x y : Option D} :
    ∃ x' y', wt (callN Tb (n + 2)) true (.var 3) bC (eC S u F true x y) st = some (.inr (match rings S v with
      | [] => eC S v (F ++ l.map payD) false x' y'
      | L :: _ => eC S (M68.add v L) (F ++ l.map payD ++ [ringD L]) true x' y', st)) := by
  have h0 := hp n st
  have z0 : 3000 ≤ sizeLine := by decide
  have sz : F.length + (l.map payD).length ≤ sizeLine := by rw [List.length_map]; omega
  obtain ⟨r1, r2, r3, r4⟩ := rings_spec g v
  have s1 : exS (callN Tb (n + 2)) (.asg (.t [(.v 0), (.v 1), (.v 4)]) (.call 13 (.cons (.var 0) (.cons (.var 1) .nil)))) (eC S u F true x y) st = some (.nx (eC S v F true (some (.lst (l.map payD))) y) st) := by
    unfold eC
    simp [h0]
  have s2 : exS (callN Tb (n + 2)) (.asg (.v 2) (.op .cat (.cons (.var 2) (.cons (.var 4) .nil)))) (eC S v F true (some (.lst (l.map payD))) y) st = some (.nx [some (dbS S v), some (coS S v), some (.loc st.length), some (.bl true), some (.lst (l.map payD)), y] (st ++ [.lst (F ++ l.map payD)])) := by
    rw [x_asg, e_cat (A := F) (B := l.map payD) (by simp [eC]) (by simp [eC]) sz]
    simp [eC]
  have q1 := r1 (n + 1) (st ++ [.lst (F ++ l.map payD)])
  have s3 : exS (callN Tb (n + 2)) (.asg (.v 5) (.call 10 (.cons (.var 0) .nil))) [some (dbS S v), some (coS S v), some (.loc st.length), some (.bl true), some (.lst (l.map payD)), y] (st ++ [.lst (F ++ l.map payD)]) = some (.nx [some (dbS S v), some (coS S v), some (.loc st.length), some (.bl true), some (.lst (l.map payD)), some (.lst (rgD (rings S v)))] (st ++ [.lst (F ++ l.map payD)])) := by
    simp [q1]
  have emp : (rgD (rings S v)).isEmpty = (rings S v).isEmpty := by
    unfold rgD
    cases rings S v <;> rfl
  have s4 : exS (callN Tb (n + 2)) (.asg (.v 3) (.op (.cmp .NotEq) (.cons (.var 5) (.cons (.op (.lst false) .nil) .nil)))) [some (dbS S v), some (coS S v), some (.loc st.length), some (.bl true), some (.lst (l.map payD)), some (.lst (rgD (rings S v)))] (st ++ [.lst (F ++ l.map payD)]) = some (.nx [some (dbS S v), some (coS S v), some (.loc st.length), some (.bl (!(rings S v).isEmpty)), some (.lst (l.map payD)), some (.lst (rgD (rings S v)))] (st ++ [.lst (F ++ l.map payD)])) := by
    simp [emp]
  have ec : ev (callN Tb (n + 2)) (.var 3) (eC S u F true x y) st = some (.bl true, st) := by simp [eC]
  have nP : nolL (F ++ l.map payD) = true := nolL_of fun x hx => (List.mem_append.mp hx).elim (nolL_at nF x) (nolL_at nol_pays x)
  -- what a turn's end freezes
  have fin : ∀ (w : Vec) (b : Bool) (G : List D), nolL G = true → fzE (st ++ [.lst G]) st.length [some (dbS S w), some (coS S w), some (.loc st.length), some (.bl b), some (.lst (l.map payD)), some (.lst (rgD (rings S v)))] = some (eC S w G b (some (.lst (l.map payD))) (some (.lst (rgD (rings S v))))) := fun w b G hG => by
    refine fzE_cons (fz_nol nol_db) (fzE_cons (fz_nol nol_co) (fzE_cons (fz_loc0 rfl hG) (fzE_cons (fz_nol rfl) (fzE_cons (fz_nol ?_) (fzE_cons (fz_nol ?_) rfl)))))
    · rw [nol]; exact nol_pays
    · rw [nol]; exact nol_rg
  refine ⟨some (.lst (l.map payD)), some (.lst (rgD (rings S v))), ?_⟩
  unfold wt
  rw [ec]
  simp only [tr_bl]
  cases hr : rings S v with
  | nil =>
    have s5 : exS (callN Tb (n + 2)) (.ifs (.var 3) (.cons (.ex (.meth .append (.var 2) (.cons (.op .tup (.cons (.glob "RING" (.str "ring")) (.cons (.op .sub (.cons (.var 5) (.cons (.cst (.int 0)) .nil))) .nil))) .nil)))
      (.cons (.asg (.t [(.v 0), (.v 1)]) (.call 12 (.cons (.var 0) (.cons (.var 1) (.cons (.op .sub (.cons (.var 2) (.cons (.op .neg (.cons (.cst (.int 1)) .nil)) .nil))) .nil))))) .nil)) .nil) [some (dbS S v), some (coS S v), some (.loc st.length), some (.bl (!(rings S v).isEmpty)), some (.lst (l.map payD)), some (.lst (rgD (rings S v)))] (st ++ [.lst (F ++ l.map payD)]) = some (.nx [some (dbS S v), some (coS S v), some (.loc st.length), some (.bl false), some (.lst (l.map payD)), some (.lst (rgD (rings S v)))] (st ++ [.lst (F ++ l.map payD)])) := by
      simp [hr]
    have eb : exSs (callN Tb (n + 2)) bC (eC S u F true x y) st = some (.nx [some (dbS S v), some (coS S v), some (.loc st.length), some (.bl false), some (.lst (l.map payD)), some (.lst (rgD (rings S v)))] (st ++ [.lst (F ++ l.map payD)])) := (ss_nx s1).trans ((ss_nx s2).trans ((ss_nx s3).trans ((ss_nx s4).trans ((ss_nx s5).trans z_nil))))
    rw [eb, turn_fz (fin v false _ nP) gc_app, ap_take, hr]
  | cons L Ls =>
    have hL : L ∈ rings S v := by rw [hr]; exact List.mem_cons_self ..
    have st2 := ring_step f (ring_in g hL) (n := n + 1) (st := st ++ [.lst (F ++ l.map payD ++ [ringD L])])
    have lt : (F ++ l.map payD).length < sizeLine := by rw [List.length_append, List.length_map]; omega
    have r0 : ixD (rgD (L :: Ls)) 0 = some (.tup (nD L)) := ix_nat (i := 0)
    have t1 : exS (callN Tb (n + 2)) (.ex (.meth .append (.var 2) (.cons (.op .tup (.cons (.glob "RING" (.str "ring")) (.cons (.op .sub (.cons (.var 5) (.cons (.cst (.int 0)) .nil))) .nil))) .nil))) [some (dbS S v), some (coS S v), some (.loc st.length), some (.bl true), some (.lst (l.map payD)), some (.lst (rgD (L :: Ls)))] (st ++ [.lst (F ++ l.map payD)]) = some (.nx [some (dbS S v), some (coS S v), some (.loc st.length), some (.bl true), some (.lst (l.map payD)), some (.lst (rgD (L :: Ls)))] (st ++ [.lst (F ++ l.map payD ++ [ringD L])])) := by
      generalize F ++ l.map payD = G at lt ⊢
      simp [r0, lt]
      rfl
    have t2 : exS (callN Tb (n + 2)) (.asg (.t [(.v 0), (.v 1)]) (.call 12 (.cons (.var 0) (.cons (.var 1) (.cons (.op .sub (.cons (.var 2) (.cons (.op .neg (.cons (.cst (.int 1)) .nil)) .nil))) .nil))))) [some (dbS S v), some (coS S v), some (.loc st.length), some (.bl true), some (.lst (l.map payD)), some (.lst (rgD (L :: Ls)))] (st ++ [.lst (F ++ l.map payD ++ [ringD L])]) = some (.nx [some (dbS S (M68.add v L)), some (coS S (M68.add v L)), some (.loc st.length), some (.bl true), some (.lst (l.map payD)), some (.lst (rgD (L :: Ls)))] (st ++ [.lst (F ++ l.map payD ++ [ringD L])])) := by
      generalize F ++ l.map payD = G at st2 ⊢
      simp [ix_last, st2]
    have s5 : exS (callN Tb (n + 2)) (.ifs (.var 3) (.cons (.ex (.meth .append (.var 2) (.cons (.op .tup (.cons (.glob "RING" (.str "ring")) (.cons (.op .sub (.cons (.var 5) (.cons (.cst (.int 0)) .nil))) .nil))) .nil)))
      (.cons (.asg (.t [(.v 0), (.v 1)]) (.call 12 (.cons (.var 0) (.cons (.var 1) (.cons (.op .sub (.cons (.var 2) (.cons (.op .neg (.cons (.cst (.int 1)) .nil)) .nil))) .nil))))) .nil)) .nil) [some (dbS S v), some (coS S v), some (.loc st.length), some (.bl (!(rings S v).isEmpty)), some (.lst (l.map payD)), some (.lst (rgD (rings S v)))] (st ++ [.lst (F ++ l.map payD)]) = some (.nx [some (dbS S (M68.add v L)), some (coS S (M68.add v L)), some (.loc st.length), some (.bl true), some (.lst (l.map payD)), some (.lst (rgD (rings S v)))] (st ++ [.lst (F ++ l.map payD ++ [ringD L])])) := by
      have tt := (ss_nx t1).trans ((ss_nx t2).trans z_nil)
      rw [hr, x_if]
      exact tt
    have eb : exSs (callN Tb (n + 2)) bC (eC S u F true x y) st = some (.nx [some (dbS S (M68.add v L)), some (coS S (M68.add v L)), some (.loc st.length), some (.bl true), some (.lst (l.map payD)), some (.lst (rgD (rings S v)))] (st ++ [.lst (F ++ l.map payD ++ [ringD L])])) := (ss_nx s1).trans ((ss_nx s2).trans ((ss_nx s3).trans ((ss_nx s4).trans ((ss_nx s5).trans z_nil))))
    have nR : nolL (F ++ l.map payD ++ [ringD L]) = true := nolL_of fun x hx => (List.mem_append.mp hx).elim (nolL_at nP x) fun h => by
      rw [List.mem_singleton.mp h]
      unfold ringD
      rw [nol, nolL, nolL, nolL, nol, nol, nol_nD]
      rfl
    rw [eb, turn_fz (fin (M68.add v L) true _ nR) gc_app, ap_take, hr]
end T68
end
section
set_option Elab.async false
set_option linter.all false
set_option autoImplicit false
set_option maxHeartbeats 4000000
set_option maxRecDepth 100000
namespace T68
open PySem Ro
open M68 (Sys Vec)

theorem nol_deeds {l : List Deed} : nolL (l.map Deed.D) = true := nolL_of fun x hx => by
  obtain ⟨d, _, rfl⟩ := List.mem_map.mp hx
  cases d with
  | pay m => rfl
  | ring L =>
    show nol (ringD L) = true
    unfold ringD
    rw [nol, nolL, nolL, nolL, nol, nol, nol_nD]
    rfl
theorem map_pays {l : List Nat} : (l.map Deed.pay).map Deed.D = l.map payD := by
  rw [List.map_map]
  rfl
theorem endC {C : CallF} {S : Sys} {u : Vec} {F : List D} {x y : Option D} {st : Sto} : wt C true (.var 3) bC (eC S u F false x y) st = some (.inl (.nx (eC S u F false x y) st)) := by
  unfold wt eC
  simp
theorem loopC {S : Sys} (g : Good S) : ∀ (q : Nat) (u : Vec) (pre : List Deed), mu S u = q → M68.Fea S u → pre.length + 2 * q < 2000 →
    ∃ v l, Run S u l v ∧ M68.noPay S v ∧ M68.Fea S v ∧ rings S v = [] ∧ l.length ≤ 2 * q + 1 ∧ ∀ (n : Nat) (st : Sto) (x y : Option D), ∃ x' y', wRun (wt (callN Tb (n + 2)) true (.var 3) bC) (eC S u (pre.map Deed.D) true x y) st = some (.nx (eC S v ((pre ++ l).map Deed.D) false x' y') st) := by
  intro q
  induction q using Nat.strongRecOn with
  | _ q ih =>
    intro u pre hq f hl
    obtain ⟨v, l, p1, p2, p3, p4, p5⟩ := f_paid g f
    have m1 := mu_pay p1
    have tc := fun (n : Nat) (st : Sto) (x y : Option D) => turnC g p5 p3 p4 (F := pre.map Deed.D) (by rw [List.length_map]; omega) nol_deeds (n := n) (st := st) (x := x) (y := y)
    cases hr : rings S v with
    | nil =>
      rw [hr] at tc
      refine ⟨v, l.map Deed.pay, p1.run, p2, p3, hr, by rw [List.length_map]; omega, fun n st x y => ?_⟩
      obtain ⟨x', y', h⟩ := tc n st x y
      refine ⟨x', y', wRun_go h ?_⟩
      rw [List.map_append, map_pays]
      exact wRun_end endC
    | cons L Ls =>
      rw [hr] at tc
      have hL : L ∈ rings S v := by rw [hr]; exact List.mem_cons_self ..
      have m2 := mu_ring g hL
      obtain ⟨w, k, r1, r2, r3, r4, r5, r6⟩ := ih (mu S (M68.add v L)) (by omega) (M68.add v L) (pre ++ (l.map Deed.pay ++ [Deed.ring L])) rfl (M68.ring_fea p3 (ring_in g hL)) (by
        rw [List.length_append, List.length_append, List.length_map, List.length_singleton]
        omega)
      refine ⟨w, l.map Deed.pay ++ (Deed.ring L :: k), p1.run.app (.cons (d := .ring L) hL r1), r2, r3, r4, by
        rw [List.length_append, List.length_map, List.length_cons]
        omega, fun n st x y => ?_⟩
      obtain ⟨x', y', h⟩ := tc n st x y
      obtain ⟨x2, y2, h2⟩ := r6 n st x' y'
      refine ⟨x2, y2, wRun_go h ?_⟩
      have e : (pre ++ (l.map Deed.pay ++ [Deed.ring L])).map Deed.D = pre.map Deed.D ++ l.map payD ++ [ringD L] := by
        rw [List.map_append, List.map_append, map_pays, List.append_assoc]
        rfl
      rw [e] at h2
      have e2 : pre ++ (l.map Deed.pay ++ [Deed.ring L]) ++ k = pre ++ (l.map Deed.pay ++ Deed.ring L :: k) := by simp
      rw [e2] at h2
      exact h2
theorem f_cleared {S : Sys} (g : Good S) {u : Vec} (f : M68.Fea S u) : ∃ v l, Run S u l v ∧ M68.noPay S v ∧ M68.Fea S v ∧ rings S v = [] ∧ l.length < 2000 ∧ ∀ (n : Nat) (st : Sto), callN Tb (n + 3) 14 [dbS S u, coS S u] st = some (.tup [dbS S v, coS S v, .lst (l.map Deed.D)], st) := by
  have hmu := mu_le g u
  obtain ⟨v, l, r1, r2, r3, r4, r5, r6⟩ := loopC g (mu S u) u [] rfl f (by rw [List.length_nil]; omega)
  refine ⟨v, l, r1, r2, r3, r4, by omega, fun n st => ?_⟩
  rw [callN_at (d := d_cleared_in) rfl]
  obtain ⟨x', y', h⟩ := r6 n st none none
  have s1 : exS (callN Tb (n + 2)) (.par [2, 3] (.cons (.op (.lst false) .nil) (.cons (.cst (.bl true)) .nil))) [some (dbS S u), some (coS S u), none, none, none, none] st = some (.nx (eC S u [] true none none) st) := by
    simp
    rfl
  have s2 : exS (callN Tb (n + 2)) (.whl true (.var 3) bC) (eC S u [] true none none) st = some (.nx (eC S v (l.map Deed.D) false x' y') st) := by
    rw [x_whl]
    exact h
  have s3 : exS (callN Tb (n + 2)) (.ret (.op .tup (.cons (.var 0) (.cons (.var 1) (.cons (.var 2) .nil))))) (eC S v (l.map Deed.D) false x' y') st = some (.ret (.tup [dbS S v, coS S v, .lst (l.map Deed.D)]) st) := by
    simp [eC]
  refine run_ret rfl ((ss_nx s1).trans ((ss_nx s2).trans (ss_ret s3))) ?_
  have := fin_nol (st := st) (xs := []) (r := .tup [dbS S v, coS S v, .lst (l.map Deed.D)]) (by
    rw [nol, nolL, nol_db, nolL, nol_co, nolL, nol, nol_deeds]
    rfl)
  rw [List.append_nil] at this
  exact this
/-! ## what is asked -/
/-- how many notes are gone -/
theorem f_gone {N : Nat} {a b : Nat → List Nat} {n : Nat} {st : Sto} (h : ∀ m, m < N → (b m).length ≤ (a m).length) : callN Tb (n + 1) 15 [dbT N a, dbT N b] st = some (.tup (tab N fun m => .int (((a m).length - (b m).length : Nat) : Int)), st) := by
  rw [callN_at (d := d_gone_of) rfl]
  refine run_ret rfl ?_ fin_no
  have e1 : ev (callN Tb n) (.comp false [2, 3] (.t [(.v 2), (.v 3)]) (.zip (.cons (.var 0) (.cons (.var 1) .nil))) .nil (.op (.bin .Sub) (.cons (.op .len (.cons (.var 2) .nil)) (.cons (.op .len (.cons (.var 3) .nil)) .nil)))) [some (dbT N a), some (dbT N b), none, none] st = some (.lst (tab N fun m => .int (((a m).length - (b m).length : Nat) : Int)), st) := by
    rw [w_compM (xs := tab N fun m => .tup [.tup (nD (a m)), .tup (nD (b m))]) (ns := []) (st1 := st) (g := fun x => match x with
      | .tup [.tup p, .tup q] => .int ((p.length : Int) - (q.length : Int))
      | _ => .non) (by simp [zipD, zip_tab]) (by
      intro x hx
      obtain ⟨i, hi, rfl⟩ := tab_mem hx
      simp [tn]), tab_map]
    refine congrArg some (congrArg (·, st) (congrArg D.lst (tab_ext fun i hi => ?_)))
    have := h i hi
    simp only [nD_len, D.int.injEq]
    omega
  simp [e1]
theorem f_debt_deeds {S : Sys} (g : Good S) (u : Vec) {d e : D} (a : AsDb d S.N (M68.R S u)) (b : AsCo e S.N (M68.Cn S u)) {n : Nat} {st : Sto} : callN Tb (n + 7) 16 [d, e] st = some (.tup (deeds S u), st) := by
  rw [callN_at (d := d_debt_deeds) rfl]
  refine run_ret rfl ?_ fin_no
  have h1 := f_sure_owing (n := n) (okU g u) a b (st := st)
  have h2 := f_deeds g u (n := n + 4) (st := st)
  simp [h1, h2]
end T68
end
section
set_option Elab.async false
set_option linter.all false
set_option autoImplicit false
set_option maxHeartbeats 4000000
set_option maxRecDepth 100000
namespace T68
open PySem Ro
open M68 (Sys Vec)

/-! ## deeds, one and more -/
noncomputable instance : DecidableEq Deed := fun _ _ => Classical.propDecidable _
noncomputable def dl (S : Sys) (u : Vec) : List Deed := (pyS S u).map Deed.pay ++ (rings S u).map Deed.ring
theorem deeds_dl {S : Sys} {u : Vec} : deeds S u = (dl S u).map Deed.D := by
  unfold deeds dl
  rw [List.map_append, List.map_map, List.map_map]
  rfl
theorem mem_dl {S : Sys} {u : Vec} {d : Deed} : d ∈ dl S u ↔ d.ok S u := by
  unfold dl
  rw [List.mem_append, List.mem_map, List.mem_map]
  cases d with
  | pay m =>
    constructor
    · rintro (⟨a, h, e⟩ | ⟨a, h, e⟩)
      · cases e; exact mem_payers.mp h
      · cases e
    · intro h
      exact .inl ⟨m, mem_payers.mpr h, rfl⟩
  | ring L =>
    constructor
    · rintro (⟨a, h, e⟩ | ⟨a, h, e⟩)
      · cases e
      · cases e; exact h
    · intro h
      exact .inr ⟨L, h, rfl⟩
theorem str_pr : (("pay" : Str) == ("ring" : Str)) = false := by decide
theorem str_rp : (("ring" : Str) == ("pay" : Str)) = false := by decide
theorem eq_deed {n : Nat} : ∀ a b : Deed, eqD (n + 4) a.D b.D = some (decide (a = b))
  | .pay m, .pay k => by
    show eqL (eqD (n + 3)) [.str "pay", .int (m : Int)] [.str "pay", .int (k : Int)] = _
    simp only [eqL, e_str, e_int, beq_nat, beq_self_eq_true, Bool.true_and, Bool.and_true]
    congr 1
    rw [Bool.eq_iff_iff]
    simp
  | .pay m, .ring L => by
    show eqL (eqD (n + 3)) [.str "pay", .int (m : Int)] [.str "ring", .tup (nD L)] = _
    have e : eqD (n + 3) (.int (m : Int)) (.tup (nD L)) = some false := rfl
    simp only [eqL, e_str, str_pr, e]
    simp
  | .ring L, .pay m => by
    show eqL (eqD (n + 3)) [.str "ring", .tup (nD L)] [.str "pay", .int (m : Int)] = _
    have e : eqD (n + 3) (.tup (nD L)) (.int (m : Int)) = some false := rfl
    simp only [eqL, e_str, str_rp, e]
    simp
  | .ring L, .ring M => by
    show eqL (eqD (n + 3)) [.str "ring", .tup (nD L)] [.str "ring", .tup (nD M)] = _
    have e : eqD (n + 3) (.tup (nD L)) (.tup (nD M)) = some (decide (L = M)) := eq_row
    simp only [eqL, e_str, e, beq_self_eq_true, Bool.true_and, Bool.and_true]
    congr 1
    rw [Bool.eq_iff_iff]
    simp
theorem in_deeds {a : Deed} : ∀ {l : List Deed}, inL a.D (l.map Deed.D) = some (decide (a ∈ l))
  | [] => by simp
  | b :: l => by
    have ih := in_deeds (a := a) (l := l)
    have e : eqD dp b.D a.D = some (decide (b = a)) := eq_deed (n := 36) b a
    rw [List.map_cons, inL, e, ih]
    simp only []
    congr 1
    rw [Bool.eq_iff_iff]
    simp only [Bool.or_eq_true, decide_eq_true_eq, List.mem_cons]
    rw [@eq_comm _ b a]
def Deed.below (N : Nat) : Deed → Prop
  | .pay m => m < N
  | .ring L => ∀ j ∈ L, j < N
theorem Deed.ok_below {S : Sys} (g : Good S) {u : Vec} {d : Deed} (h : d.ok S u) : d.below S.N := by
  cases d with
  | pay m => exact h.1
  | ring L => exact (ring_in g h).lt
theorem dep_deed (d : Deed) : dep 2 d.D = true ∧ tupD d.D = d.D := by
  cases d with
  | pay m => exact ⟨rfl, rfl⟩
  | ring L =>
    constructor
    · show dep 2 (.tup [.str "ring", .tup (nD L)]) = true
      rw [dep, depL, depL, depL, dep, dep, dep_nD]
      rfl
    · show tupD (.tup [.str "ring", .tup (nD L)]) = _
      rw [tupD, tupL, tupL, tupL, tupD, tupD, tupL_map]
      unfold nD
      rw [List.map_map]
      rfl
theorem f_like {n : Nat} {st : Sto} (d : Deed) : callN Tb (n + 3) 7 [d.D] st = some (.bl true, st) := by
  rw [callN_at (d := d_is_like_deed) rfl]
  refine run_ret rfl ?_ fin_no
  cases d with
  | pay m =>
    have h1 := f_is_long (n := n + 1) (xs := [.str "pay", .int (m : Int)]) (l := 2) (st := st)
    have h2 := f_is_number (n := n + 1) (i := (m : Int)) (st := st)
    have e0 : ixD [D.str "pay", .int (m : Int)] 0 = some (.str "pay") := ix_nat (i := 0)
    have e1 : ixD [D.str "pay", .int (m : Int)] 1 = some (.int (m : Int)) := ix_nat (i := 1)
    have h1' : callN Tb (n + 2) 1 [.tup [.str "pay", .int (m : Int)], .int 2] st = some (.bl true, st) := h1
    simp [Deed.D, payD, h1', h2, e0, e1, inL, str_rp]
  | ring L =>
    have h1 := f_is_long (n := n + 1) (xs := [.str "ring", .tup (nD L)]) (l := 2) (st := st)
    have h2 := f_are_nat (n := n) (xs := L) (st := st)
    have e0 : ixD [D.str "ring", .tup (nD L)] 0 = some (.str "ring") := ix_nat (i := 0)
    have e1 : ixD [D.str "ring", .tup (nD L)] 1 = some (.tup (nD L)) := ix_nat (i := 1)
    have h1' : callN Tb (n + 2) 1 [.tup [.str "ring", .tup (nD L)], .int 2] st = some (.bl true, st) := h1
    simp [Deed.D, ringD, h1', h2, e0, e1, inL, str_rp, str_pr]
def bM : Ss := (.cons (.ifs (.not (.chain .LtE .Lt (.cst (.int 0)) (.var 5) (.op .len (.cons (.var 0) .nil)))) (.cons .never
  .nil) .nil)
  .nil)
def bW : Ss := (.cons (.for false (.v 5) (.seq (.ite (.op (.cmp .Eq) (.cons (.var 3) (.cons (.glob "PAY" (.str "pay")) .nil))) (.op .tup (.cons (.var 4) .nil)) (.var 4))) bM)
  .nil)
theorem memW {C : CallF} {N : Nat} {r : Nat → List Nat} {d2 own w t x6 : Option D} {st st0 : Sto} : ∀ (l : List Nat) (x5 : Option D), (∀ j ∈ l, j < N) → ∃ x', fLoop (ft C false (.v 5) bM [] st0) (nD l) [some (dbT N r), d2, own, w, t, x5, x6] st = some (.nx [some (dbT N r), d2, own, w, t, x', x6] st)
  | [], x5, _ => ⟨x5, rfl⟩
  | j :: l, x5, h => by
    obtain ⟨x', ih⟩ := memW l (some (.int (j : Int))) fun k hk => h k (List.mem_cons_of_mem _ hk)
    refine ⟨x', ?_⟩
    have hj := h j (List.mem_cons_self ..)
    show fLoop _ (.int (j : Int) :: nD l) _ _ = _
    rw [fLoop_go (ρ' := [some (dbT N r), d2, own, w, t, some (.int (j : Int)), x6]) (st' := st)]
    · exact ih
    · unfold ft bM
      simp [hj, turn_no, grdF_nil]
theorem loopW {C : CallF} {N : Nat} {r : Nat → List Nat} {d2 own x6 : Option D} {st st0 : Sto} : ∀ (l : List Deed) (x3 x4 x5 : Option D), (∀ d ∈ l, d.below N) → ∃ y3 y4 y5, fLoop (ft C false (.t [(.v 3), (.v 4)]) bW [] st0) (l.map Deed.D) [some (dbT N r), d2, own, x3, x4, x5, x6] st = some (.nx [some (dbT N r), d2, own, y3, y4, y5, x6] st)
  | [], x3, x4, x5, _ => ⟨x3, x4, x5, rfl⟩
  | d :: l, x3, x4, x5, h => by
    have hd := h d (List.mem_cons_self ..)
    cases d with
    | pay m =>
      obtain ⟨z5, e5⟩ := memW (C := C) (r := r) (d2 := d2) (own := own) (w := some (.str "pay")) (t := some (.int (m : Int))) (x6 := x6) (st := st) (st0 := st) [m] x5 (by intro j hj; rw [List.mem_singleton.mp hj]; exact hd)
      obtain ⟨y3, y4, y5, ih⟩ := loopW l (some (.str "pay")) (some (.int (m : Int))) z5 fun k hk => h k (List.mem_cons_of_mem _ hk)
      refine ⟨y3, y4, y5, ?_⟩
      rw [List.map_cons, fLoop_go (ρ' := [some (dbT N r), d2, own, some (.str "pay"), some (.int (m : Int)), z5, x6]) (st' := st)]
      · exact ih
      · have es : exS C (.for false (.v 5) (.seq (.ite (.op (.cmp .Eq) (.cons (.var 3) (.cons (.glob "PAY" (.str "pay")) .nil))) (.op .tup (.cons (.var 4) .nil)) (.var 4))) bM) [some (dbT N r), d2, own, some (.str "pay"), some (.int (m : Int)), x5, x6] st = some (.nx [some (dbT N r), d2, own, some (.str "pay"), some (.int (m : Int)), z5, x6] st) := by
          rw [x_for]
          have ei : evi C (.seq (.ite (.op (.cmp .Eq) (.cons (.var 3) (.cons (.glob "PAY" (.str "pay")) .nil))) (.op .tup (.cons (.var 4) .nil)) (.var 4))) [some (dbT N r), d2, own, some (.str "pay"), some (.int (m : Int)), x5, x6] st = some (nD [m], [], st) := by
            simp
            rfl
          rw [ei]
          exact e5
        unfold ft bW
        simp [Deed.D, payD, es, turn_no, grdF_nil]
    | ring L =>
      obtain ⟨z5, e5⟩ := memW (C := C) (r := r) (d2 := d2) (own := own) (w := some (.str "ring")) (t := some (.tup (nD L))) (x6 := x6) (st := st) (st0 := st) L x5 hd
      obtain ⟨y3, y4, y5, ih⟩ := loopW l (some (.str "ring")) (some (.tup (nD L))) z5 fun k hk => h k (List.mem_cons_of_mem _ hk)
      refine ⟨y3, y4, y5, ?_⟩
      rw [List.map_cons, fLoop_go (ρ' := [some (dbT N r), d2, own, some (.str "ring"), some (.tup (nD L)), z5, x6]) (st' := st)]
      · exact ih
      · have es : exS C (.for false (.v 5) (.seq (.ite (.op (.cmp .Eq) (.cons (.var 3) (.cons (.glob "PAY" (.str "pay")) .nil))) (.op .tup (.cons (.var 4) .nil)) (.var 4))) bM) [some (dbT N r), d2, own, some (.str "ring"), some (.tup (nD L)), x5, x6] st = some (.nx [some (dbT N r), d2, own, some (.str "ring"), some (.tup (nD L)), z5, x6] st) := by
          rw [x_for]
          have ei : evi C (.seq (.ite (.op (.cmp .Eq) (.cons (.var 3) (.cons (.glob "PAY" (.str "pay")) .nil))) (.op .tup (.cons (.var 4) .nil)) (.var 4))) [some (dbT N r), d2, own, some (.str "ring"), some (.tup (nD L)), x5, x6] st = some (nD L, [], st) := by
            simp [str_rp]
          rw [ei]
          exact e5
        unfold ft bW
        simp [Deed.D, ringD, es, turn_no, grdF_nil]
theorem f_sure_deeds {N : Nat} {r : Nat → List Nat} {l : List Deed} (h : ∀ d ∈ l, d.below N) {n : Nat} {st : Sto} : callN Tb (n + 5) 8 [dbT N r, .tup (l.map Deed.D)] st = some (.tup (l.map Deed.D), st) := by
  rw [callN_at (d := d_sure_deeds) rfl]
  have t1 := f_tupled (n := n) (st := st) 3 (.tup (l.map Deed.D)) (by
    rw [dep]
    refine depL_of fun x hx => ?_
    obtain ⟨d, _, rfl⟩ := List.mem_map.mp hx
    exact (dep_deed d).1)
  have tt : tupD (.tup (l.map Deed.D)) = .tup (l.map Deed.D) := by
    rw [tupD, tupL_map, List.map_map]
    refine congrArg D.tup (List.map_congr_left fun d _ => ?_)
    exact (dep_deed d).2
  rw [tt] at t1
  have s1 : exS (callN Tb (n + 4)) (.asg (.v 2) (.call 2 (.cons (.var 1) .nil))) [some (dbT N r), some (.tup (l.map Deed.D)), none, none, none, none, none] st = some (.nx [some (dbT N r), some (.tup (l.map Deed.D)), some (.tup (l.map Deed.D)), none, none, none, none] st) := by
    simp [t1]
  have ec : ev (callN Tb (n + 4)) (.comp false [6] (.v 6) (.seq (.var 2)) .nil (.call 7 (.cons (.var 6) .nil))) [some (dbT N r), some (.tup (l.map Deed.D)), some (.tup (l.map Deed.D)), none, none, none, none] st = some (.lst ((l.map Deed.D).map fun _ => .bl true), st) := by
    refine w_compM (ns := []) (by simp) fun x hx => ?_
    obtain ⟨d, _, rfl⟩ := List.mem_map.mp hx
    have := f_like (n := n + 1) (st := st) d
    simp [tn, this]
  have s2 : exS (callN Tb (n + 4)) (.ifs (.or (.not (.op (.isi ["tuple"]) (.cons (.var 2) .nil))) (.not (.op .all (.cons (.comp false [6] (.v 6) (.seq (.var 2)) .nil (.call 7 (.cons (.var 6) .nil))) .nil)))) (.cons .never
  .nil) .nil) [some (dbT N r), some (.tup (l.map Deed.D)), some (.tup (l.map Deed.D)), none, none, none, none] st = some (.nx [some (dbT N r), some (.tup (l.map Deed.D)), some (.tup (l.map Deed.D)), none, none, none, none] st) := by
    generalize l.map Deed.D = X at ec ⊢
    simp [ec, bls_nat]
  obtain ⟨y3, y4, y5, hw⟩ := loopW (C := callN Tb (n + 4)) (r := r) (d2 := some (.tup (l.map Deed.D))) (own := some (.tup (l.map Deed.D))) (x6 := none) (st := st) (st0 := st) l none none none h
  have s3 : exS (callN Tb (n + 4)) (.for false (.t [(.v 3), (.v 4)]) (.seq (.var 2)) bW) [some (dbT N r), some (.tup (l.map Deed.D)), some (.tup (l.map Deed.D)), none, none, none, none] st = some (.nx [some (dbT N r), some (.tup (l.map Deed.D)), some (.tup (l.map Deed.D)), y3, y4, y5, none] st) := by
    rw [x_for]
    simp
    exact hw
  refine run_ret rfl ((ss_nx s1).trans ((ss_nx s2).trans ((ss_nx s3).trans (ss_ret (st' := st) (d := .tup (l.map Deed.D)) ?_)))) fin_no
  simp
end T68
end
section
set_option Elab.async false
set_option linter.all false
set_option autoImplicit false
set_option maxHeartbeats 4000000
set_option maxRecDepth 100000
namespace T68
open PySem Ro
open M68 (Sys Vec)

/-! ## the functions that are asked -/
/-- these debts and coins are asked about: the state of S by u -/
structure Asks (S : Sys) (u : Vec) (d e : D) : Prop where
  a : AsDb d S.N (M68.R S u)
  b : AsCo e S.N (M68.Cn S u)
theorem asks_self {S : Sys} {u : Vec} : Asks S u (dbS S u) (coS S u) := ⟨asDb, asCo⟩
def toV (S : Sys) (u : Vec) : D := .tup [dbS S u, coS S u]
theorem step_D {S : Sys} (g : Good S) {u : Vec} (f : M68.Fea S u) {d : Deed} (h : d.ok S u) {n : Nat} {st : Sto} : callN Tb (n + 1) 12 [dbS S u, coS S u, d.D] st = some (toV S (d.to u), st) := by
  cases d with
  | pay m => exact pay_step g f h.1 h.2
  | ring L => exact ring_step f (ring_in g h)
theorem f_debt_done {S : Sys} (g : Good S) {u : Vec} (f : M68.Fea S u) {x y : D} (a : Asks S u x y) {d : Deed} (h : d.ok S u) {n : Nat} {st : Sto} : callN Tb (n + 8) 17 [x, y, d.D] st = some (toV S (d.to u), st) := by
  rw [callN_at (d := d_debt_done) rfl]
  have h1 := f_sure_owing (n := n + 1) (okU g u) a.a a.b (st := st)
  have h2 := f_tupled (n := n + 4) (st := st) 2 d.D (dep_deed d).1
  rw [(dep_deed d).2] at h2
  have h3 := f_like (n := n + 4) (st := st) d
  have h4 := f_sure_deeds (N := S.N) (r := M68.R S u) (l := [d]) (fun k hk => by rw [List.mem_singleton.mp hk]; exact Deed.ok_below g h) (n := n + 2) (st := st)
  have h5 := f_deeds g u (n := n + 5) (st := st)
  have h6 := step_D g f h (n := n + 6) (st := st)
  have h7 : inL d.D (deeds S u) = some true := by
    rw [deeds_dl, in_deeds]
    simp [mem_dl.mpr h]
  refine run_ret rfl ?_ fin_no
  simp only [List.map_cons, List.map_nil] at h4
  simp [h1, h2, h3, h4, h5, h6, h7]
theorem f_all_paid {S : Sys} (g : Good S) {u : Vec} (f : M68.Fea S u) {x y : D} (a : Asks S u x y) {v : Vec} {l : List Nat} (hv : ∀ m, m < S.N → (M68.R S v m).length ≤ (M68.R S u m).length) (hp : ∀ (n : Nat) (st : Sto), callN Tb (n + 2) 13 [dbS S u, coS S u] st = some (.tup [dbS S v, coS S v, .lst (l.map payD)], st)) {n : Nat} {st : Sto} :
    callN Tb (n + 7) 19 [x, y] st = some (toV S v, st) ∧ callN Tb (n + 7) 21 [x, y] st = some (.tup (tab S.N fun m => .int (((M68.R S u m).length - (M68.R S v m).length : Nat) : Int)), st) ∧ callN Tb (n + 7) 23 [x, y] st = some (.tup (l.map payD), st) ∧
      callN Tb (n + 7) 25 [x, y] st = some ((match rings S v with
        | [] => .non
        | L :: _ => .tup (nD L)), st) := by
  have h1 := f_sure_owing (n := n) (okU g u) a.a a.b (st := st)
  have h2 := hp (n + 4) st
  have h3 := f_gone (n := n + 5) (N := S.N) (a := M68.R S u) (b := M68.R S v) (st := st) hv
  have i0 : ixD [dbS S v, coS S v, .lst (l.map payD)] 0 = some (dbS S v) := ix_nat (i := 0)
  have i2 : ixD [dbS S v, coS S v, .lst (l.map payD)] 2 = some (.lst (l.map payD)) := ix_nat (i := 2)
  refine ⟨?_, ?_, ?_, ?_⟩
  · rw [callN_at (d := d_all_paid) rfl]
    refine run_ret rfl ?_ fin_no
    simp [h1, h2, toV]
  · rw [callN_at (d := d_notes_paid) rfl]
    refine run_ret rfl ?_ fin_no
    simp [h1, h2, i0, h3]
  · rw [callN_at (d := d_paying_deeds) rfl]
    refine run_ret rfl ?_ fin_no
    generalize l.map payD = X at h2 i2 ⊢
    simp [h1, h2, i2]
  · rw [callN_at (d := d_ring_left) rfl]
    have h4 := (rings_spec g v).1 (n + 5) st
    refine run_ret rfl ?_ fin_no
    cases hr : rings S v with
    | nil =>
      rw [hr] at h4
      simp [h1, h2, i0, h4]
      rfl
    | cons L q =>
      rw [hr] at h4
      have i3 : ixD (rgD (L :: q)) 0 = some (.tup (nD L)) := ix_nat (xs := rgD (L :: q)) (i := 0)
      have ne : (rgD (L :: q)).isEmpty = false := rfl
      simp [h1, h2, i0, h4, i3, ne]
theorem f_all_cleared {S : Sys} (g : Good S) {u : Vec} (f : M68.Fea S u) {x y : D} (a : Asks S u x y) {v : Vec} {l : List Deed} (hv : ∀ m, m < S.N → (M68.R S v m).length ≤ (M68.R S u m).length) (hp : ∀ (n : Nat) (st : Sto), callN Tb (n + 3) 14 [dbS S u, coS S u] st = some (.tup [dbS S v, coS S v, .lst (l.map Deed.D)], st)) {n : Nat} {st : Sto} :
    callN Tb (n + 7) 20 [x, y] st = some (toV S v, st) ∧ callN Tb (n + 7) 22 [x, y] st = some (.tup (tab S.N fun m => .int (((M68.R S u m).length - (M68.R S v m).length : Nat) : Int)), st) ∧ callN Tb (n + 7) 24 [x, y] st = some (.tup (l.map Deed.D), st) := by
  have h1 := f_sure_owing (n := n) (okU g u) a.a a.b (st := st)
  have h2 := hp (n + 3) st
  have h3 := f_gone (n := n + 5) (N := S.N) (a := M68.R S u) (b := M68.R S v) (st := st) hv
  have i0 : ixD [dbS S v, coS S v, .lst (l.map Deed.D)] 0 = some (dbS S v) := ix_nat (i := 0)
  have i2 : ixD [dbS S v, coS S v, .lst (l.map Deed.D)] 2 = some (.lst (l.map Deed.D)) := ix_nat (i := 2)
  refine ⟨?_, ?_, ?_⟩
  · rw [callN_at (d := d_all_cleared) rfl]
    refine run_ret rfl ?_ fin_no
    simp [h1, h2, toV]
  · rw [callN_at (d := d_notes_cleared) rfl]
    refine run_ret rfl ?_ fin_no
    simp [h1, h2, i0, h3]
  · rw [callN_at (d := d_clearing_deeds) rfl]
    refine run_ret rfl ?_ fin_no
    generalize l.map Deed.D = X at h2 i2 ⊢
    simp [h1, h2, i2]
def bB : Ss := (.cons (.ifs (.op (.cmp .NotIn) (.cons (.var 6) (.cons (.call 11 (.cons (.var 3) (.cons (.var 4) .nil))) .nil))) (.cons .never
  .nil) .nil)
  (.cons (.asg (.t [(.v 3), (.v 4)]) (.call 12 (.cons (.var 3) (.cons (.var 4) (.cons (.var 6) .nil)))))
  .nil))
theorem behindL {S : Sys} (g : Good S) {n : Nat} {st st0 : Sto} {x0 x1 x2 : Option D} : ∀ {u v : Vec} {l : List Deed} (k : Nat) (x5 x6 : Option D), Run S u l v → M68.Fea S u →
    ∃ y5 y6, fLoop (ft (callN Tb (n + 2)) false (.t [(.v 5), (.v 6)]) bB [] st0) (enumL k (l.map Deed.D)) [x0, x1, x2, some (dbS S u), some (coS S u), x5, x6] st = some (.nx [x0, x1, x2, some (dbS S v), some (coS S v), y5, y6] st) := by
  intro u v l k x5 x6 r
  induction r generalizing k x5 x6 with
  | nil u => exact fun _ => ⟨x5, x6, rfl⟩
  | @cons u v d l h r ih =>
    intro f
    obtain ⟨y5, y6, e⟩ := ih (k + 1) (some (.int (k : Int))) (some d.D) (Deed.fea g f h)
    refine ⟨y5, y6, ?_⟩
    have h5 := f_deeds g u (n := n) (st := st)
    have h6 := step_D g f h (n := n + 1) (st := st)
    have h7 : inL d.D (deeds S u) = some true := by
      rw [deeds_dl, in_deeds]
      simp [mem_dl.mpr h]
    rw [List.map_cons, enumL, fLoop_go (ρ' := [x0, x1, x2, some (dbS S (d.to u)), some (coS S (d.to u)), some (.int (k : Int)), some d.D]) (st' := st)]
    · exact e
    · unfold ft bB
      simp [h5, h7, h6, toV, turn_no, grdF_nil]
theorem f_behind {S : Sys} (g : Good S) {u v : Vec} (f : M68.Fea S u) {x y : D} (a : Asks S u x y) {l : List Deed} (r : Run S u l v) {n : Nat} {st : Sto} : callN Tb (n + 8) 18 [x, y, .tup (l.map Deed.D)] st = some (toV S v, st) := by
  rw [callN_at (d := d_debts_behind) rfl]
  have below : ∀ d ∈ l, d.below S.N := by
    have key : ∀ {u v : Vec} {l : List Deed}, Run S u l v → ∀ d ∈ l, d.below S.N := by
      intro u v l r
      induction r with
      | nil u => intro d hd; cases hd
      | cons h r ih =>
        intro d hd
        rcases List.mem_cons.mp hd with rfl | hd
        · exact Deed.ok_below g h
        · exact ih d hd
    exact key r
  have h1 := f_sure_owing (n := n + 1) (okU g u) a.a a.b (st := st)
  have h2 := f_sure_deeds (N := S.N) (r := M68.R S u) below (n := n + 2) (st := st)
  obtain ⟨y5, y6, h3⟩ := behindL g (n := n + 5) (st := st) (st0 := st) (x0 := some x) (x1 := some y) (x2 := some (.tup (l.map Deed.D))) 0 none none r f
  have s1 : exS (callN Tb (n + 7)) (.asg (.t [(.v 3), (.v 4)]) (.call 6 (.cons (.var 0) (.cons (.var 1) .nil)))) [some x, some y, some (.tup (l.map Deed.D)), none, none, none, none] st = some (.nx [some x, some y, some (.tup (l.map Deed.D)), some (dbS S u), some (coS S u), none, none] st) := by
    simp [h1]
  have s2 : exS (callN Tb (n + 7)) (.for false (.t [(.v 5), (.v 6)]) (.enum (.call 8 (.cons (.var 3) (.cons (.var 2) .nil)))) bB) [some x, some y, some (.tup (l.map Deed.D)), some (dbS S u), some (coS S u), none, none] st = some (.nx [some x, some y, some (.tup (l.map Deed.D)), some (dbS S v), some (coS S v), y5, y6] st) := by
    rw [x_for]
    have ei : evi (callN Tb (n + 7)) (.enum (.call 8 (.cons (.var 3) (.cons (.var 2) .nil)))) [some x, some y, some (.tup (l.map Deed.D)), some (dbS S u), some (coS S u), none, none] st = some (enumL 0 (l.map Deed.D), [], st) := by
      generalize l.map Deed.D = X at h2 ⊢
      simp [h2]
    rw [ei]
    exact h3
  refine run_ret rfl ((ss_nx s1).trans ((ss_nx s2).trans (ss_ret (st' := st) (d := toV S v) ?_))) fin_no
  simp [toV]
end T68
end
section
set_option Elab.async false
set_option linter.all false
set_option autoImplicit false
set_option maxHeartbeats 4000000
set_option maxRecDepth 100000
namespace T68
open PySem Ro
open M68 (Sys Vec)

/-! ## is_clearing -/
theorem nD_take {xs : List Nat} {i : Nat} : (nD xs).take i = nD (xs.take i) := by
  unfold nD
  rw [List.map_take]
def cnt (r : Nat → List Nat) (v : Vec) (l : List Nat) (k : Nat) : Nat := (l.map fun j => ((r j).take (v j)).count k).sum
def bI : Ss := (.cons (.setS (.var 5) (.var 8) (.op (.bin .Add) (.cons (.op .sub (.cons (.var 5) (.cons (.var 8) .nil))) (.cons (.cst (.int 1)) .nil))))
  .nil)
def bO2 : Ss := (.cons (.for false (.v 8) (.seq (.slice (.var 7) .nil (.cons (.var 6) .nil))) bI)
  .nil)
section
variable {N : Nat} {r : Nat → List Nat} {c : Nat → Nat} {C : CallF} {st st0 : Sto} {x0 x1 x2 x3 x4 : Option D}
theorem gotI {x6 x7 x9 : Option D} : ∀ (q : List Nat) (a : Nat → Nat) (x8 : Option D), (∀ o ∈ q, o < N) →
    ∃ y8, fLoop (ft C false (.v 8) bI [] st0) (nD q) [x0, x1, x2, x3, x4, some (.loc st.length), x6, x7, x8, x9] (st ++ [.lst (tab N fun k => .int (a k : Int))]) = some (.nx [x0, x1, x2, x3, x4, some (.loc st.length), x6, x7, y8, x9] (st ++ [.lst (tab N fun k => .int ((a k + q.count k : Nat) : Int))]))
  | [], a, x8, _ => ⟨x8, rfl⟩
  | o :: q, a, x8, h => by
    have ho := h o (List.mem_cons_self ..)
    obtain ⟨y8, e⟩ := gotI q (upd a o (a o + 1)) (some (.int (o : Int))) fun k hk => h k (List.mem_cons_of_mem _ hk)
    refine ⟨y8, ?_⟩
    show fLoop _ (.int (o : Int) :: nD q) _ _ = _
    have tu : (tab N fun k => D.int (a k : Int)).set o (.int ((a o : Int) + 1)) = tab N fun k => .int ((upd a o (a o + 1) k : Nat) : Int) := by
      rw [tab_set ho]
      refine tab_ext fun i _ => ?_
      unfold upd
      by_cases p : i = o
      · rw [if_pos p, if_pos p]
        rfl
      · rw [if_neg p, if_neg p]
    rw [fLoop_go (ρ' := [x0, x1, x2, x3, x4, some (.loc st.length), x6, x7, some (.int (o : Int)), x9]) (st' := st ++ [.lst (tab N fun k => .int ((upd a o (a o + 1) k : Nat) : Int))])]
    · rw [e]
      refine congrArg some (congrArg _ (congrArg (st ++ [·]) (congrArg Ob.lst (tab_ext fun k _ => ?_))))
      unfold upd
      rw [List.count_cons]
      by_cases p : k = o
      · subst p
        simp
        omega
      · have p2 : (o == k) = false := by simpa using Ne.symm p
        simp [p, p2]
    · unfold ft bI
      simp [tab_at ho, ixN_nat ho, tu, turn_no, grdF_nil]
theorem gotO {v : Vec} {x9 : Option D} (hr : ∀ j, j < N → ∀ o ∈ r j, o < N) : ∀ (l : List Nat) (a : Nat → Nat) (x6 x7 x8 : Option D), (∀ j ∈ l, j < N) →
    ∃ y6 y7 y8, fLoop (ft C false (.t [(.v 6), (.v 7)]) bO2 [] st0) (l.map fun j => D.tup [.int (v j : Int), .tup (nD (r j))]) [x0, x1, x2, x3, x4, some (.loc st.length), x6, x7, x8, x9] (st ++ [.lst (tab N fun k => .int (a k : Int))]) = some (.nx [x0, x1, x2, x3, x4, some (.loc st.length), y6, y7, y8, x9] (st ++ [.lst (tab N fun k => .int ((a k + cnt r v l k : Nat) : Int))]))
  | [], a, x6, x7, x8, _ => ⟨x6, x7, x8, rfl⟩
  | j :: l, a, x6, x7, x8, h => by
    have hj := h j (List.mem_cons_self ..)
    obtain ⟨y8, e1⟩ := gotI (C := C) (N := N) (st := st) (st0 := st ++ [.lst (tab N fun k => .int (a k : Int))]) (x0 := x0) (x1 := x1) (x2 := x2) (x3 := x3) (x4 := x4) (x6 := some (.int (v j : Int))) (x7 := some (.tup (nD (r j)))) (x9 := x9) ((r j).take (v j)) a x8 fun o ho => hr j hj o (List.mem_of_mem_take ho)
    obtain ⟨z6, z7, z8, e2⟩ := gotO hr l (fun k => a k + ((r j).take (v j)).count k) (some (.int (v j : Int))) (some (.tup (nD (r j)))) y8 fun k hk => h k (List.mem_cons_of_mem _ hk)
    refine ⟨z6, z7, z8, ?_⟩
    rw [List.map_cons, fLoop_go (ρ' := [x0, x1, x2, x3, x4, some (.loc st.length), some (.int (v j : Int)), some (.tup (nD (r j))), y8, x9]) (st' := st ++ [.lst (tab N fun k => .int ((a k + ((r j).take (v j)).count k : Nat) : Int))])]
    · rw [e2]
      refine congrArg some (congrArg _ (congrArg (st ++ [·]) (congrArg Ob.lst (tab_ext fun k _ => ?_))))
      unfold cnt
      rw [List.map_cons, List.sum_cons, Nat.add_assoc]
    · unfold ft bO2
      simp [x_for, cut_to, nD_take, e1, turn_no, grdF_nil]
end
theorem cnt_recv {S : Sys} {v : Vec} {m : Nat} : cnt S.r v (List.range S.N) m = M68.recv S v m := rfl
theorem all_dec {N : Nat} {p : Nat → Bool} : ((List.range N).map p).all id = decide (∀ m, m < N → p m = true) := by
  rw [Bool.eq_iff_iff, decide_eq_true_iff, List.all_eq_true]
  constructor
  · intro h m hm
    exact h (p m) (List.mem_map.mpr ⟨m, List.mem_range.mpr hm, rfl⟩)
  · intro h b hb
    obtain ⟨m, hm, rfl⟩ := List.mem_map.mp hb
    exact h m (List.mem_range.mp hm)
theorem min_nat2 {a b : Nat} : (if (b : Int) < (a : Int) then (b : Int) else (a : Int)) = ((min a b : Nat) : Int) := by
  by_cases h : b < a
  · rw [if_pos (by omega), Nat.min_eq_right (by omega)]
  · rw [if_neg (by omega), Nat.min_eq_left (by omega)]
instance {S : Sys} {v : Vec} : Decidable (M68.Clear S v) := by unfold M68.Clear; infer_instance
theorem f_is_clearing {S : Sys} (o : M68.ok S) {d e : D} (a : AsDb d S.N S.r) (b : AsCo e S.N S.c) {v : Vec} (hv : ∀ m, m < S.N → v m ≤ (S.r m).length) {n : Nat} {st : Sto} : callN Tb (n + 7) 26 [d, e, coT S.N v] st = some (.bl (decide (M68.Clear S v)), st) := by
  rw [callN_at (d := d_is_clearing) rfl]
  have h1 := f_sure_owing (n := n) o a b (st := st)
  have h2 := f_are_numbers (n := n + 4) (xs := (List.range S.N).map fun m => (v m : Int)) (st := st)
  rw [← co_ints] at h2
  have s1 : exS (callN Tb (n + 6)) (.asg (.t [(.v 3), (.v 4)]) (.call 6 (.cons (.var 0) (.cons (.var 1) .nil)))) [some d, some e, some (coT S.N v), none, none, none, none, none, none, none] st = some (.nx [some d, some e, some (coT S.N v), some (dbT S.N S.r), some (coT S.N S.c), none, none, none, none, none] st) := by
    simp [h1]
  have s2 : exS (callN Tb (n + 6)) (.ifs (.or (.not (.call 3 (.cons (.var 2) .nil))) (.op (.cmp .NotEq) (.cons (.op .len (.cons (.var 2) .nil)) (.cons (.op .len (.cons (.var 3) .nil)) .nil)))) (.cons (.ret (.cst (.bl false)))
  .nil) .nil) [some d, some e, some (coT S.N v), some (dbT S.N S.r), some (coT S.N S.c), none, none, none, none, none] st = some (.nx [some d, some e, some (coT S.N v), some (dbT S.N S.r), some (coT S.N S.c), none, none, none, none, none] st) := by
    simp [h2]
  have c3 : ev (callN Tb (n + 6)) (.comp false [6, 7] (.t [(.v 6), (.v 7)]) (.zip (.cons (.var 2) (.cons (.var 3) .nil))) .nil (.chain .LtE .LtE (.cst (.int 0)) (.var 6) (.op .len (.cons (.var 7) .nil)))) [some d, some e, some (coT S.N v), some (dbT S.N S.r), some (coT S.N S.c), none, none, none, none, none] st = some (.lst ((List.range S.N).map fun _ => .bl true), st) := by
    rw [w_compM (xs := tab S.N fun m => .tup [.int (v m : Int), .tup (nD (S.r m))]) (ns := []) (st1 := st) (g := fun _ => .bl true) (by simp [zipD, zip_tab]) (by
      intro x hx
      obtain ⟨i, hi, rfl⟩ := tab_mem hx
      have := hv i hi
      simp [tn, nD_len, this]), tab_map]
    rfl
  have s3 : exS (callN Tb (n + 6)) (.ifs (.not (.op .all (.cons (.comp false [6, 7] (.t [(.v 6), (.v 7)]) (.zip (.cons (.var 2) (.cons (.var 3) .nil))) .nil (.chain .LtE .LtE (.cst (.int 0)) (.var 6) (.op .len (.cons (.var 7) .nil)))) .nil))) (.cons (.ret (.cst (.bl false)))
  .nil) .nil) [some d, some e, some (coT S.N v), some (dbT S.N S.r), some (coT S.N S.c), none, none, none, none, none] st = some (.nx [some d, some e, some (coT S.N v), some (dbT S.N S.r), some (coT S.N S.c), none, none, none, none, none] st) := by
    simp [c3, bls_nat]
  have s4 : exS (callN Tb (n + 6)) (.asg (.v 5) (.op (.list true) (.cons (.var 4) .nil))) [some d, some e, some (coT S.N v), some (dbT S.N S.r), some (coT S.N S.c), none, none, none, none, none] st = some (.nx [some d, some e, some (coT S.N v), some (dbT S.N S.r), some (coT S.N S.c), some (.loc st.length), none, none, none, none] (st ++ [.lst (tab S.N fun k => .int (S.c k : Int))])) := by
    simp
  obtain ⟨y6, y7, y8, g5⟩ := gotO (C := callN Tb (n + 6)) (N := S.N) (st := st) (st0 := st ++ [.lst (tab S.N fun k => .int (S.c k : Int))]) (x0 := some d) (x1 := some e) (x2 := some (coT S.N v)) (x3 := some (dbT S.N S.r)) (x4 := some (coT S.N S.c)) (v := v) (x9 := none) (fun j hj q hq => (o j hj q hq).1) (List.range S.N) S.c none none none fun j hj => List.mem_range.mp hj
  have s5 : exS (callN Tb (n + 6)) (.for false (.t [(.v 6), (.v 7)]) (.zip (.cons (.var 2) (.cons (.var 3) .nil))) bO2) [some d, some e, some (coT S.N v), some (dbT S.N S.r), some (coT S.N S.c), some (.loc st.length), none, none, none, none] (st ++ [.lst (tab S.N fun k => .int (S.c k : Int))]) = some (.nx [some d, some e, some (coT S.N v), some (dbT S.N S.r), some (coT S.N S.c), some (.loc st.length), y6, y7, y8, none] (st ++ [.lst (tab S.N fun k => .int ((S.c k + cnt S.r v (List.range S.N) k : Nat) : Int))])) := by
    rw [x_for]
    have ei : evi (callN Tb (n + 6)) (.zip (.cons (.var 2) (.cons (.var 3) .nil))) [some d, some e, some (coT S.N v), some (dbT S.N S.r), some (coT S.N S.c), some (.loc st.length), none, none, none, none] (st ++ [.lst (tab S.N fun k => .int (S.c k : Int))]) = some (tab S.N fun m => .tup [.int (v m : Int), .tup (nD (S.r m))], [], st ++ [.lst (tab S.N fun k => .int (S.c k : Int))]) := by
      simp [zipD, zip_tab]
    rw [ei]
    exact g5
  have c6 : ev (callN Tb (n + 6)) (.comp false [6, 7, 9] (.t [(.v 6), (.v 7), (.v 9)]) (.zip (.cons (.var 2) (.cons (.var 3) (.cons (.var 5) .nil)))) .nil (.op (.cmp .Eq) (.cons (.var 6) (.cons (.op .min2 (.cons (.op .len (.cons (.var 7) .nil)) (.cons (.var 9) .nil))) .nil)))) [some d, some e, some (coT S.N v), some (dbT S.N S.r), some (coT S.N S.c), some (.loc st.length), y6, y7, y8, none] (st ++ [.lst (tab S.N fun k => .int ((S.c k + cnt S.r v (List.range S.N) k : Nat) : Int))]) = some (.lst (tab S.N fun m => .bl (decide (v m = M68.F S v m))), st ++ [.lst (tab S.N fun k => .int ((S.c k + cnt S.r v (List.range S.N) k : Nat) : Int))]) := by
    rw [w_compM (xs := tab S.N fun m => .tup [.int (v m : Int), .tup (nD (S.r m)), .int ((S.c m + cnt S.r v (List.range S.N) m : Nat) : Int)]) (ns := [st.length]) (st1 := st ++ [.lst (tab S.N fun k => .int ((S.c k + cnt S.r v (List.range S.N) k : Nat) : Int))]) (g := fun x => match x with
      | .tup [.int i, .tup l, .int j] => .bl (i == if j < (l.length : Int) then j else (l.length : Int))
      | _ => .non) (by simp [zipD, zip3_tab]) (by
      intro x hx
      obtain ⟨i, hi, rfl⟩ := tab_mem hx
      simp [tn]), tab_map]
    refine congrArg some (congrArg (·, _) (congrArg D.lst (tab_ext fun i hi => ?_)))
    simp only [nD_len, min_nat2, beq_nat]
    rw [cnt_recv]
    rfl
  refine run_ret rfl ((ss_nx s1).trans ((ss_nx s2).trans ((ss_nx s3).trans ((ss_nx s4).trans ((ss_nx s5).trans (ss_ret (st' := st ++ [.lst (tab S.N fun k => .int ((S.c k + cnt S.r v (List.range S.N) k : Nat) : Int))]) (d := .bl (decide (M68.Clear S v))) ?_)))))) (fin_nol rfl)
  refine x_retE ?_
  simp only [w_op, w_cons, w_nil, c6, p_all, bls_tab, Option.map_some, all_dec, decide_eq_true_eq]
  rfl
end T68
end
section
set_option Elab.async false
set_option linter.all false
set_option autoImplicit false
set_option maxHeartbeats 4000000
set_option maxRecDepth 100000
namespace T68
open PySem Ro

/-! ## the law's tin -/
/-- the tin: at place 0 of the store, alone -/
def tinS (a b k : Int) : Sto := [.lst [.int a, .int b, .int k]]
/-- a tin after at most q draws -/
def TinOk (q : Nat) (st : Sto) : Prop := ∃ a b k : Int, st = tinS a b k ∧ 0 ≤ k ∧ k ≤ (q : Int)
theorem TinOk.mono {q p : Nat} (h : q ≤ p) {st : Sto} : TinOk q st → TinOk p st
  | ⟨a, b, k, e, h1, h2⟩ => ⟨a, b, k, e, h1, by omega⟩
theorem ix0 {x y z : D} : ixD [x, y, z] 0 = some x := rfl
theorem ix1 {x y z : D} : ixD [x, y, z] 1 = some y := rfl
theorem ixn0 : L2.ixN 3 0 = some 0 := by decide
theorem ixn2 : L2.ixN 3 2 = some 2 := by decide
theorem ix2 {x y z : D} : ixD [x, y, z] 2 = some z := rfl
theorem f_take {q : Nat} (hq : q < 1000000) {c : Nat} (hc : 0 < c) (hc2 : c < 1000000) {s : Sto} (h : TinOk q s) : ∃ (m : Nat) (s' : Sto), m < c ∧ TinOk (q + 1) s' ∧ ∀ (n : Nat) (t : Sto), callN Tb (n + 1) 29 [.loc 0, .int (c : Int)] (s ++ t) = some (.int (m : Int), s' ++ t) := by
  obtain ⟨a, b, k, rfl, k1, k2⟩ := h
  have low : ∀ x : Int, ∃ m : Nat, m < c ∧ x % (c : Int) = (m : Int) := fun x => ⟨(x % (c : Int)).toNat, by
    have := Int.emod_lt_of_pos x (b := (c : Int)) (by omega)
    omega, (Int.toNat_of_nonneg (Int.emod_nonneg _ (by omega))).symm⟩
  have c0 : 0 < (c : Int) := by omega
  have c1 : (c : Int) < 1073741824 := by omega
  by_cases ha : 0 < a
  · obtain ⟨m, hm, em⟩ := low a
    refine ⟨m, tinS (a / c) b k, hm, ⟨_, _, _, rfl, k1, by omega⟩, fun n t => ?_⟩
    rw [callN_at (d := d_law_take) rfl]
    refine run_ret rfl ?_ fin_no
    unfold tinS
    simp [ixn0, ixn2, ix0, ix1, ix2, ha, em, hc, c1]
  · have bk : big k = true := by unfold big; exact decide_eq_true (by omega)
    have bk1 : big (39373 + (k + 1)) = true := by unfold big; exact decide_eq_true (by omega)
    have bk2 : big (k + 1) = true := by unfold big; exact decide_eq_true (by omega)
    have bw : ∀ x : Int, big (x % 40009 + 7) = true := fun x => by
      unfold big
      have h1 := Int.emod_nonneg x (b := 40009) (by decide)
      have h2 := Int.emod_lt_of_pos x (b := 40009) (by decide)
      exact decide_eq_true (by omega)
    have b4 : big 48271 = true := by decide
    obtain ⟨m, hm, em⟩ := low ((((((b + 48271 * (k + 1)) * (39373 + (k + 1)) % 2147483647 + (k + 1) + b / 1000003) * ((b + 48271 * (k + 1)) * (39373 + (k + 1)) % 2147483647 % 40009 + 7)) % 2147483629 * 48271 + (b + 48271 * (k + 1)) * (39373 + (k + 1)) % 2147483647) % 2147483587) / 64)
    refine ⟨m, tinS a b (k + 1), hm, ⟨_, _, _, rfl, by omega, by omega⟩, fun n t => ?_⟩
    rw [callN_at (d := d_law_take) rfl]
    refine run_ret rfl ?_ fin_no
    unfold tinS
    simp [ixn0, ixn2, ix0, ix1, ix2, ha, hc, c1, bk2, bk1, bw, b4]
    exact em
/-- one of these -/
theorem f_of {q : Nat} (hq : q < 1000000) {xs : List D} (hx : xs ≠ []) (hc2 : xs.length < 1000000) {s : Sto} (h : TinOk q s) : ∃ (x : D) (s' : Sto), x ∈ xs ∧ TinOk (q + 1) s' ∧ ∀ (n : Nat) (t : Sto), callN Tb (n + 2) 31 [.loc 0, .lst xs] (s ++ t) = some (x, s' ++ t) := by
  obtain ⟨m, s', hm, h', e⟩ := f_take hq (List.length_pos_iff.mpr hx) hc2 h
  refine ⟨xs[m], s', List.getElem_mem hm, h', fun n t => ?_⟩
  rw [callN_at (d := d_law_of) rfl]
  have e1 := e n t
  have i1 : ixD xs (m : Int) = some xs[m] := by
    rw [ix_nat]
    exact List.getElem?_eq_getElem hm
  refine run_ret rfl ?_ fin_no
  simp [e1, i1]
/-- the tin itself -/
theorem f_box {x : Int} {n : Nat} : ∃ s, TinOk 0 s ∧ callN Tb (n + 1) 28 [.lst [.int x], .int 0] [] = some (.loc 0, s) := by
  have b1 : big 1000000000000000000 = true := by decide
  have b2 : ∀ (P : Prop) [Decidable P], big (if P then 1 else 0) = true := fun P _ => by
    by_cases h : P
    · rw [if_pos h]
      decide
    · rw [if_neg h]
      decide
  refine ⟨_, ⟨(if x < 0 then -x else x) * (if decide ((10 : Int) ^ 18 ≤ if x < 0 then -x else x) then 1 else 0), x % 2305843009213693951 + 6010068, 0, rfl, by decide, by decide⟩, ?_⟩
  rw [callN_at (d := d_law_box) rfl]
  refine run_ret rfl ?_ fin_no
  have i1 : ixD [D.int x] 0 = some (.int x) := rfl
  have b3 : big 39373 = true := by decide
  simp [i1, b2, b3, tinS]
/-! ### the cells -/
theorem big_nat {k : Nat} (h : k < 1000) : big ((k : Int) + 2) = true := by
  unfold big
  exact decide_eq_true (by omega)
def bL : Ss := (.cons (.asg (.v 5) (.op (.bin .Mod) (.cons (.op .int (.cons (.var 3) .nil)) (.cons (.var 1) .nil))))
  (.cons (.setS (.var 2) (.var 5) (.op (.bin .Add) (.cons (.op .sub (.cons (.var 2) (.cons (.var 5) .nil))) (.cons (.op (.bin .Mult) (.cons (.var 4) (.cons (.op (.bin .Add) (.cons (.var 3) (.cons (.cst (.int 2)) .nil))) .nil))) .nil))))
  .nil))
theorem cellL {C : CallF} {x0 : Option D} {st st0 : Sto} : ∀ (l : List Int) (k : Nat) (a : Int) (x3 x4 x5 : Option D), k + l.length < 1000 →
    ∃ a' y3 y4 y5, fLoop (ft C false (.t [(.v 3), (.v 4)]) bL [] st0) (enumL k (l.map D.int)) [x0, some (.int 1), some (.loc st.length), x3, x4, x5] (st ++ [.lst [.int a]]) = some (.nx [x0, some (.int 1), some (.loc st.length), y3, y4, y5] (st ++ [.lst [.int a']]))
  | [], k, a, x3, x4, x5, _ => ⟨a, x3, x4, x5, rfl⟩
  | i :: l, k, a, x3, x4, x5, h => by
    rw [List.length_cons] at h
    obtain ⟨a', y3, y4, y5, e⟩ := cellL l (k + 1) (a + i * ((k : Int) + 2)) (some (.int (k : Int))) (some (.int i)) (some (.int 0)) (by omega)
    refine ⟨a', y3, y4, y5, ?_⟩
    rw [List.map_cons, enumL, fLoop_go (ρ' := [x0, some (.int 1), some (.loc st.length), some (.int (k : Int)), some (.int i), some (.int 0)]) (st' := st ++ [.lst [.int (a + i * ((k : Int) + 2))]])]
    · exact e
    · unfold ft bL
      have i1 : ixD [D.int a] 0 = some (.int a) := rfl
      have i2 : L2.ixN 1 0 = some 0 := by decide
      simp [i1, i2, big_nat (k := k) (by omega), turn_no, grdF_nil]
theorem cut_1_63 {xs : List D} (h : xs.length ≤ 63) : cutD xs (some 1) (some 63) = xs.drop 1 := by
  unfold cutD
  have h1 : HT.sIx xs.length 0 (some 1) = min 1 xs.length := HT.sIx_nat _ _ 1
  have h2 : HT.sIx xs.length xs.length (some 63) = min 63 xs.length := HT.sIx_nat _ _ 63
  rw [h1, h2]
  cases xs with
  | nil => rfl
  | cons x xs =>
    rw [List.length_cons] at h ⊢
    rw [show min 1 (xs.length + 1) = 1 by omega, show min 63 (xs.length + 1) = xs.length + 1 by omega]
    simp
theorem f_cells {ns : List Int} (hn : ns.length ≤ 63) {n : Nat} : ∃ x, callN Tb (n + 1) 30 [.kl (ns.map .int), .int 1] [] = some (.lst [.int x], []) := by
  have c1 : ∃ (st : Sto) (a : Int), ev (callN Tb n) (.or (.op (.list true) (.cons (.slice (.var 0) .nil (.cons (.var 1) .nil)) .nil)) (.op (.lst true) (.cons (.cst (.int 0)) .nil))) [some (.kl (ns.map .int)), some (.int 1), none, none, none, none] [] = some (.loc st.length, st ++ [.lst [.int a]]) := by
    cases ns with
    | nil => 
      refine ⟨[.lst []], 0, ?_⟩
      have := cut_to (xs := []) (j := 1)
      simp at this
      simp [this]
    | cons i l =>
      refine ⟨[], i, ?_⟩
      have := cut_to (xs := D.int i :: l.map D.int) (j := 1)
      simp at this
      simp [this]
  obtain ⟨st, a, e1⟩ := c1
  obtain ⟨a', y3, y4, y5, e2⟩ := cellL (C := callN Tb n) (x0 := some (.kl (ns.map .int))) (st := st) (st0 := st ++ [.lst [.int a]]) (ns.drop 1) 0 a none none none (by rw [List.length_drop]; omega)
  refine ⟨a', ?_⟩
  rw [callN_at (d := d_law_cells) rfl]
  have s1 : exS (callN Tb n) (.asg (.v 2) (.or (.op (.list true) (.cons (.slice (.var 0) .nil (.cons (.var 1) .nil)) .nil)) (.op (.lst true) (.cons (.cst (.int 0)) .nil)))) [some (.kl (ns.map .int)), some (.int 1), none, none, none, none] [] = some (.nx [some (.kl (ns.map .int)), some (.int 1), some (.loc st.length), none, none, none] (st ++ [.lst [.int a]])) := by
    rw [x_asg, e1]
    simp
  have s2 : exS (callN Tb n) (.for false (.t [(.v 3), (.v 4)]) (.enum (.slice (.var 0) (.cons (.var 1) .nil) (.cons (.cst (.int 63)) .nil))) bL) [some (.kl (ns.map .int)), some (.int 1), some (.loc st.length), none, none, none] (st ++ [.lst [.int a]]) = some (.nx [some (.kl (ns.map .int)), some (.int 1), some (.loc st.length), y3, y4, y5] (st ++ [.lst [.int a']])) := by
    rw [x_for]
    have ei : evi (callN Tb n) (.enum (.slice (.var 0) (.cons (.var 1) .nil) (.cons (.cst (.int 63)) .nil))) [some (.kl (ns.map .int)), some (.int 1), some (.loc st.length), none, none, none] (st ++ [.lst [.int a]]) = some (enumL 0 ((ns.drop 1).map D.int), [], st ++ [.lst [.int a]]) := by
      have hc := cut_1_63 (xs := ns.map D.int) (by rw [List.length_map]; exact hn)
      rw [← List.map_drop] at hc
      generalize ns.map D.int = X at hc ⊢
      simp [hc]
    rw [ei]
    exact e2
  refine run_ret rfl ((ss_nx s1).trans ((ss_nx s2).trans (ss_ret (st' := st ++ [.lst [.int a']]) (d := .loc st.length) ?_))) ?_
  · simp
  · have g := fin_gc (st := []) (st' := st ++ [.lst [.int a']]) (r := .loc st.length) (r' := .lst [.int a']) ?_ gc_app
    · simpa using g
    · have := fz_loc (st := []) (xs := st ++ [.lst [.int a']]) (i := st.length) (ds := [.int a']) (by simp) rfl
      simpa using this
end T68
end
section
set_option Elab.async false
set_option linter.all false
set_option autoImplicit false
set_option maxHeartbeats 4000000
set_option maxRecDepth 100000
namespace T68
open PySem Ro

/-! ## picks -/
theorem tin_len {q : Nat} {s : Sto} (h : TinOk q s) : s.length = 1 := by
  obtain ⟨a, b, k, rfl, _⟩ := h
  rfl
theorem tin_gc {q p : Nat} {s s' t : Sto} (h : TinOk q s) (h' : TinOk p s') : gcOk s.length s (s' ++ t) := by
  obtain ⟨a, b, k, rfl, _⟩ := h
  obtain ⟨a', b', k', rfl, _⟩ := h'
  refine ⟨by simp [tinS], fun i hi => .inr ⟨.lst [.int a', .int b', .int k'], ?_, rfl⟩⟩
  have : i = 0 := by simp [tinS] at hi; exact hi
  subst this
  rfl
theorem fin_tin {q p : Nat} {s s' t : Sto} (h : TinOk q s) (h' : TinOk p s') {r : D} (hr : nol r = true) : finD true s r (s' ++ t) = some (r, s') := by
  rw [fin_gc (fz_nol hr) (tin_gc h h'), tin_len h, ← tin_len h', ap_take]
theorem fin_tinl {q p : Nat} {s s' t : Sto} (h : TinOk q s) (h' : TinOk p s') {i : Nat} {ds : List D} (ht : t[i]? = some (.lst ds)) (hr : nolL ds = true) : finD true s (.loc (s'.length + i)) (s' ++ t) = some (.lst ds, s') := by
  have f := fz_loc (st := s') (xs := t) (i := i) ht hr
  rw [tin_len h', ← tin_len h] at f
  rw [tin_len h', ← tin_len h, fin_gc f (tin_gc h h'), tin_len h, ← tin_len h', ap_take]
def bK : Ss := (.cons (.ex (.meth .append (.var 4) (.cons (.meth .popi (.var 3) (.cons (.call 29 (.cons (.var 0) (.cons (.op .len (.cons (.var 3) .nil)) .nil))) .nil)) .nil)))
  .nil)
theorem pickL {n : Nat} {x1 x2 : Option D} {st0 : Sto} : ∀ (ks : List D) (q : Nat) (s : Sto) (pool F : List D) (x5 : Option D), TinOk q s → q + ks.length < 1000000 → ks.length ≤ pool.length → pool.length < 1000000 → F.length + ks.length < 1000000 → 
    ∃ (F' P : List D) (s' : Sto) (y5 : Option D), TinOk (q + ks.length) s' ∧ (∀ x ∈ F', x ∈ pool) ∧ fLoop (ft (callN Tb (n + 1)) false (.v 5) bK [] st0) ks [some (.loc 0), x1, x2, some (.loc 1), some (.loc 2), x5] (s ++ [.lst pool, .lst F]) = some (.nx [some (.loc 0), x1, x2, some (.loc 1), some (.loc 2), y5] (s' ++ [.lst P, .lst (F ++ F')]))
  | [], q, s, pool, F, x5, h, _, _, _, _ => ⟨[], pool, s, x5, h, (fun (x : D) (hx : x ∈ ([] : List D)) => by cases hx), by rw [List.append_nil]; rfl⟩
  | k :: ks, q, s, pool, F, x5, h, hq, hp, hp2, hF => by
    rw [List.length_cons] at hq hp hF
    obtain ⟨m, s1, hm, h1, e1⟩ := f_take (q := q) (by omega) (c := pool.length) (by omega) hp2 h
    obtain ⟨F', P, s', y5, h2, hx, e2⟩ := pickL ks (q + 1) s1 (pool.eraseIdx m) (F ++ [pool[m]]) (some k) h1 (by omega) (by rw [List.length_eraseIdx, if_pos hm]; omega) (by rw [List.length_eraseIdx, if_pos hm]; omega) (by rw [List.length_append, List.length_singleton]; omega)
    refine ⟨pool[m] :: F', P, s', y5, ?_, ?_, ?_⟩
    · rw [List.length_cons]
      rw [show q + (ks.length + 1) = q + 1 + ks.length by omega]
      exact h2
    · intro x hxx
      rcases List.mem_cons.mp hxx with rfl | hxx
      · exact List.getElem_mem hm
      · exact List.mem_of_mem_eraseIdx (hx x hxx)
    · rw [fLoop_go (ρ' := [some (.loc 0), x1, x2, some (.loc 1), some (.loc 2), some k]) (st' := s1 ++ [.lst (pool.eraseIdx m), .lst (F ++ [pool[m]])])]
      · rw [e2]
        simp
      · have hm2 : (m : Int) < 4611686018427387904 := by omega
        have hl : F.length < sizeLine := Nat.lt_trans (m := 1000000) (by omega) (by decide)
        have e3 := e1 n [.lst pool, .lst F]
        obtain ⟨a, b, c, rfl, _⟩ := h
        obtain ⟨a', b', c', rfl, _⟩ := h1
        simp only [tinS, List.cons_append, List.nil_append] at e3 ⊢
        unfold ft bK
        simp [e3, hm, hm2, hl, turn_no, grdF_nil]
theorem f_pick {q : Nat} {xs : List D} {k : Nat} (hk : k < 1000) (hq : q + 1000 < 1000000) (hx : xs.length < 1000000) (nx : nolL xs = true) {s : Sto} (h : TinOk q s) {n : Nat} : ∃ (F : List D) (s' : Sto), TinOk (q + k) s' ∧ (∀ x ∈ F, x ∈ xs) ∧ callN Tb (n + 2) 32 [.loc 0, .lst xs, .int (k : Int)] s = some (.lst F, s') := by
  have rl : rangeL 0 (min k xs.length) = nD (List.range (min k xs.length)) := by
    unfold rangeL nD
    refine List.map_congr_left fun k _ => ?_
    rw [Int.zero_add]
  have sl : min k xs.length ≤ sizeLine := Nat.le_trans (Nat.le_of_lt (Nat.lt_of_le_of_lt (Nat.min_le_left ..) hk)) (by decide)
  have ll : (nD (List.range (min k xs.length))).length = min k xs.length := by rw [nD_len, List.length_range]
  obtain ⟨F, P, s', y5, h1, hF, e⟩ := pickL (n := n) (x1 := some (.lst xs)) (x2 := some (.int (k : Int))) (st0 := s ++ [.lst xs, .lst []]) (nD (List.range (min k xs.length))) q s xs [] none h (by rw [ll]; omega) (by rw [ll]; omega) hx (by rw [ll, List.length_nil]; omega)
  rw [ll] at h1
  refine ⟨F, s', h1.mono (by omega), hF, ?_⟩
  rw [callN_at (d := d_law_pick) rfl]
  have s1 : exS (callN Tb (n + 1)) (.par [3, 4] (.cons (.op (.list true) (.cons (.var 1) .nil)) (.cons (.op (.lst true) .nil) .nil))) [some (.loc 0), some (.lst xs), some (.int (k : Int)), none, none, none] s = some (.nx [some (.loc 0), some (.lst xs), some (.int (k : Int)), some (.loc 1), some (.loc 2), none] (s ++ [.lst xs, .lst []])) := by
    have := tin_len h
    simp [this]
  have s2 : exS (callN Tb (n + 1)) (.for false (.v 5) (.range (.cons (.op .min2 (.cons (.op .int (.cons (.var 2) .nil)) (.cons (.op .len (.cons (.var 3) .nil)) .nil))) .nil)) bK) [some (.loc 0), some (.lst xs), some (.int (k : Int)), some (.loc 1), some (.loc 2), none] (s ++ [.lst xs, .lst []]) = some (.nx [some (.loc 0), some (.lst xs), some (.int (k : Int)), some (.loc 1), some (.loc 2), y5] (s' ++ [.lst P, .lst F])) := by
    rw [x_for]
    have ei : evi (callN Tb (n + 1)) (.range (.cons (.op .min2 (.cons (.op .int (.cons (.var 2) .nil)) (.cons (.op .len (.cons (.var 3) .nil)) .nil))) .nil)) [some (.loc 0), some (.lst xs), some (.int (k : Int)), some (.loc 1), some (.loc 2), none] (s ++ [.lst xs, .lst []]) = some (nD (List.range (min k xs.length)), [], s ++ [.lst xs, .lst []]) := by
      have g : (s ++ [Ob.lst xs, Ob.lst []])[1]? = some (.lst xs) := by
        rw [← tin_len h]
        exact ap_get0
      have r1 := range_nat sl
      rw [rl] at r1
      simp only [w_range, w_cons, w_nil, w_op, w_var, List.getElem?_cons_succ, List.getElem?_cons_zero, p_inti, p_len, sq_loc, g, p_min2, min_nat2, r1, Option.map_some]
    rw [ei]
    exact e
  refine run_ret rfl ((ss_nx s1).trans ((ss_nx s2).trans (ss_ret (st' := s' ++ [.lst P, .lst F]) (d := .loc 2) ?_))) ?_
  · simp
  · have := fin_tinl (t := [.lst P, .lst F]) h h1 (i := 1) (ds := F) rfl (nolL_of fun x hx => nolL_at nx x (hF x hx))
    rw [tin_len h1] at this
    exact this
end T68
end
section
set_option Elab.async false
set_option linter.all false
set_option autoImplicit false
set_option maxHeartbeats 4000000
set_option maxRecDepth 100000
namespace T68
open PySem Ro

/-! ## the law's debts -/
theorem drawsL {xs : List D} {f : D → Sto → Option (Option D × Sto)} {st0 t : Sto} (hf : ∀ (x : D) (q : Nat) (s : Sto), q < 1000000 → TinOk q s → ∃ y s', y ∈ xs ∧ TinOk (q + 1) s' ∧ f x (s ++ t) = some (some y, s' ++ t)) :
    ∀ (ks : List D) (q : Nat) (s : Sto), q + ks.length < 1000000 → TinOk q s → ∃ (ys : List D) (s' : Sto), (∀ y ∈ ys, y ∈ xs) ∧ ys.length = ks.length ∧ TinOk (q + ks.length) s' ∧ cLoop (grdC [] st0 f) ks (s ++ t) = some (ys, s' ++ t)
  | [], q, s, _, h => ⟨[], s, (fun (x : D) (hx : x ∈ ([] : List D)) => by cases hx), rfl, h, rfl⟩
  | k :: ks, q, s, hq, h => by
    rw [List.length_cons] at hq
    obtain ⟨y, s1, hy, h1, e1⟩ := hf k q s (by omega) h
    obtain ⟨ys, s', hys, hl, h2, e2⟩ := drawsL hf ks (q + 1) s1 (by omega) h1
    refine ⟨y :: ys, s', ?_, by rw [List.length_cons, List.length_cons, hl], ?_, ?_⟩
    · intro z hz
      rcases List.mem_cons.mp hz with rfl | hz
      · exact hy
      · exact hys z hz
    · rw [List.length_cons, show q + (ks.length + 1) = q + 1 + ks.length by omega]
      exact h2
    · have g1 : grdC [] st0 f k (s ++ t) = some (some y, s1 ++ t) := by
        unfold grdC
        rw [e1]
        simp only []
        rw [if_pos keep_nil]
      unfold cLoop
      rw [g1]
      simp only []
      rw [e2]
theorem nD_of {xs : List Nat} : ∀ {ys : List D}, (∀ y ∈ ys, y ∈ nD xs) → ∃ zs : List Nat, ys = nD zs ∧ ∀ z ∈ zs, z ∈ xs
  | [], _ => ⟨[], rfl, (fun (x : Nat) (hx : x ∈ ([] : List Nat)) => by cases hx)⟩
  | y :: ys, h => by
    obtain ⟨zs, e, hz⟩ := nD_of fun z hz => h z (List.mem_cons_of_mem _ hz)
    obtain ⟨o, ho, rfl⟩ := List.mem_map.mp (h y (List.mem_cons_self ..))
    refine ⟨o :: zs, by rw [e]; rfl, ?_⟩
    intro w hw
    rcases List.mem_cons.mp hw with rfl | hw
    · exact ho
    · exact hz w hw
theorem rng_nD {N : Nat} : rangeL 0 N = nD (List.range N) := by
  unfold rangeL nD
  refine List.map_congr_left fun k _ => ?_
  rw [Int.zero_add]
theorem sz_of {k : Nat} (h : k < 1000) : k ≤ sizeLine := Nat.le_trans (Nat.le_of_lt h) (by decide)
def oth (N k : Nat) : List Nat := (List.range N).filter fun o => decide (o ≠ k)
theorem oth_len {N k : Nat} : (oth N k).length ≤ N := by
  have := List.length_filter_le (fun o => decide (o ≠ k)) (List.range N)
  rw [List.length_range] at this
  exact this
theorem oth_ne {N k : Nat} (h : 2 ≤ N) : oth N k ≠ [] := by
  intro e
  have : ∀ o, o < N → o = k := fun o ho => by
    by_cases p : o = k
    · exact p
    · have : o ∈ oth N k := List.mem_filter.mpr ⟨List.mem_range.mpr ho, decide_eq_true p⟩
      rw [e] at this
      cases this
  have h0 := this 0 (by omega)
  have h1 := this 1 (by omega)
  omega
def bD : Ss := (.cons (.asg (.v 4) (.comp false [5] (.v 5) (.range (.cons (.var 1) .nil)) (.cons (.op (.cmp .NotEq) (.cons (.var 5) (.cons (.var 3) .nil))) .nil) (.var 5)))
  (.cons (.ex (.meth .append (.var 2) (.cons (.op (.tuple true) (.cons (.comp false [6] (.v 6) (.range (.cons (.call 29 (.cons (.var 0) (.cons (.cst (.int 4)) .nil))) .nil)) .nil (.call 31 (.cons (.var 0) (.cons (.var 4) .nil)))) .nil)) .nil)))
  .nil))
theorem turnD1 {N : Nat} (hN : 2 ≤ N) (hN2 : N < 10) {n : Nat} {st0 : Sto} {k : Nat} (hk : k < N) {q : Nat} (hq : q < 900000) {s : Sto} (h : TinOk q s) {F : List D} (hF : F.length < 100) {x3 x4 x5 x6 : Option D} :
    ∃ (row : List Nat) (s' : Sto), row.length ≤ 3 ∧ (∀ o ∈ row, o < N ∧ o ≠ k) ∧ TinOk (q + 4) s' ∧
      ft (callN Tb (n + 2)) false (.v 3) bD [] st0 (.int (k : Int)) [some (.loc 0), some (.int (N : Int)), some (.loc 1), x3, x4, x5, x6] (s ++ [.lst F]) = some (.inr ([some (.loc 0), some (.int (N : Int)), some (.loc 1), some (.int (k : Int)), some (.lst (nD (oth N k))), x5, x6], s' ++ [.lst (F ++ [.kt true (nD row)])])) := by
  have r1 := range_nat (sz_of (k := N) (by omega))
  have s1 : exS (callN Tb (n + 2)) (.asg (.v 4) (.comp false [5] (.v 5) (.range (.cons (.var 1) .nil)) (.cons (.op (.cmp .NotEq) (.cons (.var 5) (.cons (.var 3) .nil))) .nil) (.var 5))) [some (.loc 0), some (.int (N : Int)), some (.loc 1), some (.int (k : Int)), x4, x5, x6] (s ++ [.lst F]) = some (.nx [some (.loc 0), some (.int (N : Int)), some (.loc 1), some (.int (k : Int)), some (.lst (nD (oth N k))), x5, x6] (s ++ [.lst F])) := by
    have hc : ev (callN Tb (n + 2)) (.comp false [5] (.v 5) (.range (.cons (.var 1) .nil)) (.cons (.op (.cmp .NotEq) (.cons (.var 5) (.cons (.var 3) .nil))) .nil) (.var 5)) [some (.loc 0), some (.int (N : Int)), some (.loc 1), some (.int (k : Int)), x4, x5, x6] (s ++ [.lst F]) = some (.lst (nD (oth N k)), s ++ [.lst F]) := by
      rw [w_compP (xs := tab N fun (m : Nat) => .int (m : Int)) (ns := []) (st1 := s ++ [.lst F]) (g := fun x => match x with
        | .int i => if decide (i.toNat ≠ k) then some (.int i) else none
        | _ => none) (by
          have e : evs (callN Tb (n + 2)) (.cons (.var 1) .nil) [some (.loc 0), some (.int (N : Int)), some (.loc 1), some (.int (k : Int)), x4, x5, x6] (s ++ [.lst F]) = some ([.int (N : Int)], s ++ [.lst F]) := by simp
          rw [w_range, e]
          simp only [r1, rng_nD]
          rfl) (by
        intro x hm
        obtain ⟨i, hi, rfl⟩ := tab_mem hm
        by_cases p : i = k
        · subst p
          simp [tn]
        · simp [tn, beq_nat, p])]
      rw [fm_tab (p := fun m => decide (m ≠ k)) (h := fun m => .int (m : Int)) (by intro i hi; simp)]
      rfl
    rw [x_asg, hc]
    simp
  obtain ⟨c, s2, hc, h2, e2⟩ := f_take (q := q) (by omega) (c := 4) (by omega) (by omega) h
  have rc := range_nat (sz_of (k := c) (by omega))
  obtain ⟨ys, s3, hy, hl, h3, e3⟩ := drawsL (xs := nD (oth N k)) (f := tn (callN Tb (n + 2)) [some (.loc 0), some (.int (N : Int)), some (.loc 1), some (.int (k : Int)), some (.lst (nD (oth N k))), x5, x6] [6] (.v 6) .nil (.call 31 (.cons (.var 0) (.cons (.var 4) .nil)))) (st0 := s2 ++ [.lst F]) (t := [.lst F]) (by
    intro x q s hq h
    obtain ⟨y, s', hy, h', e⟩ := f_of hq (xs := nD (oth N k)) (fun e => oth_ne hN (nD_nil.mp e)) (by rw [nD_len]; have := @oth_len N k; omega) h
    refine ⟨y, s', hy, h', ?_⟩
    have e1 := e n [.lst F]
    simp [tn, e1]) (nD (List.range c)) (q + 1) s2 (by rw [nD_len, List.length_range]; omega) h2
  rw [nD_len, List.length_range] at hl h3
  obtain ⟨row, rfl, hrow⟩ := nD_of hy
  refine ⟨row, s3, by rw [nD_len] at hl; omega, fun o ho => ?_, h3.mono (by omega), ?_⟩
  · obtain ⟨p1, p2⟩ := List.mem_filter.mp (hrow o ho)
    exact ⟨List.mem_range.mp p1, of_decide_eq_true p2⟩
  · have ec : ev (callN Tb (n + 2)) (.comp false [6] (.v 6) (.range (.cons (.call 29 (.cons (.var 0) (.cons (.cst (.int 4)) .nil))) .nil)) .nil (.call 31 (.cons (.var 0) (.cons (.var 4) .nil)))) [some (.loc 0), some (.int (N : Int)), some (.loc 1), some (.int (k : Int)), some (.lst (nD (oth N k))), x5, x6] (s ++ [.lst F]) = some (.lst (nD row), s3 ++ [.lst F]) := by
      have ei : evi (callN Tb (n + 2)) (.range (.cons (.call 29 (.cons (.var 0) (.cons (.cst (.int 4)) .nil))) .nil)) [some (.loc 0), some (.int (N : Int)), some (.loc 1), some (.int (k : Int)), some (.lst (nD (oth N k))), x5, x6] (s ++ [.lst F]) = some (nD (List.range c), [], s2 ++ [.lst F]) := by
        have e : evs (callN Tb (n + 2)) (.cons (.call 29 (.cons (.var 0) (.cons (.cst (.int 4)) .nil))) .nil) [some (.loc 0), some (.int (N : Int)), some (.loc 1), some (.int (k : Int)), some (.lst (nD (oth N k))), x5, x6] (s ++ [.lst F]) = some ([.int (c : Int)], s2 ++ [.lst F]) := by
          have := e2 (n + 1) [.lst F]
          simp at this
          simp [this]
        rw [w_range, e]
        simp only [rc, rng_nD]
        rfl
      rw [w_comp, ei]
      simp only [e3, newL]
      rfl
    have s4 : exS (callN Tb (n + 2)) (.ex (.meth .append (.var 2) (.cons (.op (.tuple true) (.cons (.comp false [6] (.v 6) (.range (.cons (.call 29 (.cons (.var 0) (.cons (.cst (.int 4)) .nil))) .nil)) .nil (.call 31 (.cons (.var 0) (.cons (.var 4) .nil)))) .nil)) .nil))) [some (.loc 0), some (.int (N : Int)), some (.loc 1), some (.int (k : Int)), some (.lst (nD (oth N k))), x5, x6] (s ++ [.lst F]) = some (.nx [some (.loc 0), some (.int (N : Int)), some (.loc 1), some (.int (k : Int)), some (.lst (nD (oth N k))), x5, x6] (s3 ++ [.lst (F ++ [.kt true (nD row)])])) := by
      have l0 := tin_len h
      have l3 := tin_len h3
      have g0 : (s ++ [Ob.lst F])[1]? = some (.lst F) := by rw [← l0]; exact ap_get0
      have g3 : (s3 ++ [Ob.lst F])[1]? = some (.lst F) := by rw [← l3]; exact ap_get0
      have g4 : ∀ o, (s3 ++ [Ob.lst F]).set 1 o = s3 ++ [o] := fun o => by rw [← l3]; exact ap_set0
      have lt : F.length < sizeLine := Nat.lt_trans hF (by decide)
      simp only [x_ex, w_meth, w_cons, w_nil, w_op, w_var, List.getElem?_cons_succ, List.getElem?_cons_zero, ec, mt_app, lo_loc, g0, p_tupl, p_app, g3, g4, lt, if_true, Option.isSome_some, Option.map_some]
    have eb : exSs (callN Tb (n + 2)) bD [some (.loc 0), some (.int (N : Int)), some (.loc 1), some (.int (k : Int)), x4, x5, x6] (s ++ [.lst F]) = _ := (ss_nx s1).trans ((ss_nx s4).trans z_nil)
    unfold ft
    rw [show bindT (.v 3) (.int (k : Int)) [some (.loc 0), some (.int (N : Int)), some (.loc 1), x3, x4, x5, x6] = some [some (.loc 0), some (.int (N : Int)), some (.loc 1), some (.int (k : Int)), x4, x5, x6] by simp]
    simp only [eb, turn_no, grdF_nil]
end T68
end
section
set_option Elab.async false
set_option linter.all false
set_option autoImplicit false
set_option maxHeartbeats 4000000
set_option maxRecDepth 100000
namespace T68
open PySem Ro

theorem ev_pair {C : CallF} {a b : Ex} {ρ : Ro.Env} {st st1 st2 : Sto} {A B : D} (h1 : ev C a ρ st = some (A, st1)) (h2 : ev C b ρ st1 = some (B, st2)) : ev C (.op .tup (.cons a (.cons b .nil))) ρ st = some (.tup [A, B], st2) := by
  simp [h1, h2]
theorem ev_tuploc {C : CallF} {i n : Nat} {ρ : Ro.Env} {st : Sto} {X : List D} (h : ρ[i]? = some (some (.loc n))) (g : st[n]? = some (.lst X)) : ev C (.op (.tuple false) (.cons (.var i) .nil)) ρ st = some (.tup X, st) := by
  simp [h, g]
theorem ev_tuplst {C : CallF} {a : Ex} {ρ : Ro.Env} {st st1 : Sto} {X : List D} (h1 : ev C a ρ st = some (.lst X, st1)) : ev C (.op (.tuple false) (.cons a .nil)) ρ st = some (.tup X, st1) := by
  simp [h1]
def ktR (row : List Nat) : D := .kt true (nD row)
theorem loopD {N : Nat} (hN : 2 ≤ N) (hN2 : N < 10) {n : Nat} {st0 : Sto} : ∀ (l : List Nat) (q : Nat) (s : Sto) (F : List D) (x3 x4 x5 x6 : Option D), (∀ k ∈ l, k < N) → q + 4 * l.length < 900000 → TinOk q s → F.length + l.length < 100 →
    ∃ (rows : List (List Nat)) (s' : Sto) (y3 y4 : Option D), rows.length = l.length ∧ (∀ (i k : Nat) (row : List Nat), l[i]? = some k → rows[i]? = some row → row.length ≤ 3 ∧ ∀ o ∈ row, o < N ∧ o ≠ k) ∧ TinOk (q + 4 * l.length) s' ∧
      fLoop (ft (callN Tb (n + 2)) false (.v 3) bD [] st0) (nD l) [some (.loc 0), some (.int (N : Int)), some (.loc 1), x3, x4, x5, x6] (s ++ [.lst F]) = some (.nx [some (.loc 0), some (.int (N : Int)), some (.loc 1), y3, y4, x5, x6] (s' ++ [.lst (F ++ rows.map ktR)]))
  | [], q, s, F, x3, x4, x5, x6, _, _, h, _ => ⟨[], s, x3, x4, rfl, (fun i k row h => by simp at h), h, by rw [List.map_nil, List.append_nil]; rfl⟩
  | k :: l, q, s, F, x3, x4, x5, x6, hl, hq, h, hF => by
    rw [List.length_cons] at hq hF
    obtain ⟨row, s1, r1, r2, h1, e1⟩ := turnD1 hN hN2 (n := n) (st0 := st0) (hl k (List.mem_cons_self ..)) (q := q) (by omega) h (F := F) (by omega) (x3 := x3) (x4 := x4) (x5 := x5) (x6 := x6)
    obtain ⟨rows, s', y3, y4, c1, c2, h2, e2⟩ := loopD hN hN2 (n := n) (st0 := st0) l (q + 4) s1 (F ++ [.kt true (nD row)]) (some (.int (k : Int))) (some (.lst (nD (oth N k)))) x5 x6 (fun j hj => hl j (List.mem_cons_of_mem _ hj)) (by omega) h1 (by rw [List.length_append, List.length_singleton]; omega)
    refine ⟨row :: rows, s', y3, y4, by rw [List.length_cons, List.length_cons, c1], ?_, by rw [List.length_cons, show q + 4 * (l.length + 1) = q + 4 + 4 * l.length by omega]; exact h2, ?_⟩
    · intro i k' row' hi hr
      cases i with
      | zero =>
        simp at hi hr
        subst hi hr
        exact ⟨r1, r2⟩
      | succ i =>
        simp at hi hr
        exact c2 i k' row' hi hr
    · show fLoop _ (.int (k : Int) :: nD l) _ _ = _
      rw [fLoop_go e1, e2]
      rw [List.map_cons, List.append_assoc]
      rfl
/-- the debts and coins as the law makes them -/
def lawDb (N : Nat) (r : Nat → List Nat) : D := .tup (tab N fun m => ktR (r m))
theorem rows_tab {rows : List (List Nat)} {f : List Nat → D} : rows.map f = tab rows.length fun m => f (rows[m]?.getD []) := by
  refine List.ext_getElem? fun i => ?_
  rw [List.getElem?_map]
  by_cases h : i < rows.length
  · rw [tab_get h, List.getElem?_eq_getElem h]
    rfl
  · rw [List.getElem?_eq_none (by omega), List.getElem?_eq_none (by rw [tab_len]; omega)]
    rfl
theorem ints_tab {xs : List Nat} : nD xs = tab xs.length fun m => .int ((xs[m]?.getD 0 : Nat) : Int) := by
  refine List.ext_getElem? fun i => ?_
  rw [nD_get]
  by_cases h : i < xs.length
  · rw [tab_get h, List.getElem?_eq_getElem h]
    rfl
  · rw [List.getElem?_eq_none (by omega), List.getElem?_eq_none (by rw [tab_len]; omega)]
    rfl
theorem f_debts {N : Nat} (hN : 2 ≤ N) (hN2 : N < 10) {q : Nat} (hq : q < 100000) {s : Sto} (h : TinOk q s) {n : Nat} :
    ∃ (r : Nat → List Nat) (c : Nat → Nat) (s' : Sto), (∀ m, m < N → (r m).length ≤ 3) ∧ okR N r ∧ TinOk (q + 50) s' ∧ callN Tb (n + 3) 34 [.loc 0, .int (N : Int)] s = some (.tup [lawDb N r, coT N c], s') := by
  have r1 := range_nat (sz_of (k := N) (by omega))
  obtain ⟨rows, s1, y3, y4, c1, c2, h1, e1⟩ := loopD hN hN2 (n := n) (st0 := s ++ [.lst []]) (List.range N) q s [] none none none none (fun k hk => List.mem_range.mp hk) (by rw [List.length_range]; omega) h (by rw [List.length_range, List.length_nil]; omega)
  rw [List.length_range] at c1 h1
  rw [List.nil_append] at e1
  have hu : (1 : Nat) = s1.length := (tin_len h1).symm
  obtain ⟨ys, s2, hy, hl, h2, e2⟩ := drawsL (xs := nD [0, 0, 1, 2]) (f := tn (callN Tb (n + 2)) [some (.loc 0), some (.int (N : Int)), some (.loc 1), y3, y4, none, none] [3] (.v 3) .nil (.call 31 (.cons (.var 0) (.cons (.op (.lst false) (.cons (.cst (.int 0)) (.cons (.cst (.int 0)) (.cons (.cst (.int 1)) (.cons (.cst (.int 2)) .nil))))) .nil)))) (st0 := s1 ++ [.lst (rows.map ktR)]) (t := [.lst (rows.map ktR)]) (by
    intro x q s hq h
    obtain ⟨y, s', hy, h', e⟩ := f_of hq (xs := nD [0, 0, 1, 2]) (by simp [nD]) (by rw [nD_len]; decide) h
    refine ⟨y, s', hy, h', ?_⟩
    have e1 := e n [.lst (rows.map ktR)]
    have q4 : nD [0, 0, 1, 2] = [.int 0, .int 0, .int 1, .int 2] := rfl
    rw [q4] at e1
    generalize rows.map ktR = X at e1 ⊢
    simp [tn, e1]) (nD (List.range N)) (q + 4 * N) s1 (by rw [nD_len, List.length_range]; omega) h1
  rw [nD_len, List.length_range] at hl h2
  obtain ⟨cs, rfl, _⟩ := nD_of hy
  rw [nD_len] at hl
  have hget : ∀ m, m < N → ∃ row, rows[m]? = some row ∧ row.length ≤ 3 ∧ ∀ o ∈ row, o < N ∧ o ≠ m := fun m hm => by
    have : rows[m]? = some rows[m] := List.getElem?_eq_getElem (by omega)
    exact ⟨_, this, c2 m m _ (List.getElem?_range hm) this⟩
  refine ⟨fun m => rows[m]?.getD [], fun m => cs[m]?.getD 0, s2, ?_, ?_, h2.mono (by omega), ?_⟩
  · intro m hm
    obtain ⟨row, e, h1, _⟩ := hget m hm
    simp only [e, Option.getD_some]
    exact h1
  · intro m hm
    obtain ⟨row, e, _, h1⟩ := hget m hm
    simp only [e, Option.getD_some]
    exact h1
  · rw [callN_at (d := d_law_debts) rfl]
    have er : (tab N fun m => ktR (rows[m]?.getD [])) = rows.map ktR := by rw [rows_tab, c1]
    have ec : (tab N fun m => D.int ((cs[m]?.getD 0 : Nat) : Int)) = nD cs := by rw [ints_tab, hl]
    unfold lawDb coT
    rw [er, ec]
    have s1' : exS (callN Tb (n + 2)) (.asg (.v 2) (.op (.lst true) .nil)) [some (.loc 0), some (.int (N : Int)), none, none, none, none, none] s = some (.nx [some (.loc 0), some (.int (N : Int)), some (.loc 1), none, none, none, none] (s ++ [.lst []])) := by
      have := tin_len h
      simp [this]
    have s2' : exS (callN Tb (n + 2)) (.for false (.v 3) (.range (.cons (.var 1) .nil)) bD) [some (.loc 0), some (.int (N : Int)), some (.loc 1), none, none, none, none] (s ++ [.lst []]) = some (.nx [some (.loc 0), some (.int (N : Int)), some (.loc 1), y3, y4, none, none] (s1 ++ [.lst (rows.map ktR)])) := by
      rw [x_for]
      have ei : evi (callN Tb (n + 2)) (.range (.cons (.var 1) .nil)) [some (.loc 0), some (.int (N : Int)), some (.loc 1), none, none, none, none] (s ++ [.lst []]) = some (nD (List.range N), [], s ++ [.lst []]) := by
        have e : evs (callN Tb (n + 2)) (.cons (.var 1) .nil) [some (.loc 0), some (.int (N : Int)), some (.loc 1), none, none, none, none] (s ++ [.lst []]) = some ([.int (N : Int)], s ++ [.lst []]) := by simp
        rw [w_range, e]
        simp only [r1, rng_nD]
        rfl
      rw [ei]
      exact e1
    have ecs : ev (callN Tb (n + 2)) (.comp false [3] (.v 3) (.range (.cons (.var 1) .nil)) .nil (.call 31 (.cons (.var 0) (.cons (.op (.lst false) (.cons (.cst (.int 0)) (.cons (.cst (.int 0)) (.cons (.cst (.int 1)) (.cons (.cst (.int 2)) .nil))))) .nil)))) [some (.loc 0), some (.int (N : Int)), some (.loc 1), y3, y4, none, none] (s1 ++ [.lst (rows.map ktR)]) = some (.lst (nD cs), s2 ++ [.lst (rows.map ktR)]) := by
      have ei : evi (callN Tb (n + 2)) (.range (.cons (.var 1) .nil)) [some (.loc 0), some (.int (N : Int)), some (.loc 1), y3, y4, none, none] (s1 ++ [.lst (rows.map ktR)]) = some (nD (List.range N), [], s1 ++ [.lst (rows.map ktR)]) := by
        have e : evs (callN Tb (n + 2)) (.cons (.var 1) .nil) [some (.loc 0), some (.int (N : Int)), some (.loc 1), y3, y4, none, none] (s1 ++ [.lst (rows.map ktR)]) = some ([.int (N : Int)], s1 ++ [.lst (rows.map ktR)]) := by simp
        rw [w_range, e]
        simp only [r1, rng_nD]
        rfl
      rw [w_comp, ei]
      simp only [e2, newL]
      rfl
    refine run_ret rfl ((ss_nx s1').trans ((ss_nx s2').trans (ss_ret (st' := s2 ++ [.lst (rows.map ktR)]) (d := .tup [.tup (rows.map ktR), .tup (nD cs)]) ?_))) (fin_tin h h2 ?_)
    · refine x_retE ?_
      have g1 : (s1 ++ [Ob.lst (rows.map ktR)])[1]? = some (.lst (rows.map ktR)) := by rw [hu]; exact ap_get0
      generalize rows.map ktR = X at ecs g1 ⊢
      refine ev_pair (ev_tuploc (i := 2) (n := 1) rfl g1) ?_
      exact ev_tuplst ecs
    · simp only [nol, nolL, Bool.and_eq_true, and_true]
      refine ⟨nolL_of fun x hx => ?_, nol_nD⟩
      obtain ⟨row, _, rfl⟩ := List.mem_map.mp hx
      exact nol_nD
end T68
end
section
set_option Elab.async false
set_option linter.all false
set_option autoImplicit false
set_option maxHeartbeats 4000000
set_option maxRecDepth 100000
namespace T68
open PySem Ro
open M68 (Sys Vec)

/-! ## the law's other tools -/
theorem as_law {N : Nat} {r : Nat → List Nat} : AsDb (lawDb N r) N r := ⟨by
  unfold lawDb dbT ktR
  rw [tupD, tupL_map, tab_map]
  refine congrArg D.tup (tab_ext fun i _ => ?_)
  rw [tupD, tupL_map]
  unfold nD
  rw [List.map_map]
  rfl, by
  unfold lawDb ktR
  rw [dep]
  refine depL_of fun x hx => ?_
  obtain ⟨i, _, rfl⟩ := tab_mem hx
  rw [dep]
  exact dep_nD⟩
def listDb (N : Nat) (r : Nat → List Nat) : D := .lst (tab N fun m => .lst (nD (r m)))
theorem as_list {N : Nat} {r : Nat → List Nat} : AsDb (listDb N r) N r := ⟨by
  unfold listDb dbT
  rw [tupD, tupL_map, tab_map]
  refine congrArg D.tup (tab_ext fun i _ => ?_)
  rw [tupD, tupL_map]
  unfold nD
  rw [List.map_map]
  rfl, by
  unfold listDb
  rw [dep]
  refine depL_of fun x hx => ?_
  obtain ⟨i, _, rfl⟩ := tab_mem hx
  rw [dep]
  exact dep_nD⟩
def listCo (N : Nat) (c : Nat → Nat) : D := .lst (tab N fun m => .int (c m : Int))
theorem as_listCo {N : Nat} {c : Nat → Nat} : AsCo (listCo N c) N c := ⟨by
  unfold listCo coT
  rw [tupD, tupL_map, tab_map]
  rfl, by
  unfold listCo
  rw [dep]
  refine depL_of fun x hx => ?_
  obtain ⟨i, _, rfl⟩ := tab_mem hx
  rfl⟩
theorem f_lists0 {n : Nat} {i : Int} {st : Sto} : callN Tb (n + 1) 33 [.int i] st = some (.int i, st) := by
  rw [callN_at (d := d_law_lists) rfl]
  refine run_ret rfl ?_ fin_no
  simp
theorem f_lists1 {n : Nat} {row : List Nat} {st : Sto} : callN Tb (n + 2) 33 [ktR row] st = some (.lst (nD row), st) := by
  rw [callN_at (d := d_law_lists) rfl]
  refine run_ret rfl ?_ fin_no
  have hc := w_compM (C := callN Tb (n + 1)) (ρ := [some (ktR row), none]) (st := st) (own := [1]) (t := .v 1) (it := .seq (.var 0)) (ifs := .nil) (e := .call 33 (.cons (.var 1) .nil)) (xs := nD row) (ns := []) (st1 := st) (g := fun x => x) (by simp [ktR]) (by
    intro x hm
    obtain ⟨o, _, rfl⟩ := List.mem_map.mp hm
    simp [tn, f_lists0])
  rw [List.map_id'] at hc
  unfold ktR at hc ⊢
  simp [hc]
theorem f_lists {n N : Nat} {r : Nat → List Nat} {st : Sto} : callN Tb (n + 3) 33 [lawDb N r] st = some (listDb N r, st) := by
  rw [callN_at (d := d_law_lists) rfl]
  refine run_ret rfl ?_ fin_no
  have hc := w_compM (C := callN Tb (n + 2)) (ρ := [some (lawDb N r), none]) (st := st) (own := [1]) (t := .v 1) (it := .seq (.var 0)) (ifs := .nil) (e := .call 33 (.cons (.var 1) .nil)) (xs := tab N fun m => ktR (r m)) (ns := []) (st1 := st) (g := fun x => match x with
    | .kt _ xs => .lst xs
    | _ => .non) (by simp [lawDb]) (by
    intro x hm
    obtain ⟨i, _, rfl⟩ := tab_mem hm
    simp [tn, f_lists1]
    rfl)
  rw [tab_map] at hc
  unfold lawDb at hc ⊢
  simp [hc]
  rfl
/-! ### all the counts -/
def ti (its : List Nat) : D := .tup (nD its)
def stepR (w : Nat) (l : List (List Nat)) : List (List Nat) := l.flatMap fun its => (List.range (w + 1)).map fun k => its ++ [k]
def cnts (r : Nat → List Nat) (l : List Nat) (f : List (List Nat)) : List (List Nat) := l.foldl (fun f m => stepR (r m).length f) f
def bE : Ss := (.cons (.ex (.meth .extend (.var 4) (.cons (.comp false [6] (.v 6) (.range (.cons (.op (.bin .Add) (.cons (.op .len (.cons (.var 3) .nil)) (.cons (.cst (.int 1)) .nil))) .nil)) .nil (.op (.bin .Add) (.cons (.var 5) (.cons (.op .tup (.cons (.var 6) .nil)) .nil)))) .nil)))
  .nil)
theorem turnE {C : CallF} {x0 x1 x2 : Option D} {x5 : Option D} {st st0 : Sto} {row its : List Nat} (hr : row.length ≤ 3) (hi : its.length < 100) {G : List D} (hG : G.length < 100000) :
    ft C false (.v 5) bE [] st0 (ti its) [x0, x1, x2, some (ktR row), some (.loc st.length), x5, none] (st ++ [.lst G]) = some (.inr ([x0, x1, x2, some (ktR row), some (.loc st.length), some (ti its), none], st ++ [.lst (G ++ ((List.range (row.length + 1)).map fun k => its ++ [k]).map ti)])) := by
  have r1 := range_nat (sz_of (k := row.length + 1) (by omega))
  have ec : ev C (.comp false [6] (.v 6) (.range (.cons (.op (.bin .Add) (.cons (.op .len (.cons (.var 3) .nil)) (.cons (.cst (.int 1)) .nil))) .nil)) .nil (.op (.bin .Add) (.cons (.var 5) (.cons (.op .tup (.cons (.var 6) .nil)) .nil)))) [x0, x1, x2, some (ktR row), some (.loc st.length), some (ti its), none] (st ++ [.lst G]) = some (.lst (((List.range (row.length + 1)).map fun k => its ++ [k]).map ti), st ++ [.lst G]) := by
    rw [w_compM (xs := tab (row.length + 1) fun (m : Nat) => .int (m : Int)) (ns := []) (st1 := st ++ [.lst G]) (g := fun x => .tup (nD its ++ [x])) (by
        have e : evs C (.cons (.op (.bin .Add) (.cons (.op .len (.cons (.var 3) .nil)) (.cons (.cst (.int 1)) .nil))) .nil) [x0, x1, x2, some (ktR row), some (.loc st.length), some (ti its), none] (st ++ [.lst G]) = some ([.int ((row.length + 1 : Nat) : Int)], st ++ [.lst G]) := by
          simp [ktR, nD_len]
        rw [w_range, e]
        simp only [r1, rng_nD]
        rfl) (by
      intro x hm
      obtain ⟨i, _, rfl⟩ := tab_mem hm
      have sz : its.length + 1 ≤ sizeLine := sz_of (by omega)
      simp [tn, ti, nD_len, sz]), tab_map]
    unfold tab
    rw [List.map_map]
    refine congrArg some (congrArg (·, _) (congrArg D.lst (List.map_congr_left fun k _ => ?_)))
    simp [ti, nD]
  have sz : G.length + (((List.range (row.length + 1)).map fun k => its ++ [k]).map ti).length ≤ sizeLine := by
    rw [List.length_map, List.length_map, List.length_range]
    exact Nat.le_trans (m := 200000) (by omega) (by decide)
  generalize (((List.range (row.length + 1)).map fun k => its ++ [k]).map ti) = X at ec sz ⊢
  unfold ft bE
  simp [ec, sz, turn_no, grdF_nil]
def nolO2 (o : Option D) : Prop := o = none ∨ ∃ d, o = some d ∧ nol d = true
theorem nol_ti {its : List Nat} : nol (ti its) = true := nol_nD
theorem loopE {C : CallF} {x0 x1 x2 : Option D} {st st0 : Sto} {row : List Nat} (hr : row.length ≤ 3) : ∀ (l : List (List Nat)) (G : List D) (x5 : Option D), (∀ its ∈ l, its.length < 100) → G.length + 4 * l.length < 100000 → nolO2 x5 →
    ∃ y5, nolO2 y5 ∧ fLoop (ft C false (.v 5) bE [] st0) (l.map ti) [x0, x1, x2, some (ktR row), some (.loc st.length), x5, none] (st ++ [.lst G]) = some (.nx [x0, x1, x2, some (ktR row), some (.loc st.length), y5, none] (st ++ [.lst (G ++ (stepR row.length l).map ti)]))
  | [], G, x5, _, _, h => ⟨x5, h, by
    show some (Fl.nx _ _) = _
    unfold stepR
    rw [List.flatMap_nil, List.map_nil, List.append_nil]⟩
  | its :: l, G, x5, hl, hG, h => by
    rw [List.length_cons] at hG
    obtain ⟨y5, h5, e⟩ := loopE (C := C) (x0 := x0) (x1 := x1) (x2 := x2) (st := st) (st0 := st0) hr l (G ++ ((List.range (row.length + 1)).map fun k => its ++ [k]).map ti) (some (ti its)) (fun k hk => hl k (List.mem_cons_of_mem _ hk)) (by
      rw [List.length_append, List.length_map, List.length_map, List.length_range]
      omega) (.inr ⟨_, rfl, nol_ti⟩)
    refine ⟨y5, h5, ?_⟩
    rw [List.map_cons, fLoop_go (turnE hr (hl its (List.mem_cons_self ..)) (by omega)), e]
    unfold stepR
    rw [List.flatMap_cons, List.map_append, List.append_assoc]
theorem step_len {w : Nat} (hw : w ≤ 3) : ∀ {l : List (List Nat)}, (stepR w l).length ≤ 4 * l.length
  | [] => Nat.le_refl _
  | its :: l => by
    have := step_len hw (l := l)
    unfold stepR at this ⊢
    rw [List.flatMap_cons, List.length_append, List.length_map, List.length_range, List.length_cons]
    omega
theorem step_mem {w : Nat} {l : List (List Nat)} {x : List Nat} : x ∈ stepR w l ↔ ∃ its ∈ l, ∃ k, k ≤ w ∧ x = its ++ [k] := by
  unfold stepR
  rw [List.mem_flatMap]
  constructor
  · rintro ⟨its, h, hx⟩
    obtain ⟨k, hk, rfl⟩ := List.mem_map.mp hx
    exact ⟨its, h, k, by have := List.mem_range.mp hk; omega, rfl⟩
  · rintro ⟨its, h, k, hk, rfl⟩
    exact ⟨its, h, List.mem_map.mpr ⟨k, List.mem_range.mpr (by omega), rfl⟩⟩
/-! the outer loop -/
def bU : Ss := (.cons (.asg (.v 4) (.op (.lst true) .nil))
  (.cons (.for false (.v 5) (.seq (.var 2)) bE)
  (.cons (.asg (.v 2) (.var 4))
  .nil)))
theorem turnU {C : CallF} {x0 x1 : D} (h0 : nol x0 = true) (h1 : nol x1 = true) {x3 x4 x5 : Option D} {st st0 : Sto} {row : List Nat} {f : List (List Nat)} (hr : row.length ≤ 3) (hl : ∀ its ∈ f, its.length < 100) (hf : f.length < 10000) (n5 : nolO2 x5) :
    ∃ y5, nolO2 y5 ∧ ft C true (.v 3) bU [] st0 (ktR row) [some x0, some x1, some (.lst (f.map ti)), x3, x4, x5, none] st = some (.inr ([some x0, some x1, some (.lst ((stepR row.length f).map ti)), some (ktR row), some (.lst ((stepR row.length f).map ti)), y5, none], st)) := by
  obtain ⟨y5, h5, e⟩ := loopE (C := C) (x0 := some x0) (x1 := some x1) (x2 := some (.lst (f.map ti))) (st := st) (st0 := st ++ [.lst []]) hr f [] x5 hl (by rw [List.length_nil]; omega) n5
  rw [List.nil_append] at e
  have nz : nolL ((stepR row.length f).map ti) = true := nolL_of fun x hx => by
    obtain ⟨a, _, rfl⟩ := List.mem_map.mp hx
    exact nol_ti
  refine ⟨y5, h5, ?_⟩
  generalize (stepR row.length f).map ti = X at e nz ⊢
  have s1 : exS C (.asg (.v 4) (.op (.lst true) .nil)) [some x0, some x1, some (.lst (f.map ti)), some (ktR row), x4, x5, none] st = some (.nx [some x0, some x1, some (.lst (f.map ti)), some (ktR row), some (.loc st.length), x5, none] (st ++ [.lst []])) := by simp
  have s2 : exS C (.for false (.v 5) (.seq (.var 2)) bE) [some x0, some x1, some (.lst (f.map ti)), some (ktR row), some (.loc st.length), x5, none] (st ++ [.lst []]) = some (.nx [some x0, some x1, some (.lst (f.map ti)), some (ktR row), some (.loc st.length), y5, none] (st ++ [.lst X])) := by
    rw [x_for]
    have ei : evi C (.seq (.var 2)) [some x0, some x1, some (.lst (f.map ti)), some (ktR row), some (.loc st.length), x5, none] (st ++ [.lst []]) = some (f.map ti, [], st ++ [.lst []]) := by simp
    rw [ei]
    exact e
  have s3 : exS C (.asg (.v 2) (.var 4)) [some x0, some x1, some (.lst (f.map ti)), some (ktR row), some (.loc st.length), y5, none] (st ++ [.lst X]) = some (.nx [some x0, some x1, some (.loc st.length), some (ktR row), some (.loc st.length), y5, none] (st ++ [.lst X])) := by simp
  have eb : exSs C bU [some x0, some x1, some (.lst (f.map ti)), some (ktR row), x4, x5, none] st = _ := (ss_nx s1).trans ((ss_nx s2).trans ((ss_nx s3).trans z_nil))
  unfold ft
  rw [show bindT (.v 3) (ktR row) [some x0, some x1, some (.lst (f.map ti)), x3, x4, x5, none] = some [some x0, some x1, some (.lst (f.map ti)), some (ktR row), x4, x5, none] by simp]
  simp only [eb]
  have fl : fzD (st ++ [.lst X]) st.length (.loc st.length) = some (.lst X) := fz_loc0 rfl nz
  have fk : fzD (st ++ [.lst X]) st.length (ktR row) = some (ktR row) := fz_nol nol_nD
  have f5 : fzE (st ++ [.lst X]) st.length [y5, none] = some [y5, none] := by
    rcases h5 with rfl | ⟨d, rfl, hd⟩
    · rfl
    · simp [fzE, fz_nol hd]
  rw [turn_fz (ρ' := [some x0, some x1, some (.lst X), some (ktR row), some (.lst X), y5, none]) (by
    simp only [fzE, fl, fk, fz_nol h0, fz_nol h1] at f5 ⊢
    rw [f5]) gc_app, grdF_nil, ap_take]
end T68
end
section
set_option Elab.async false
set_option linter.all false
set_option autoImplicit false
set_option maxHeartbeats 4000000
set_option maxRecDepth 100000
namespace T68
open PySem Ro
open M68 (Sys Vec)

theorem loopU {C : CallF} {x0 x1 : D} (h0 : nol x0 = true) (h1 : nol x1 = true) {r : Nat → List Nat} {st st0 : Sto} : ∀ (l : List Nat) (p : Nat) (f : List (List Nat)) (x3 x4 x5 : Option D), (∀ m ∈ l, (r m).length ≤ 3) → (∀ its ∈ f, its.length = p) → p + l.length < 7 → f.length ≤ 4 ^ p → nolO2 x5 →
    ∃ y3 y4 y5, fLoop (ft C true (.v 3) bU [] st0) (l.map fun m => ktR (r m)) [some x0, some x1, some (.lst (f.map ti)), x3, x4, x5, none] st = some (.nx [some x0, some x1, some (.lst ((cnts r l f).map ti)), y3, y4, y5, none] st)
  | [], p, f, x3, x4, x5, _, _, _, _, _ => ⟨x3, x4, x5, rfl⟩
  | m :: l, p, f, x3, x4, x5, hr, hl, hp, hf, n5 => by
    rw [List.length_cons] at hp
    have hw := hr m (List.mem_cons_self ..)
    have h4 : 4 ^ p ≤ 4 ^ 6 := Nat.pow_le_pow_right (by decide) (by omega)
    have h46 : 4 ^ 6 = 4096 := by decide
    obtain ⟨y5, n5', e⟩ := turnU (C := C) h0 h1 (x3 := x3) (x4 := x4) (st := st) (st0 := st0) (f := f) hw (fun its h => by rw [hl its h]; omega) (by omega) n5
    obtain ⟨z3, z4, z5, e2⟩ := loopU (C := C) h0 h1 (st := st) (st0 := st0) l (p + 1) (stepR (r m).length f) (some (ktR (r m))) (some (.lst ((stepR (r m).length f).map ti))) y5 (fun k hk => hr k (List.mem_cons_of_mem _ hk)) (fun its h => by
      obtain ⟨a, ha, k, _, rfl⟩ := step_mem.mp h
      rw [List.length_append, hl a ha, List.length_singleton]) (by omega) (by
      have := step_len hw (l := f)
      rw [Nat.pow_succ]
      omega) n5'
    refine ⟨z3, z4, z5, ?_⟩
    rw [List.map_cons, fLoop_go e, e2]
    rfl
theorem f_counts {N : Nat} (hN : N < 7) {r : Nat → List Nat} (hr : ∀ m, m < N → (r m).length ≤ 3) {n : Nat} {st : Sto} : callN Tb (n + 1) 35 [.int (N : Int), lawDb N r] st = some (.lst ((cnts r (List.range N) [[]]).map ti), st) := by
  rw [callN_at (d := d_law_counts) rfl]
  have nd : nol (lawDb N r) = true := by
    unfold lawDb
    rw [nol]
    exact nol_tab fun i _ => nol_nD
  obtain ⟨y3, y4, y5, e⟩ := loopU (C := callN Tb n) (x0 := .int (N : Int)) (x1 := lawDb N r) rfl nd (r := r) (st := st) (st0 := st) (List.range N) 0 [[]] none none none (fun m hm => hr m (List.mem_range.mp hm)) (fun its h => by
    rw [List.mem_singleton.mp h]
    rfl) (by rw [List.length_range]; omega) (by decide) (.inl rfl)
  have s1 : exS (callN Tb n) (.asg (.v 2) (.op (.lst false) (.cons (.op .tup .nil) .nil))) [some (.int (N : Int)), some (lawDb N r), none, none, none, none, none] st = some (.nx [some (.int (N : Int)), some (lawDb N r), some (.lst ([[]].map ti)), none, none, none, none] st) := by
    simp [ti, nD]
  have s2 : exS (callN Tb n) (.for true (.v 3) (.seq (.var 1)) bU) [some (.int (N : Int)), some (lawDb N r), some (.lst ([[]].map ti)), none, none, none, none] st = some (.nx [some (.int (N : Int)), some (lawDb N r), some (.lst ((cnts r (List.range N) [[]]).map ti)), y3, y4, y5, none] st) := by
    rw [x_for]
    have ei : evi (callN Tb n) (.seq (.var 1)) [some (.int (N : Int)), some (lawDb N r), some (.lst ([[]].map ti)), none, none, none, none] st = some ((List.range N).map fun m => ktR (r m), [], st) := by
      simp [lawDb]
      rfl
    rw [ei]
    exact e
  have nz : nolL ((cnts r (List.range N) [[]]).map ti) = true := nolL_of fun x hx => by
    obtain ⟨a, _, rfl⟩ := List.mem_map.mp hx
    exact nol_ti
  refine run_ret rfl ((ss_nx s1).trans ((ss_nx s2).trans (ss_ret (st' := st) (d := .lst ((cnts r (List.range N) [[]]).map ti)) ?_))) ?_
  · simp
  · have := fin_nol (st := st) (xs := []) (r := .lst ((cnts r (List.range N) [[]]).map ti)) (by rw [nol]; exact nz)
    rw [List.append_nil] at this
    exact this
/-- which these are -/
theorem cnts_mem {r : Nat → List Nat} : ∀ {l : List Nat} {f : List (List Nat)} {x : List Nat}, x ∈ cnts r l f ↔ ∃ its ∈ f, ∃ ks : List Nat, ks.length = l.length ∧ (∀ (i m k : Nat), l[i]? = some m → ks[i]? = some k → k ≤ (r m).length) ∧ x = its ++ ks
  | [], f, x => by
    show x ∈ f ↔ _
    constructor
    · intro h
      exact ⟨x, h, [], rfl, fun i m k h => by simp at h, by rw [List.append_nil]⟩
    · rintro ⟨its, h, ks, hk, _, rfl⟩
      rw [List.length_nil, List.length_eq_zero_iff] at hk
      rw [hk, List.append_nil]
      exact h
  | m :: l, f, x => by
    show x ∈ cnts r l (stepR (r m).length f) ↔ _
    rw [cnts_mem]
    constructor
    · rintro ⟨its, h, ks, hl, hk, rfl⟩
      obtain ⟨a, ha, k, hk2, rfl⟩ := step_mem.mp h
      refine ⟨a, ha, k :: ks, by rw [List.length_cons, List.length_cons, hl], ?_, by rw [List.append_assoc]; rfl⟩
      intro i m' k' h1 h2
      cases i with
      | zero =>
        simp at h1 h2
        subst h1 h2
        exact hk2
      | succ i =>
        simp at h1 h2
        exact hk i m' k' h1 h2
    · rintro ⟨its, h, ks, hl, hk, rfl⟩
      cases ks with
      | nil => cases hl
      | cons k ks =>
        refine ⟨its ++ [k], step_mem.mpr ⟨its, h, k, hk 0 m k rfl rfl, rfl⟩, ks, by simpa using hl, fun i m' k' h1 h2 => hk (i + 1) m' k' (by simpa using h1) (by simpa using h2), by rw [List.append_assoc]; rfl⟩
/-- the counts of a vector -/
def vec (N : Nat) (v : Vec) : List Nat := (List.range N).map v
theorem ti_vec {N : Nat} {v : Vec} : ti (vec N v) = coT N v := by
  unfold ti vec coT nD tab
  rw [List.map_map]
  rfl
theorem mem_cnts {r : Nat → List Nat} {N : Nat} {x : List Nat} : x ∈ cnts r (List.range N) [[]] ↔ ∃ v : Vec, x = vec N v ∧ ∀ m, m < N → v m ≤ (r m).length := by
  rw [cnts_mem]
  constructor
  · rintro ⟨its, h, ks, hl, hk, rfl⟩
    rw [List.mem_singleton.mp h, List.nil_append]
    rw [List.length_range] at hl
    refine ⟨fun m => ks[m]?.getD 0, ?_, fun m hm => ?_⟩
    · refine List.ext_getElem? fun i => ?_
      unfold vec
      by_cases p : i < N
      · rw [List.getElem?_map, List.getElem?_range p, List.getElem?_eq_getElem (by omega)]
        simp [p, hl]
      · rw [List.getElem?_eq_none (by omega), List.getElem?_eq_none (by rw [List.length_map, List.length_range]; omega)]
    · have : ks[m]? = some ks[m] := List.getElem?_eq_getElem (by omega)
      simp only [this, Option.getD_some]
      exact hk m m _ (List.getElem?_range hm) this
  · rintro ⟨v, rfl, hv⟩
    refine ⟨[], List.mem_singleton.mpr rfl, vec N v, by simp [vec], fun i m k h1 h2 => ?_, rfl⟩
    have hi : i < N := by
      have := (List.getElem?_eq_some_iff.mp h1).1
      rwa [List.length_range] at this
    rw [List.getElem?_range hi] at h1
    unfold vec at h2
    rw [List.getElem?_map, List.getElem?_range hi] at h2
    simp at h1 h2
    subst h1 h2
    exact hv _ hi
end T68
end
section
set_option Elab.async false
set_option linter.all false
set_option autoImplicit false
set_option maxHeartbeats 4000000
set_option maxRecDepth 100000
namespace T68
open PySem Ro
open M68 (Sys Vec)

theorem if_iff {α : Type} {p q : Prop} [Decidable p] [Decidable q] {a b : α} (h : p ↔ q) : (if p then a else b) = if q then a else b := by
  by_cases hp : p
  · rw [if_pos hp, if_pos (h.mp hp)]
  · rw [if_neg hp, if_neg fun k => hp (h.mpr k)]
theorem enum_law {N : Nat} {f : Nat → D} : enumL 0 (tab N f) = (List.range N).map fun (j : Nat) => D.tup [.int (j : Int), f j] := by
  rw [enum_tab0]
  rfl
theorem count_int {k : Nat} : ∀ {xs : List Nat}, (xs.map fun (n : Nat) => (n : Int)).count (k : Int) = xs.count k
  | [] => rfl
  | x :: xs => by
    rw [List.map_cons, List.count_cons, List.count_cons, count_int]
    congr 1
    by_cases h : x = k
    · subst h
      simp
    · have h1 : ((x : Int) == (k : Int)) = false := by rw [beq_nat]; simp [h]
      have h2 : (x == k) = false := by simpa using h
      rw [h1, h2]
def bG : Ss := (.cons (.asg (.v 5) (.op (.bin .Add) (.cons (.var 5) (.cons (.meth .count (.slice (.var 7) .nil (.cons (.op .sub (.cons (.var 2) (.cons (.var 6) .nil))) .nil)) (.cons (.var 3) .nil)) .nil))))
  .nil)
section
variable {N : Nat} {r : Nat → List Nat} {c : Nat → Nat} {v : Vec} {C : CallF} {st st0 : Sto}
theorem innerG {k : Nat} {x0 x1 x4 : Option D} : ∀ (l : List Nat) (a : Nat) (x6 x7 : Option D), (∀ j ∈ l, j < N) →
    ∃ y6 y7, fLoop (ft C false (.t [(.v 6), (.v 7)]) bG [] st0) (l.map fun (j : Nat) => D.tup [.int (j : Int), ktR (r j)]) [x0, x1, some (coT N v), some (.int (k : Int)), x4, some (.int (a : Int)), x6, x7] st = some (.nx [x0, x1, some (coT N v), some (.int (k : Int)), x4, some (.int ((a + cnt r v l k : Nat) : Int)), y6, y7] st)
  | [], a, x6, x7, _ => ⟨x6, x7, rfl⟩
  | j :: l, a, x6, x7, h => by
    have hj := h j (List.mem_cons_self ..)
    obtain ⟨y6, y7, e⟩ := innerG (k := k) (x0 := x0) (x1 := x1) (x4 := x4) l (a + ((r j).take (v j)).count k) (some (.int (j : Int))) (some (ktR (r j))) fun k hk => h k (List.mem_cons_of_mem _ hk)
    refine ⟨y6, y7, ?_⟩
    rw [List.map_cons, fLoop_go (ρ' := [x0, x1, some (coT N v), some (.int (k : Int)), x4, some (.int ((a + ((r j).take (v j)).count k : Nat) : Int)), some (.int (j : Int)), some (ktR (r j))]) (st' := st)]
    · rw [e]
      have : a + ((r j).take (v j)).count k + cnt r v l k = a + cnt r v (j :: l) k := by
        unfold cnt
        rw [List.map_cons, List.sum_cons, Nat.add_assoc]
      rw [this]
    · unfold ft bG
      simp [tab_at hj, ktR, cut_to, nD_take, ints_nD, count_int, turn_no, grdF_nil]
      rw [← List.map_take, count_int]
def bH : Ss := (.cons (.asg (.v 5) (.op .sub (.cons (.var 1) (.cons (.var 3) .nil))))
  (.cons (.for false (.t [(.v 6), (.v 7)]) (.enum (.var 0)) bG)
  (.cons (.ifs (.op (.cmp .NotEq) (.cons (.op .sub (.cons (.var 2) (.cons (.var 3) .nil))) (.cons (.op .min2 (.cons (.op .len (.cons (.var 4) .nil)) (.cons (.var 5) .nil))) .nil))) (.cons (.ret (.cst (.bl false)))
  .nil) .nil)
  .nil)))
def good1 (N : Nat) (r : Nat → List Nat) (c : Nat → Nat) (v : Vec) (k : Nat) : Prop := v k = min (r k).length (c k + cnt r v (List.range N) k)
instance {N : Nat} {r : Nat → List Nat} {c : Nat → Nat} {v : Vec} {k : Nat} : Decidable (good1 N r c v k) := by unfold good1; infer_instance
theorem turnH {k : Nat} (hk : k < N) {x3 x4 x5 x6 x7 : Option D} : ∃ y5 y6 y7, ft C false (.t [(.v 3), (.v 4)]) bH [] st0 (.tup [.int (k : Int), ktR (r k)]) [some (lawDb N r), some (coT N c), some (coT N v), x3, x4, x5, x6, x7] st = (if good1 N r c v k then some (.inr ([some (lawDb N r), some (coT N c), some (coT N v), some (.int (k : Int)), some (ktR (r k)), y5, y6, y7], st)) else some (.inl (.ret (.bl false) st))) := by
  obtain ⟨y6, y7, e⟩ := innerG (N := N) (r := r) (v := v) (C := C) (st := st) (st0 := st) (k := k) (x0 := some (lawDb N r)) (x1 := some (coT N c)) (x4 := some (ktR (r k))) (List.range N) (c k) x6 x7 fun j hj => List.mem_range.mp hj
  refine ⟨some (.int ((c k + cnt r v (List.range N) k : Nat) : Int)), y6, y7, ?_⟩
  have s1 : exS C (.asg (.v 5) (.op .sub (.cons (.var 1) (.cons (.var 3) .nil)))) [some (lawDb N r), some (coT N c), some (coT N v), some (.int (k : Int)), some (ktR (r k)), x5, x6, x7] st = some (.nx [some (lawDb N r), some (coT N c), some (coT N v), some (.int (k : Int)), some (ktR (r k)), some (.int (c k : Int)), x6, x7] st) := by
    simp [tab_at hk]
  have s2 : exS C (.for false (.t [(.v 6), (.v 7)]) (.enum (.var 0)) bG) [some (lawDb N r), some (coT N c), some (coT N v), some (.int (k : Int)), some (ktR (r k)), some (.int (c k : Int)), x6, x7] st = some (.nx [some (lawDb N r), some (coT N c), some (coT N v), some (.int (k : Int)), some (ktR (r k)), some (.int ((c k + cnt r v (List.range N) k : Nat) : Int)), y6, y7] st) := by
    rw [x_for]
    have ei : evi C (.enum (.var 0)) [some (lawDb N r), some (coT N c), some (coT N v), some (.int (k : Int)), some (ktR (r k)), some (.int (c k : Int)), x6, x7] st = some ((List.range N).map fun (j : Nat) => D.tup [.int (j : Int), ktR (r j)], [], st) := by
      rw [← enum_law]
      simp [lawDb]
    rw [ei]
    exact e
  unfold ft
  rw [show bindT (.t [(.v 3), (.v 4)]) (.tup [.int (k : Int), ktR (r k)]) [some (lawDb N r), some (coT N c), some (coT N v), x3, x4, x5, x6, x7] = some [some (lawDb N r), some (coT N c), some (coT N v), some (.int (k : Int)), some (ktR (r k)), x5, x6, x7] by simp]
  have s3 : exS C (.ifs (.op (.cmp .NotEq) (.cons (.op .sub (.cons (.var 2) (.cons (.var 3) .nil))) (.cons (.op .min2 (.cons (.op .len (.cons (.var 4) .nil)) (.cons (.var 5) .nil))) .nil))) (.cons (.ret (.cst (.bl false)))
  .nil) .nil) [some (lawDb N r), some (coT N c), some (coT N v), some (.int (k : Int)), some (ktR (r k)), some (.int ((c k + cnt r v (List.range N) k : Nat) : Int)), y6, y7] st = (if good1 N r c v k then some (.nx [some (lawDb N r), some (coT N c), some (coT N v), some (.int (k : Int)), some (ktR (r k)), some (.int ((c k + cnt r v (List.range N) k : Nat) : Int)), y6, y7] st) else some (.ret (.bl false) st)) := by
    have hl : seqOf st (ktR (r k)) = some (nD (r k)) := rfl
    have ec : ev C (.op (.cmp .NotEq) (.cons (.op .sub (.cons (.var 2) (.cons (.var 3) .nil))) (.cons (.op .min2 (.cons (.op .len (.cons (.var 4) .nil)) (.cons (.var 5) .nil))) .nil))) [some (lawDb N r), some (coT N c), some (coT N v), some (.int (k : Int)), some (ktR (r k)), some (.int ((c k + cnt r v (List.range N) k : Nat) : Int)), y6, y7] st = some (.bl (!decide (good1 N r c v k)), st) := by
      simp only [w_op, w_cons, w_nil, w_var, List.getElem?_cons_succ, List.getElem?_cons_zero, p_sub, sq_co, tab_at hk, p_len, hl, nD_len, p_min2, min_nat2, p_cmp, c_ne, de_int, Option.map_some]
      rw [e_int, beq_nat]
      rfl
    rw [x_if, ec]
    by_cases g : good1 N r c v k
    · simp [g]
    · simp [g]
  by_cases g : good1 N r c v k
  · rw [if_pos g] at s3 ⊢
    have eb : exSs C bH [some (lawDb N r), some (coT N c), some (coT N v), some (.int (k : Int)), some (ktR (r k)), x5, x6, x7] st = _ := (ss_nx s1).trans ((ss_nx s2).trans ((ss_nx s3).trans z_nil))
    simp only [eb, turn_no, grdF_nil]
  · rw [if_neg g] at s3 ⊢
    have eb : exSs C bH [some (lawDb N r), some (coT N c), some (coT N v), some (.int (k : Int)), some (ktR (r k)), x5, x6, x7] st = _ := (ss_nx s1).trans ((ss_nx s2).trans (ss_ret s3))
    simp only [eb, grdF_nil]
    rfl
theorem loopH : ∀ (l : List Nat) (x3 x4 x5 x6 x7 : Option D), (∀ k ∈ l, k < N) → ∃ ρ' : Ro.Env, fLoop (ft C false (.t [(.v 3), (.v 4)]) bH [] st0) (l.map fun (k : Nat) => D.tup [.int (k : Int), ktR (r k)]) [some (lawDb N r), some (coT N c), some (coT N v), x3, x4, x5, x6, x7] st = if (∀ k ∈ l, good1 N r c v k) then some (.nx ρ' st) else some (.ret (.bl false) st)
  | [], x3, x4, x5, x6, x7, _ => ⟨[some (lawDb N r), some (coT N c), some (coT N v), x3, x4, x5, x6, x7], by
    rw [if_pos fun k hk => by cases hk]
    rfl⟩
  | k :: l, x3, x4, x5, x6, x7, h => by
    obtain ⟨y5, y6, y7, e⟩ := turnH (N := N) (r := r) (c := c) (v := v) (C := C) (st := st) (st0 := st0) (h k (List.mem_cons_self ..)) (x3 := x3) (x4 := x4) (x5 := x5) (x6 := x6) (x7 := x7)
    obtain ⟨ρ', e2⟩ := loopH l (some (.int (k : Int))) (some (ktR (r k))) y5 y6 y7 fun j hj => h j (List.mem_cons_of_mem _ hj)
    refine ⟨ρ', ?_⟩
    by_cases g : good1 N r c v k
    · rw [if_pos g] at e
      rw [List.map_cons, fLoop_go e, e2]
      refine if_iff ?_
      constructor
      · intro q j hj
        rcases List.mem_cons.mp hj with rfl | hj
        · exact g
        · exact q j hj
      · exact fun q j hj => q j (List.mem_cons_of_mem _ hj)
    · rw [if_neg g] at e
      rw [List.map_cons, fLoop_end e, if_neg fun q => g (q k (List.mem_cons_self ..))]
end
theorem f_law_is {S : Sys} {v : Vec} {n : Nat} {st : Sto} : callN Tb (n + 1) 36 [lawDb S.N S.r, coT S.N S.c, coT S.N v] st = some (.bl (decide (M68.Clear S v)), st) := by
  rw [callN_at (d := d_law_is_clearing) rfl]
  obtain ⟨ρ', e⟩ := loopH (N := S.N) (r := S.r) (c := S.c) (v := v) (C := callN Tb n) (st := st) (st0 := st) (List.range S.N) none none none none none fun k hk => List.mem_range.mp hk
  have s1 : exS (callN Tb n) (.for false (.t [(.v 3), (.v 4)]) (.enum (.var 0)) bH) [some (lawDb S.N S.r), some (coT S.N S.c), some (coT S.N v), none, none, none, none, none] st = if M68.Clear S v then some (.nx ρ' st) else some (.ret (.bl false) st) := by
    rw [x_for]
    have ei : evi (callN Tb n) (.enum (.var 0)) [some (lawDb S.N S.r), some (coT S.N S.c), some (coT S.N v), none, none, none, none, none] st = some ((List.range S.N).map fun (j : Nat) => D.tup [.int (j : Int), ktR (S.r j)], [], st) := by
      rw [← enum_law]
      simp [lawDb]
    rw [ei]
    simp only [e]
    refine if_iff ?_
    exact ⟨fun q m hm => q m (List.mem_range.mpr hm), fun q k hk => q k (List.mem_range.mp hk)⟩
  by_cases g : M68.Clear S v
  · rw [if_pos g] at s1
    rw [decide_eq_true g]
    refine run_ret rfl ((ss_nx s1).trans (ss_ret (st' := st) (d := .bl true) ?_)) fin_no
    simp
  · rw [if_neg g] at s1
    rw [decide_eq_false g]
    exact run_ret rfl (ss_ret s1) fin_no
end T68
end
section
set_option Elab.async false
set_option linter.all false
set_option autoImplicit false
set_option maxHeartbeats 4000000
set_option maxRecDepth 100000
namespace T68
open PySem Ro
open M68 (Sys Vec)

/-! ## the road of a coin: from u, a coin at h; l hand it on, e keeps it -/
inductive Road (S : Sys) : Vec → Nat → List Nat → Nat → Vec → Prop where
  | stop {u : Vec} {h : Nat} (p : M68.R S u h = []) : Road S u h [] h u
  | go {u w : Vec} {h e : Nat} {l : List Nat} (p : M68.R S u h ≠ []) (r : Road S (M68.inc u h) (M68.hd S u h) l e w) : Road S u h (h :: l) e w
def eW (x0 x1 x2 x3 x4 x6 : Option D) (S : Sys) (u : Vec) (b : Nat) (x8 : Option D) : Ro.Env := [x0, x1, x2, x3, x4, some (dbS S u), x6, some (.loc b), x8]
def cR2 : Ex := (.op (.cmp .NotEq) (.cons (.op .sub (.cons (.var 5) (.cons (.op .sub (.cons (.var 7) (.cons (.op .neg (.cons (.cst (.int 1)) .nil)) .nil))) .nil))) (.cons (.op .tup .nil) .nil)))
def bR2 : Ss := (.cons (.asg (.v 8) (.op .sub (.cons (.var 7) (.cons (.op .neg (.cons (.cst (.int 1)) .nil)) .nil))))
  (.cons (.ex (.meth .append (.var 7) (.cons (.op .sub (.cons (.op .sub (.cons (.var 5) (.cons (.var 8) .nil))) (.cons (.cst (.int 0)) .nil))) .nil)))
  (.cons (.asg (.v 5) (.op (.bin .Add) (.cons (.op (.bin .Add) (.cons (.slice (.var 5) .nil (.cons (.var 8) .nil)) (.cons (.op .tup (.cons (.slice (.op .sub (.cons (.var 5) (.cons (.var 8) .nil))) (.cons (.cst (.int 1)) .nil) .nil) .nil)) .nil))) (.cons (.slice (.var 5) (.cons (.op (.bin .Add) (.cons (.var 8) (.cons (.cst (.int 1)) .nil))) .nil) .nil) .nil))))
  .nil)))
theorem w_addT {C : CallF} {a b : Ex} {ρ : Ro.Env} {st : Sto} {A B : List D} (h1 : ev C a ρ st = some (.tup A, st)) (h2 : ev C b ρ st = some (.tup B, st)) (sz : A.length + B.length ≤ sizeLine) : ev C (.op (.bin .Add) (.cons a (.cons b .nil))) ρ st = some (.tup (A ++ B), st) := by
  simp [h1, h2, sz]
section
variable {S : Sys} {x0 x1 x2 x3 x4 x6 : Option D} {st : Sto} {C : CallF}
theorem snoc_D {pre : List Nat} {h : Nat} : nD (pre ++ [h]) = nD pre ++ [.int (h : Int)] := by
  unfold nD
  rw [List.map_append]
  rfl
theorem condW {u : Vec} {h : Nat} (hh : h < S.N) {pre : List Nat} {x8 : Option D} : ev C cR2 (eW x0 x1 x2 x3 x4 x6 S u st.length x8) (st ++ [.lst (nD (pre ++ [h]))]) = some (.bl (!(M68.R S u h).isEmpty), st ++ [.lst (nD (pre ++ [h]))]) := by
  unfold cR2 eW
  rw [snoc_D]
  simp [ix_last, tab_at hh]
theorem put_tab {N h : Nat} {f : Nat → D} {x : D} (hh : h < N) : (tab N f).take h ++ [x] ++ (tab N f).drop (h + 1) = tab N (upd f h x) := by
  rw [← tab_set hh, List.set_eq_take_append_cons_drop, if_pos (by rw [tab_len]; exact hh), List.append_assoc]
  rfl
theorem turnW2 {u : Vec} {h : Nat} (hN : S.N < 500) (hh : h < S.N) (p : M68.R S u h ≠ []) {pre : List Nat} (hp : pre.length < 2000) {x8 : Option D} :
    wt C false cR2 bR2 (eW x0 x1 x2 x3 x4 x6 S u st.length x8) (st ++ [.lst (nD (pre ++ [h]))]) = some (.inr (eW x0 x1 x2 x3 x4 x6 S (M68.inc u h) st.length (some (.int (h : Int))), st ++ [.lst (nD ((pre ++ [h]) ++ [M68.hd S u h]))])) := by
  have hne : (M68.R S u h).isEmpty = false := by
    cases q : M68.R S u h with
    | nil => exact absurd q p
    | cons _ _ => rfl
  have r0 : ixD (nD (M68.R S u h)) 0 = some (.int (M68.hd S u h : Int)) := by
    rw [M68.R_cons p]
    exact ix_nat (i := 0)
  have lt : (nD (pre ++ [h])).length < sizeLine := by
    rw [nD_len, List.length_append, List.length_singleton]
    exact Nat.lt_of_lt_of_le (m := 2002) (by omega) (by decide)
  have s1 : exS C (.asg (.v 8) (.op .sub (.cons (.var 7) (.cons (.op .neg (.cons (.cst (.int 1)) .nil)) .nil)))) (eW x0 x1 x2 x3 x4 x6 S u st.length x8) (st ++ [.lst (nD (pre ++ [h]))]) = some (.nx (eW x0 x1 x2 x3 x4 x6 S u st.length (some (.int (h : Int)))) (st ++ [.lst (nD (pre ++ [h]))])) := by
    unfold eW
    rw [snoc_D]
    simp [ix_last]
  have s2 : exS C (.ex (.meth .append (.var 7) (.cons (.op .sub (.cons (.op .sub (.cons (.var 5) (.cons (.var 8) .nil))) (.cons (.cst (.int 0)) .nil))) .nil))) (eW x0 x1 x2 x3 x4 x6 S u st.length (some (.int (h : Int)))) (st ++ [.lst (nD (pre ++ [h]))]) = some (.nx (eW x0 x1 x2 x3 x4 x6 S u st.length (some (.int (h : Int)))) (st ++ [.lst (nD ((pre ++ [h]) ++ [M68.hd S u h]))])) := by
    unfold eW
    rw [snoc_D (pre := pre ++ [h])]
    generalize nD (pre ++ [h]) = X at lt ⊢
    simp [tab_at hh, r0, lt]
  have s3 : exS C (.asg (.v 5) (.op (.bin .Add) (.cons (.op (.bin .Add) (.cons (.slice (.var 5) .nil (.cons (.var 8) .nil)) (.cons (.op .tup (.cons (.slice (.op .sub (.cons (.var 5) (.cons (.var 8) .nil))) (.cons (.cst (.int 1)) .nil) .nil) .nil)) .nil))) (.cons (.slice (.var 5) (.cons (.op (.bin .Add) (.cons (.var 8) (.cons (.cst (.int 1)) .nil))) .nil) .nil) .nil)))) (eW x0 x1 x2 x3 x4 x6 S u st.length (some (.int (h : Int)))) (st ++ [.lst (nD ((pre ++ [h]) ++ [M68.hd S u h]))]) = some (.nx (eW x0 x1 x2 x3 x4 x6 S (M68.inc u h) st.length (some (.int (h : Int)))) (st ++ [.lst (nD ((pre ++ [h]) ++ [M68.hd S u h]))])) := by
    generalize st ++ [Ob.lst (nD ((pre ++ [h]) ++ [M68.hd S u h]))] = T
    have a1 : ev C (.slice (.var 5) .nil (.cons (.var 8) .nil)) (eW x0 x1 x2 x3 x4 x6 S u st.length (some (.int (h : Int)))) T = some (.tup ((tab S.N fun m => D.tup (nD (M68.R S u m))).take h), T) := by
      unfold eW
      simp [dbT, cut_to]
    have a2 : ev C (.op .tup (.cons (.slice (.op .sub (.cons (.var 5) (.cons (.var 8) .nil))) (.cons (.cst (.int 1)) .nil) .nil) .nil)) (eW x0 x1 x2 x3 x4 x6 S u st.length (some (.int (h : Int)))) T = some (.tup [.tup (nD ((M68.R S u h).drop 1))], T) := by
      unfold eW
      simp [tab_at hh, cut_from1, ← nD_drop]
    have a3 : ev C (.slice (.var 5) (.cons (.op (.bin .Add) (.cons (.var 8) (.cons (.cst (.int 1)) .nil))) .nil) .nil) (eW x0 x1 x2 x3 x4 x6 S u st.length (some (.int (h : Int)))) T = some (.tup ((tab S.N fun m => D.tup (nD (M68.R S u m))).drop (h + 1)), T) := by
      unfold eW
      have := cut_from (xs := tab S.N fun m => D.tup (nD (M68.R S u m))) (j := h + 1)
      rw [Int.natCast_add] at this
      simp at this
      simp [dbT, this]
    have l1 : ((tab S.N fun m => D.tup (nD (M68.R S u m))).take h).length ≤ 500 := by
      rw [List.length_take, tab_len]
      omega
    have l3 : ((tab S.N fun m => D.tup (nD (M68.R S u m))).drop (h + 1)).length ≤ 500 := by
      rw [List.length_drop, tab_len]
      omega
    have a4 := w_addT a1 a2 (sz_of (by rw [List.length_singleton]; omega))
    have a5 := w_addT a4 a3 (Nat.le_trans (m := 2000) (by rw [List.length_append, List.length_singleton]; omega) (by decide))
    rw [put_tab hh] at a5
    rw [x_asg, a5]
    have e6 : tab S.N (upd (fun m => D.tup (nD (M68.R S u m))) h (.tup (nD ((M68.R S u h).drop 1)))) = tab S.N fun m => .tup (nD (M68.R S (M68.inc u h) m)) := tab_ext fun m _ => by
      unfold upd
      rw [M68.pay_rows]
      by_cases q : m = h
      · subst q
        rw [if_pos rfl, if_pos rfl, List.drop_one]
      · rw [if_neg q, if_neg q]
    rw [e6]
    simp [eW, dbT]
  have eb : exSs C bR2 (eW x0 x1 x2 x3 x4 x6 S u st.length x8) (st ++ [.lst (nD (pre ++ [h]))]) = _ := (ss_nx s1).trans ((ss_nx s2).trans ((ss_nx s3).trans z_nil))
  unfold wt
  rw [condW hh, hne]
  simp only [tr_bl, Bool.not_false]
  rw [eb, turn_no]
theorem loopR2 (hN : S.N < 500) (ok : M68.ok S) : ∀ (q : Nat) (u : Vec) (h : Nat) (pre : List Nat) (x8 : Option D), mu S u = q → h < S.N → pre.length + q < 2000 →
    ∃ l e w, Road S u h l e w ∧ e < S.N ∧ ∀ (C : CallF) (st : Sto) (x8 : Option D), ∃ y8, wRun (wt C false cR2 bR2) (eW x0 x1 x2 x3 x4 x6 S u st.length x8) (st ++ [.lst (nD (pre ++ [h]))]) = some (.nx (eW x0 x1 x2 x3 x4 x6 S w st.length y8) (st ++ [.lst (nD (pre ++ l ++ [e]))])) := by
  intro q
  induction q using Nat.strongRecOn with
  | _ q ih =>
    intro u h pre x8 hq hh hl
    by_cases p : M68.R S u h = []
    · refine ⟨[], h, u, .stop p, hh, fun C st x8 => ⟨x8, ?_⟩⟩
      rw [List.append_nil]
      refine wRun_end ?_
      unfold wt
      rw [condW hh, p]
      rfl
    · have lt := mu_inc hh p
      have hd : M68.hd S u h < S.N := by
        refine (ok h hh (M68.hd S u h) ?_).1
        have : M68.hd S u h ∈ M68.R S u h := by
          rw [M68.R_cons p]
          exact List.mem_cons_self ..
        exact List.mem_of_mem_drop this
      obtain ⟨l, e, w, r, he, k⟩ := ih (mu S (M68.inc u h)) (by omega) (M68.inc u h) (M68.hd S u h) (pre ++ [h]) none rfl hd (by rw [List.length_append, List.length_singleton]; omega)
      refine ⟨h :: l, e, w, .go p r, he, fun C st x8 => ?_⟩
      obtain ⟨y8, e8⟩ := k C st (some (.int (h : Int)))
      refine ⟨y8, wRun_go (turnW2 hN hh p (by omega)) ?_⟩
      rw [e8]
      simp
end
end T68
end
section
set_option Elab.async false
set_option linter.all false
set_option autoImplicit false
set_option maxHeartbeats 4000000
set_option maxRecDepth 100000
namespace T68
open PySem Ro
open M68 (Sys Vec)

theorem f_road {S : Sys} (g : Good S) {u : Vec} {x y : D} (a : Asks S u x y) {v : Vec} {l0 : List Nat} (hp : ∀ (n : Nat) (st : Sto), callN Tb (n + 2) 13 [dbS S u, coS S u] st = some (.tup [dbS S v, coS S v, .lst (l0.map payD)], st)) {k : Nat} (hk : k < S.N) :
    ∃ l e w, Road S v k l e w ∧ e < S.N ∧ ∀ (n : Nat) (st : Sto), callN Tb (n + 7) 27 [x, y, .int (k : Int)] st = some (.kt true (nD (l ++ [e])), st) := by
  obtain ⟨l, e, w, r, he, kk⟩ := loopR2 (S := S) (x0 := some x) (x1 := some y) (x2 := some (.int (k : Int))) (x3 := some (dbS S u)) (x4 := some (coS S u)) (x6 := some (.lst (l0.map payD))) g.few g.ok (mu S v) v k [] none rfl hk (by
    have := mu_le g v
    rw [List.length_nil]
    omega)
  refine ⟨l, e, w, r, he, fun n st => ?_⟩
  obtain ⟨y8, e8⟩ := kk (callN Tb (n + 6)) st none
  rw [List.nil_append, List.nil_append] at e8
  rw [callN_at (d := d_coin_road) rfl]
  have h1 := f_sure_owing (n := n) (okU g u) a.a a.b (st := st)
  have h0 := f_is_number (n := n + 5) (i := (k : Int)) (st := st)
  have h2 := hp (n + 4) st
  have s1 : exS (callN Tb (n + 6)) (.asg (.t [(.v 3), (.v 4)]) (.call 6 (.cons (.var 0) (.cons (.var 1) .nil)))) [some x, some y, some (.int (k : Int)), none, none, none, none, none, none] st = some (.nx [some x, some y, some (.int (k : Int)), some (dbS S u), some (coS S u), none, none, none, none] st) := by
    simp [h1]
  have s2 : exS (callN Tb (n + 6)) (.ifs (.not (.call 0 (.cons (.var 2) .nil))) (.cons .never
  .nil) .nil) [some x, some y, some (.int (k : Int)), some (dbS S u), some (coS S u), none, none, none, none] st = some (.nx [some x, some y, some (.int (k : Int)), some (dbS S u), some (coS S u), none, none, none, none] st) := by
    simp [h0]
  have s3 : exS (callN Tb (n + 6)) (.ifs (.not (.chain .LtE .Lt (.cst (.int 0)) (.var 2) (.op .len (.cons (.var 3) .nil)))) (.cons .never
  .nil) .nil) [some x, some y, some (.int (k : Int)), some (dbS S u), some (coS S u), none, none, none, none] st = some (.nx [some x, some y, some (.int (k : Int)), some (dbS S u), some (coS S u), none, none, none, none] st) := by
    simp [hk]
  have s4 : exS (callN Tb (n + 6)) (.asg (.t [(.v 5), (.v 6), (.v 6)]) (.call 13 (.cons (.var 3) (.cons (.var 4) .nil)))) [some x, some y, some (.int (k : Int)), some (dbS S u), some (coS S u), none, none, none, none] st = some (.nx [some x, some y, some (.int (k : Int)), some (dbS S u), some (coS S u), some (dbS S v), some (.lst (l0.map payD)), none, none] st) := by
    generalize l0.map payD = X at h2 ⊢
    simp [h2]
  have s5 : exS (callN Tb (n + 6)) (.asg (.v 7) (.op (.lst true) (.cons (.var 2) .nil))) [some x, some y, some (.int (k : Int)), some (dbS S u), some (coS S u), some (dbS S v), some (.lst (l0.map payD)), none, none] st = some (.nx (eW (some x) (some y) (some (.int (k : Int))) (some (dbS S u)) (some (coS S u)) (some (.lst (l0.map payD))) S v st.length none) (st ++ [.lst (nD [k])])) := by
    generalize l0.map payD = X
    simp [eW, nD]
  have s6 : exS (callN Tb (n + 6)) (.whl false cR2 bR2) (eW (some x) (some y) (some (.int (k : Int))) (some (dbS S u)) (some (coS S u)) (some (.lst (l0.map payD))) S v st.length none) (st ++ [.lst (nD [k])]) = some (.nx (eW (some x) (some y) (some (.int (k : Int))) (some (dbS S u)) (some (coS S u)) (some (.lst (l0.map payD))) S w st.length y8) (st ++ [.lst (nD (l ++ [e]))])) := by
    rw [x_whl]
    exact e8
  refine run_ret rfl ((ss_nx s1).trans ((ss_nx s2).trans ((ss_nx s3).trans ((ss_nx s4).trans ((ss_nx s5).trans ((ss_nx s6).trans (ss_ret (st' := st ++ [.lst (nD (l ++ [e]))]) (d := .kt true (nD (l ++ [e]))) ?_))))))) (fin_nol nol_nD)
  generalize nD (l ++ [e]) = X
  simp [eW]
end T68
end
section
set_option Elab.async false
set_option linter.all false
set_option autoImplicit false
set_option maxHeartbeats 4000000
set_option maxRecDepth 100000
namespace T68
open PySem Ro
open M68 (Sys Vec)

/-! ## the law's mathematics -/
def z0 : Vec := fun _ => 0
theorem le0 {S : Sys} {c : Vec} : M68.Le S z0 c := fun _ _ => Nat.zero_le _
theorem fea0 {S : Sys} : M68.Fea S z0 := fun _ _ => Nat.zero_le _
theorem run_below {S : Sys} {u v c : Vec} {l : List Nat} (r : PayRun S u l v) (h : M68.Le S u c) (k : M68.Clear S c) : M68.Le S v c := by
  induction r with
  | nil u => exact h
  | cons h1 h2 r ih => exact ih (M68.pay_below h k h1 h2)
theorem run_fea {S : Sys} (g : Good S) {u v : Vec} {l : List Deed} (r : Run S u l v) (f : M68.Fea S u) : M68.Fea S v := by
  induction r with
  | nil u => exact f
  | cons h r ih => exact ih (Deed.fea g f h)
theorem dead_no {S : Sys} {v : Vec} {T : Nat → Prop} (c : M68.Closed S v T) {m : Nat} (d : Dead (M68.R S v) m) : ¬ T m := by
  induction d with
  | nil h => exact fun t => (c _ t).2.1 h
  | go h d ih =>
    intro t
    exact ih (c _ t).2.2
/-- no closed set is left where there is no ring -/
theorem no_closed {S : Sys} (g : Good S) {v : Vec} (h : rings S v = []) : ∀ T : Nat → Prop, M68.Closed S v T → ∀ m, ¬ T m := fun T c m t =>
  dead_no c ((rings_spec g v).2.2.1 h m (c m t).1) t
theorem eq_of_le {S : Sys} {u v : Vec} (h : M68.Le S u v) (k : M68.Le S v u) : ∀ m, m < S.N → u m = v m := fun m hm => Nat.le_antisymm (h m hm) (k m hm)
theorem R_eq {S : Sys} {u v : Vec} {m : Nat} (h : u m = v m) : M68.R S u m = M68.R S v m := by
  unfold M68.R
  rw [h]
theorem recv_eq {S : Sys} {u v : Vec} (h : ∀ m, m < S.N → u m = v m) (m : Nat) : M68.recv S u m = M68.recv S v m := M68.sumN_eq fun j hj => by rw [h j hj]
theorem Cn_eq {S : Sys} {u v : Vec} (h : ∀ m, m < S.N → u m = v m) {m : Nat} (hm : m < S.N) : M68.Cn S u m = M68.Cn S v m := by
  unfold M68.Cn
  rw [h m hm, recv_eq h]
theorem toV_eq {S : Sys} {u v : Vec} (h : ∀ m, m < S.N → u m = v m) : toV S u = toV S v := by
  unfold toV dbS coS dbT coT
  rw [tab_ext fun m hm => by rw [R_eq (h m hm)], tab_ext (f := fun m => D.int (M68.Cn S u m : Int)) fun m hm => by rw [Cn_eq h hm]]
/-- with no payment and no ring left: the greatest -/
theorem all_below {S : Sys} (g : Good S) {v c : Vec} (f : M68.Fea S v) (n : M68.noPay S v) (h : rings S v = []) (k : M68.Fea S c) : M68.Le S c v := M68.greatest g.ok f n (no_closed g h) k
theorem clear_fea {S : Sys} {c : Vec} (h : M68.Clear S c) : M68.Fea S c := fun m hm => Nat.le_of_eq (h m hm)
/-- a ring left: more can be cleared -/
theorem ring_more {S : Sys} (g : Good S) {v w : Vec} (f : M68.Fea S v) (hw : ∀ c, M68.Fea S c → M68.Le S c w) {L : List Nat} {q : List (List Nat)} (h : rings S v = L :: q) : ∃ m, m < S.N ∧ v m < w m := by
  have r := ring_in g (u := v) (L := L) (by rw [h]; exact List.mem_cons_self ..)
  have le := hw _ (M68.ring_fea f r)
  have rr := (rings_spec g v).2.1 L (by rw [h]; exact List.mem_cons_self ..)
  cases L with
  | nil => exact absurd rfl rr.n0
  | cons m L =>
    have hm : m < S.N := r.lt m (List.mem_cons_self ..)
    refine ⟨m, hm, ?_⟩
    have := le m hm
    unfold M68.add at this
    rw [if_pos (List.mem_cons_self ..)] at this
    omega
theorem eqL_tab {q : Nat} {f h : Nat → D} {b : Nat → Bool} : ∀ {l : List Nat}, (∀ i ∈ l, eqD q (f i) (h i) = some (b i)) → eqL (eqD q) (l.map f) (l.map h) = some ((l.map b).all id)
  | [], _ => rfl
  | i :: l, k => by
    rw [List.map_cons, List.map_cons, List.map_cons, eqL, k i (List.mem_cons_self ..), eqL_tab fun j hj => k j (List.mem_cons_of_mem _ hj)]
    rfl
end T68
end
section
set_option Elab.async false
set_option linter.all false
set_option autoImplicit false
set_option maxHeartbeats 4000000
set_option maxRecDepth 100000
namespace T68
open PySem Ro
open M68 (Sys Vec)

/-! ## what is equal -/
/-- debts as the law or as the program writes them -/
def ShD (X : D) (N : Nat) (r : Nat → List Nat) : Prop := X = dbT N r ∨ X = lawDb N r
theorem eq_dbs {q N : Nat} {X : D} {r s : Nat → List Nat} (h : ShD X N r) : eqD (q + 3) X (dbT N s) = some (((List.range N).map fun m => decide (r m = s m)).all id) := by
  rcases h with rfl | rfl
  · unfold dbT
    rw [e_tup]
    exact eqL_tab fun i _ => eq_row
  · unfold dbT lawDb
    rw [e_tup]
    exact eqL_tab fun i _ => eq_row (n := q)
theorem eq_cos {q N : Nat} {c e : Nat → Nat} : eqD (q + 2) (coT N c) (coT N e) = some (((List.range N).map fun m => decide (c m = e m)).all id) := by
  unfold coT
  rw [e_tup]
  refine eqL_tab fun i _ => ?_
  rw [e_int, beq_nat]
theorem eq_states {q : Nat} {S : Sys} {X : D} {a b : Vec} (h : ShD X S.N (M68.R S a)) (fa : M68.Fea S a) (fb : M68.Fea S b) : eqD (q + 4) (.tup [X, coS S a]) (toV S b) = some (decide (∀ m, m < S.N → a m = b m)) := by
  unfold toV
  rw [e_tup, eqL, eq_dbs h, eqL, eq_cos, eqL]
  simp only [all_dec]
  refine congrArg some ?_
  rw [Bool.eq_iff_iff]
  simp only [Bool.and_eq_true, decide_eq_true_eq, Bool.and_true]
  constructor
  · rintro ⟨h1, _⟩ m hm
    have e := congrArg List.length (h1 m hm)
    unfold M68.R at e
    rw [List.length_drop, List.length_drop] at e
    have ga := fa m hm
    have gb := fb m hm
    unfold M68.F at ga gb
    omega
  · intro k
    exact ⟨fun m hm => R_eq (k m hm), fun m hm => Cn_eq k hm⟩
end T68
end
section
set_option Elab.async false
set_option linter.all false
set_option autoImplicit false
set_option maxHeartbeats 4000000
set_option maxRecDepth 100000
namespace T68
open PySem Ro
open M68 (Sys Vec)

/-! ## one coin more -/
def up (S : Sys) (k : Nat) : Sys := ⟨S.N, S.r, fun m => S.c m + if m = k then 1 else 0⟩
theorem up_recv {S : Sys} {k : Nat} {u : Vec} (m : Nat) : M68.recv (up S k) u m = M68.recv S u m := rfl
theorem up_fea {S : Sys} {k : Nat} {u : Vec} (f : M68.Fea S u) : M68.Fea (up S k) u := fun m hm => by
  have := f m hm
  unfold M68.F at this ⊢
  show u m ≤ min (S.r m).length (S.c m + (if m = k then 1 else 0) + M68.recv S u m)
  omega
theorem up_payer {S : Sys} {k : Nat} {u : Vec} {m : Nat} (p : M68.payer S u m) : M68.payer (up S k) u m := by
  refine ⟨p.1, ?_⟩
  have := p.2
  unfold M68.Cn at this ⊢
  show 0 < S.c m + (if m = k then 1 else 0) + M68.recv S u m - u m
  omega
theorem up_run {S : Sys} {k : Nat} {u v : Vec} {l : List Nat} (r : PayRun S u l v) : PayRun (up S k) u l v := by
  induction r with
  | nil u => exact .nil u
  | cons h1 h2 r ih => exact .cons h1 (up_payer h2) ih
theorem up_good {S : Sys} (g : Good S) {k : Nat} : Good (up S k) := ⟨g.ok, g.few, g.sum⟩
theorem up_Cn {S : Sys} {k : Nat} {u : Vec} (f : M68.Fea S u) {m : Nat} (hm : m < S.N) : M68.Cn (up S k) u m = M68.Cn S u m + if m = k then 1 else 0 := by
  have := f m hm
  unfold M68.F at this
  unfold M68.Cn
  show S.c m + (if m = k then 1 else 0) + M68.recv S u m - u m = S.c m + M68.recv S u m - u m + if m = k then 1 else 0
  split <;> omega
theorem road_end {S : Sys} (ok : M68.ok S) {u w : Vec} {h e : Nat} {l : List Nat} (r : Road S u h l e w) {base : Nat → Nat} (hh : h < S.N) (f : M68.Fea S u) (c1 : ∀ m, m < S.N → M68.Cn S u m = base m + if m = h then 1 else 0) (c2 : ∀ m, m < S.N → M68.R S u m ≠ [] → base m = 0) :
    e < S.N ∧ M68.Fea S w ∧ (∀ m, m < S.N → M68.Cn S w m = base m + if m = e then 1 else 0) ∧ M68.noPay S w ∧ (∀ c, M68.Clear S c → M68.Le S u c → M68.Le S w c) ∧ ∀ m, w m = u m + l.count m := by
  induction r with
  | @stop u h p =>
    refine ⟨hh, f, c1, fun m hm q => ?_, fun c _ k => k, fun m => rfl⟩
    have h1 := c1 m hm
    have h2 := c2 m hm q.1
    have h3 := q.2
    rw [h2] at h1
    by_cases e : m = h
    · subst e
      exact q.1 p
    · rw [if_neg e] at h1
      omega
  | @go u w h e l p r ih =>
    have hd : M68.hd S u h < S.N := by
      refine (ok h hh (M68.hd S u h) ?_).1
      have : M68.hd S u h ∈ M68.R S u h := by
        rw [M68.R_cons p]
        exact List.mem_cons_self ..
      exact List.mem_of_mem_drop this
    have pay : M68.payer S u h := ⟨p, by rw [c1 h hh, if_pos rfl]; omega⟩
    obtain ⟨k1, k2, k3, k4, k5, k6⟩ := ih hd (M68.pay_fea f pay) (fun m hm => by
      rw [M68.pay_coins hh f pay hm, c1 m hm]
      omega) (fun m hm q => c2 m hm fun e => q (by
      rw [M68.pay_rows]
      by_cases x : m = h
      · rw [if_pos x, e]
        rfl
      · rw [if_neg x, e]))
    refine ⟨k1, k2, k3, k4, fun c hc hl => k5 c hc (M68.pay_below hl hc hh pay), fun m => ?_⟩
    rw [k6 m, List.count_cons]
    unfold M68.inc
    by_cases x : m = h
    · subst x
      simp
      omega
    · have y : (h == m) = false := by simpa using Ne.symm x
      simp [x, y]
end T68
end
section
set_option Elab.async false
set_option linter.all false
set_option autoImplicit false
set_option maxHeartbeats 4000000
set_option maxRecDepth 100000
namespace T68
open PySem Ro
open M68 (Sys Vec)

/-! ## the start: nothing paid -/
theorem recv0 {S : Sys} (m : Nat) : M68.recv S z0 m = 0 := by
  have : ∀ j, ((S.r j).take (z0 j)).count m = 0 := fun j => rfl
  unfold M68.recv
  rw [M68.sumN_eq fun j _ => this j]
  exact M68.sumN_zero
theorem R0_eq {S : Sys} : M68.R S z0 = S.r := rfl
theorem C0_eq {S : Sys} : M68.Cn S z0 = S.c := by
  funext m
  unfold M68.Cn
  rw [recv0]
  show S.c m + 0 - 0 = S.c m
  omega
theorem asks_law {S : Sys} : Asks S z0 (lawDb S.N S.r) (coT S.N S.c) := ⟨as_law, by rw [C0_eq]; exact asCo⟩
theorem asks_list {S : Sys} : Asks S z0 (listDb S.N S.r) (listCo S.N S.c) := ⟨as_list, by rw [C0_eq]; exact as_listCo⟩
theorem good_of {N : Nat} {r : Nat → List Nat} {c : Nat → Nat} (hN : N < 10) (hr : ∀ m, m < N → (r m).length ≤ 3) (o : okR N r) : Good ⟨N, r, c⟩ := ⟨o, by show N < 500; omega, by
  have h1 : M68.sumN N (fun m => (r m).length) ≤ M68.sumN N fun _ => 3 := M68.sumN_le hr
  have h2 : ∀ n, M68.sumN n (fun _ => 3) = 3 * n := by
    intro n
    induction n with
    | zero => rfl
    | succ n ih => rw [M68.sumN_succ, ih]; omega
  rw [h2] at h1
  show M68.sumN N (fun m => (r m).length) < 1000
  omega⟩
/-- all that is known of the two ends -/
structure Ends (S : Sys) (v : Vec) (l : List Nat) (w : Vec) (k : List Deed) : Prop where
  p1 : PayRun S z0 l v
  p2 : M68.noPay S v
  p3 : M68.Fea S v
  p4 : ∀ (n : Nat) (st : Sto), callN Tb (n + 2) 13 [dbS S z0, coS S z0] st = some (.tup [dbS S v, coS S v, .lst (l.map payD)], st)
  q1 : Run S z0 k w
  q2 : M68.noPay S w
  q3 : M68.Fea S w
  q4 : rings S w = []
  q5 : ∀ (n : Nat) (st : Sto), callN Tb (n + 3) 14 [dbS S z0, coS S z0] st = some (.tup [dbS S w, coS S w, .lst (k.map Deed.D)], st)
theorem ends {S : Sys} (g : Good S) : ∃ v l w k, Ends S v l w k := by
  obtain ⟨v, l, a1, a2, a3, _, a5⟩ := f_paid g (u := z0) fea0
  obtain ⟨w, k, b1, b2, b3, b4, _, b6⟩ := f_cleared g (u := z0) fea0
  exact ⟨v, l, w, k, a1, a2, a3, a5, b1, b2, b3, b4, b6⟩
theorem least {S : Sys} {v : Vec} {l : List Nat} (p : PayRun S z0 l v) {c : Vec} (h : M68.Clear S c) : M68.Le S v c := run_below p le0 h
/-- a payer left or not: any run of payments alone ends there -/
theorem pay_end {S : Sys} {v z : Vec} {l l' : List Nat} (p : PayRun S z0 l v) (f : M68.Fea S v) (n : M68.noPay S v) (p' : PayRun S z0 l' z) (f' : M68.Fea S z) (n' : M68.noPay S z) : ∀ m, m < S.N → z m = v m := eq_of_le (least p' (M68.noPay_clear f n)) (least p (M68.noPay_clear f' n'))
theorem clear_end {S : Sys} (g : Good S) {w z : Vec} (f : M68.Fea S w) (n : M68.noPay S w) (h : rings S w = []) (f' : M68.Fea S z) (n' : M68.noPay S z) (h' : rings S z = []) : ∀ m, m < S.N → z m = w m := eq_of_le (all_below g f n h f') (all_below g f' n' h' f)
end T68
end
section
set_option Elab.async false
set_option linter.all false
set_option autoImplicit false
set_option maxHeartbeats 4000000
set_option maxRecDepth 100000
namespace T68
open PySem Ro
open M68 (Sys Vec)

/-! ## the law's walks -/
/-- the law's places; 7 words, 8 end, 9 lap, 10 here, 11 goods -/
def eA (x0 : D) (S : Sys) (p q : D) (x7 x8 x9 x10 x11 : Option D) : Ro.Env := [some x0, some (.loc 0), some (.int (S.N : Int)), some (lawDb S.N S.r), some (coT S.N S.c), some p, some q, x7, x8, x9, x10, x11, none, none, none, none, none, none, none, none, none, none, none, none, none, none]
def isPay : Deed → Bool
  | .pay _ => true
  | .ring _ => false
/-- a state as the law holds it -/
def Here (S : Sys) (u : Vec) (X : D) : Prop := ShD X S.N (M68.R S u)
theorem here_asks {S : Sys} {u : Vec} {X : D} (h : Here S u X) : Asks S u X (coS S u) := by
  rcases h with rfl | rfl
  · exact asks_self
  · exact ⟨as_law, asCo⟩
def wordsD (all : Bool) : D := .tup (if all then [.str "pay", .str "ring"] else [.str "pay"])
def keeps (all : Bool) (d : Deed) : Bool := all || isPay d
def gE : Ex := (.comp false [14] (.v 14) (.seq (.call 16 (.cons (.op .sub (.cons (.var 10) (.cons (.cst (.int 0)) .nil))) (.cons (.op .sub (.cons (.var 10) (.cons (.cst (.int 1)) .nil))) .nil)))) (.cons (.op (.cmp .In) (.cons (.op .sub (.cons (.var 14) (.cons (.cst (.int 0)) .nil))) (.cons (.var 7) .nil))) .nil) (.var 14))
theorem fm_map {f : Deed → D} {g : D → Option D} {p : Deed → Bool} : ∀ {l : List Deed}, (∀ d ∈ l, g (f d) = if p d then some (f d) else none) → (l.map f).filterMap g = (l.filter p).map f
  | [], _ => rfl
  | d :: l, h => by
    rw [List.map_cons, List.filterMap_cons, h d (List.mem_cons_self ..), List.filter_cons]
    by_cases q : p d = true
    · rw [if_pos q, if_pos q, List.map_cons, fm_map fun i hi => h i (List.mem_cons_of_mem _ hi)]
    · rw [if_neg q, if_neg q, fm_map fun i hi => h i (List.mem_cons_of_mem _ hi)]
theorem goodsE {S : Sys} (g : Good S) {u : Vec} {X : D} (hX : Here S u X) {all : Bool} {n : Nat} {st : Sto} {x0 p q : D} {x8 x9 x11 : Option D} : ev (callN Tb (n + 8)) gE (eA x0 S p q (some (wordsD all)) x8 x9 (some (.tup [X, coS S u])) x11) st = some (.lst (((dl S u).filter (keeps all)).map Deed.D), st) := by
  have h1 := f_debt_deeds (n := n + 1) g u (here_asks hX).a (here_asks hX).b (st := st)
  rw [deeds_dl] at h1
  have i0 : ixD [X, coS S u] 0 = some X := rfl
  have i1 : ixD [X, coS S u] 1 = some (coS S u) := rfl
  unfold gE
  rw [w_compP (xs := (dl S u).map Deed.D) (ns := []) (st1 := st) (g := fun d => match d with
    | .tup (.str t :: _) => if all || (t == "pay") then some d else none
    | _ => none) (by
      unfold eA
      generalize (dl S u).map Deed.D = Y at h1 ⊢
      simp [i0, i1, h1]) (by
      intro x hx
      obtain ⟨d, _, rfl⟩ := List.mem_map.mp hx
      have c1 : (("ring" : Str) == ("pay" : Str)) = false := by decide
      have c2 : (("pay" : Str) == ("pay" : Str)) = true := by decide
      have c3 : (("ring" : Str) == ("ring" : Str)) = true := by decide
      have c4 : (("pay" : Str) == ("ring" : Str)) = false := by decide
      have c5 : ¬ ("ring" : Str) = ("pay" : Str) := by decide
      have j1 : ∀ m, ixD [D.str "pay", .int m] 0 = some (.str "pay") := fun m => rfl
      have j2 : ∀ L, ixD [D.str "ring", .tup L] 0 = some (.str "ring") := fun m => rfl
      unfold eA wordsD
      cases all <;> cases d <;> simp [tn, Deed.D, payD, ringD, j1, j2, inL, c4, c5])]
  rw [fm_map (p := keeps all) (by
    intro d _
    cases d
    · show (if (all || ("pay" : Str) == "pay") = true then _ else _) = _
      cases all <;> rfl
    · show (if (all || ("ring" : Str) == "pay") = true then _ else _) = _
      cases all
      · rfl
      · rfl)]
end T68
end
section
set_option Elab.async false
set_option linter.all false
set_option autoImplicit false
set_option maxHeartbeats 4000000
set_option maxRecDepth 100000
namespace T68
open PySem Ro
open M68 (Sys Vec)

def cN : Ex := (.op (.cmp .NotEq) (.cons (.var 11) (.cons (.op (.lst false) .nil) .nil)))
def bN : Ss := (.cons (.asg (.v 10) (.call 17 (.cons (.op .sub (.cons (.var 10) (.cons (.cst (.int 0)) .nil))) (.cons (.op .sub (.cons (.var 10) (.cons (.cst (.int 1)) .nil))) (.cons (.call 31 (.cons (.var 1) (.cons (.var 11) .nil))) .nil)))))
  (.cons (.asg (.v 11) gE)
  .nil))
noncomputable def goodsL (S : Sys) (u : Vec) (all : Bool) : List Deed := (dl S u).filter (keeps all)
theorem dl_len {S : Sys} (g : Good S) (u : Vec) : (dl S u).length < 1000000 := by
  have h1 := payers_len (N := S.N) (r := M68.R S u) (c := M68.Cn S u)
  have h2 := (rings_spec g u).2.2.2
  have h3 := g.few
  unfold dl
  rw [List.length_append, List.length_map, List.length_map]
  show (payers S.N (M68.R S u) (M68.Cn S u)).length + _ < _
  omega
theorem turnN1 {S : Sys} (g : Good S) {u : Vec} (f : M68.Fea S u) {X : D} (hX : Here S u X) {all : Bool} {n q : Nat} (hq : q < 1000000) {s : Sto} (h : TinOk q s) (ne : goodsL S u all ≠ []) {x0 pp qq : D} {x8 x9 : Option D} :
    ∃ d s', d ∈ goodsL S u all ∧ TinOk (q + 1) s' ∧ wt (callN Tb (n + 8)) false cN bN (eA x0 S pp qq (some (wordsD all)) x8 x9 (some (.tup [X, coS S u])) (some (.lst ((goodsL S u all).map Deed.D)))) s = some (.inr (eA x0 S pp qq (some (wordsD all)) x8 x9 (some (toV S (d.to u))) (some (.lst ((goodsL S (d.to u) all).map Deed.D))), s')) := by
  have ll : ((goodsL S u all).map Deed.D).length < 1000000 := by
    rw [List.length_map]
    exact Nat.lt_of_le_of_lt (List.length_filter_le _ _) (dl_len g u)
  obtain ⟨y, s', hy, h', e⟩ := f_of hq (xs := (goodsL S u all).map Deed.D) (by simpa using ne) ll h
  obtain ⟨d, hd, rfl⟩ := List.mem_map.mp hy
  have ok : d.ok S u := mem_dl.mp (List.mem_filter.mp hd).1
  refine ⟨d, s', hd, h', ?_⟩
  have e1 := e (n + 6) []
  rw [List.append_nil, List.append_nil] at e1
  have e2 := f_debt_done g f (here_asks hX) ok (n := n) (st := s')
  have i0 : ixD [X, coS S u] 0 = some X := rfl
  have i1 : ixD [X, coS S u] 1 = some (coS S u) := rfl
  have ne2 : ((goodsL S u all).map Deed.D).isEmpty = false := by
    cases q : goodsL S u all with
    | nil => exact absurd q ne
    | cons _ _ => rfl
  have ec : ev (callN Tb (n + 8)) cN (eA x0 S pp qq (some (wordsD all)) x8 x9 (some (.tup [X, coS S u])) (some (.lst ((goodsL S u all).map Deed.D)))) s = some (.bl true, s) := by
    unfold cN eA
    generalize (goodsL S u all).map Deed.D = Y at ne2 ⊢
    simp [ne2]
  have s1 : exS (callN Tb (n + 8)) (.asg (.v 10) (.call 17 (.cons (.op .sub (.cons (.var 10) (.cons (.cst (.int 0)) .nil))) (.cons (.op .sub (.cons (.var 10) (.cons (.cst (.int 1)) .nil))) (.cons (.call 31 (.cons (.var 1) (.cons (.var 11) .nil))) .nil))))) (eA x0 S pp qq (some (wordsD all)) x8 x9 (some (.tup [X, coS S u])) (some (.lst ((goodsL S u all).map Deed.D)))) s = some (.nx (eA x0 S pp qq (some (wordsD all)) x8 x9 (some (toV S (d.to u))) (some (.lst ((goodsL S u all).map Deed.D)))) s') := by
    unfold eA
    generalize (goodsL S u all).map Deed.D = Y at e1 ⊢
    simp [i0, i1, e1, e2]
  have s2 : exS (callN Tb (n + 8)) (.asg (.v 11) gE) (eA x0 S pp qq (some (wordsD all)) x8 x9 (some (toV S (d.to u))) (some (.lst ((goodsL S u all).map Deed.D)))) s' = some (.nx (eA x0 S pp qq (some (wordsD all)) x8 x9 (some (toV S (d.to u))) (some (.lst ((goodsL S (d.to u) all).map Deed.D)))) s') := by
    have k := goodsE g (u := d.to u) (X := dbS S (d.to u)) (.inl rfl) (all := all) (n := n) (st := s') (x0 := x0) (p := pp) (q := qq) (x8 := x8) (x9 := x9) (x11 := some (.lst ((goodsL S u all).map Deed.D)))
    rw [x_asg, show toV S (d.to u) = .tup [dbS S (d.to u), coS S (d.to u)] from rfl, k]
    unfold eA goodsL
    generalize (List.filter (keeps all) (dl S (d.to u))).map Deed.D = Y
    simp
  have eb : exSs (callN Tb (n + 8)) bN (eA x0 S pp qq (some (wordsD all)) x8 x9 (some (.tup [X, coS S u])) (some (.lst ((goodsL S u all).map Deed.D)))) s = _ := (ss_nx s1).trans ((ss_nx s2).trans z_nil)
  unfold wt
  rw [ec]
  simp only [tr_bl]
  rw [eb, turn_no]
theorem mu_deed {S : Sys} (g : Good S) {u : Vec} {d : Deed} (h : d.ok S u) : mu S (d.to u) < mu S u := by
  cases d with
  | pay m => exact mu_inc h.1 h.2.1
  | ring L => exact mu_ring g h
theorem loopN {S : Sys} (g : Good S) {all : Bool} {n : Nat} {x0 pp qq : D} {x8 x9 : Option D} : ∀ (k : Nat) (u : Vec) (X : D) (q : Nat) (s : Sto), mu S u = k → M68.Fea S u → Here S u X → q + k < 1000000 → TinOk q s →
    ∃ z l s' X', Run S u l z ∧ (∀ d ∈ l, keeps all d = true) ∧ goodsL S z all = [] ∧ TinOk (q + k) s' ∧ Here S z X' ∧ M68.Fea S z ∧
      wRun (wt (callN Tb (n + 8)) false cN bN) (eA x0 S pp qq (some (wordsD all)) x8 x9 (some (.tup [X, coS S u])) (some (.lst ((goodsL S u all).map Deed.D)))) s = some (.nx (eA x0 S pp qq (some (wordsD all)) x8 x9 (some (.tup [X', coS S z])) (some (.lst []))) s') := by
  intro k
  induction k using Nat.strongRecOn with
  | _ k ih =>
    intro u X q s hk f hX hq h
    by_cases e : goodsL S u all = []
    · refine ⟨u, [], s, X, .nil u, (fun (d : Deed) (hd : d ∈ ([] : List Deed)) => by cases hd), e, h.mono (by omega), hX, f, ?_⟩
      rw [e]
      refine wRun_end ?_
      unfold wt cN eA
      simp
    · obtain ⟨d, s1, hd, h1, t⟩ := turnN1 g f hX (all := all) (n := n) (q := q) (by omega) h e (x0 := x0) (pp := pp) (qq := qq) (x8 := x8) (x9 := x9)
      obtain ⟨md, kd⟩ := List.mem_filter.mp hd
      have ok : d.ok S u := mem_dl.mp md
      have lt := mu_deed g ok
      obtain ⟨z, l, s', X', a1, a2, a3, a4, a5, a6, a7⟩ := ih (mu S (d.to u)) (by omega) (d.to u) (dbS S (d.to u)) (q + 1) s1 rfl (Deed.fea g f ok) (.inl rfl) (by omega) h1
      refine ⟨z, d :: l, s', X', .cons ok a1, ?_, a3, a4.mono (by omega), a5, a6, wRun_go t a7⟩
      intro y hy
      rcases List.mem_cons.mp hy with rfl | hy
      · exact kd
      · exact a2 y hy
end T68
end
section
set_option Elab.async false
set_option linter.all false
set_option autoImplicit false
set_option maxHeartbeats 4000000
set_option maxRecDepth 100000
namespace T68
open PySem Ro
open M68 (Sys Vec)

theorem end_noPay {S : Sys} {z : Vec} {all : Bool} (h : goodsL S z all = []) : M68.noPay S z := fun m hm p => by
  have : Deed.pay m ∈ goodsL S z all := List.mem_filter.mpr ⟨mem_dl.mpr ⟨hm, p⟩, by cases all <;> rfl⟩
  rw [h] at this
  cases this
theorem end_rings {S : Sys} {z : Vec} (h : goodsL S z true = []) : rings S z = [] := by
  cases q : rings S z with
  | nil => rfl
  | cons L k =>
    have : Deed.ring L ∈ goodsL S z true := List.mem_filter.mpr ⟨mem_dl.mpr (show L ∈ rings S z by rw [q]; exact List.mem_cons_self ..), rfl⟩
    rw [h] at this
    cases this
theorem run_pays {S : Sys} {u z : Vec} {l : List Deed} (r : Run S u l z) (h : ∀ d ∈ l, keeps false d = true) : ∃ l', PayRun S u l' z := by
  induction r with
  | nil u => exact ⟨[], .nil u⟩
  | @cons u v d l ok r ih =>
    obtain ⟨l', e⟩ := ih fun x hx => h x (List.mem_cons_of_mem _ hx)
    cases d with
    | pay m => exact ⟨m :: l', .cons ok.1 ok.2 e⟩
    | ring L => exact absurd (h _ (List.mem_cons_self ..)) (by show ¬ (false = true); decide)
/-- the end of the law's walk, whatever was drawn -/
theorem walk_end {S : Sys} (g : Good S) {v w z : Vec} {l : List Nat} {k t : List Deed} (E : Ends S v l w k) {all : Bool} (r : Run S z0 t z) (h : ∀ d ∈ t, keeps all d = true) (f : M68.Fea S z) (e : goodsL S z all = []) : ∀ m, m < S.N → z m = (if all then w else v) m := by
  cases all with
  | false =>
    obtain ⟨l', p'⟩ := run_pays r h
    exact pay_end E.p1 E.p3 E.p2 p' f (end_noPay e)
  | true => exact clear_end g E.q3 E.q2 E.q4 f (end_noPay e) (end_rings e)
theorem sum_ints : ∀ {l : List Nat} {c : Nat → Nat}, ((l.map fun m => (c m : Int)).sum) = (((l.map c).sum : Nat) : Int)
  | [], _ => rfl
  | x :: l, c => by
    rw [List.map_cons, List.sum_cons, sum_ints, List.map_cons, List.sum_cons, Int.natCast_add]
theorem ints_co {N : Nat} {c : Nat → Nat} : intsOf (tab N fun m => .int (c m : Int)) = some ((List.range N).map fun m => (c m : Int)) := by
  have := @ints_nD ((List.range N).map c)
  unfold nD at this
  rw [List.map_map, List.map_map] at this
  exact this
theorem sum_co {N : Nat} {c : Nat → Nat} {st : Sto} : primD .sum st [coT N c] = some (.int (M68.sumN N c : Int), st) := by
  rw [p_sum, sq_co]
  simp only [ints_co, Option.map_some, sum_ints]
  rfl
end T68
end
section
set_option Elab.async false
set_option linter.all false
set_option autoImplicit false
set_option maxHeartbeats 4000000
set_option maxRecDepth 100000
namespace T68
open PySem Ro
open M68 (Sys Vec)

/-! ## the law's first loop -/
def iR : Ss := (.cons (.ifs (.or (.op (.cmp .NotEq) (.cons (.var 10) (.cons (.var 8) .nil))) (.op (.cmp .NotEq) (.cons (.op .sum (.cons (.op .sub (.cons (.var 10) (.cons (.cst (.int 1)) .nil))) .nil)) (.cons (.op .sum (.cons (.var 4) .nil)) .nil)))) (.cons (.ret (.cst (.bl false)))
  .nil) .nil)
  .nil)
def bT : Ss := (.cons (.asg (.v 10) (.op .tup (.cons (.var 3) (.cons (.var 4) .nil))))
  (.cons (.asg (.v 11) gE)
  (.cons (.whl false cN bN)
  iR)))
theorem turnT {S : Sys} (g : Good S) {v w : Vec} {l : List Nat} {k : List Deed} (E : Ends S v l w k) {all : Bool} {n q : Nat} (hq : q + 1000 < 1000000) {s st0 : Sto} (h : TinOk q s) {x0 pp qq : D} {x9 x10 x11 : Option D} {lap : D} :
    ∃ s' X' g', TinOk (q + 1000) s' ∧ ft (callN Tb (n + 8)) false (.v 9) bT [] st0 lap (eA x0 S pp qq (some (wordsD all)) (some (toV S (if all then w else v))) x9 x10 x11) s = some (.inr (eA x0 S pp qq (some (wordsD all)) (some (toV S (if all then w else v))) (some lap) X' g', s')) := by
  have hm := mu_le g z0
  obtain ⟨z, t, s', X', a1, a2, a3, a4, a5, a6, a7⟩ := loopN g (all := all) (n := n) (x0 := x0) (pp := pp) (qq := qq) (x8 := some (toV S (if all then w else v))) (x9 := some lap) (mu S z0) z0 (lawDb S.N S.r) q s rfl fea0 (.inr rfl) (by omega) h
  refine ⟨s', some (.tup [X', coS S z]), some (.lst []), a4.mono (by omega), ?_⟩
  have en := walk_end g E a1 a2 a6 a3
  have fe : M68.Fea S (if all then w else v) := by cases all; exact E.p3; exact E.q3
  have eq1 := eq_states (q := 36) a5 a6 fe
  rw [decide_eq_true en] at eq1
  have sm : M68.sumN S.N (M68.Cn S z) = M68.sumN S.N S.c := M68.sum_coins g.ok a6
  have s1 : exS (callN Tb (n + 8)) (.asg (.v 10) (.op .tup (.cons (.var 3) (.cons (.var 4) .nil)))) (eA x0 S pp qq (some (wordsD all)) (some (toV S (if all then w else v))) (some lap) x10 x11) s = some (.nx (eA x0 S pp qq (some (wordsD all)) (some (toV S (if all then w else v))) (some lap) (some (.tup [lawDb S.N S.r, coS S z0])) x11) s) := by
    have c0 : coS S z0 = coT S.N S.c := by unfold coS; rw [C0_eq]
    rw [c0]
    unfold eA
    simp
  have s2 : exS (callN Tb (n + 8)) (.asg (.v 11) gE) (eA x0 S pp qq (some (wordsD all)) (some (toV S (if all then w else v))) (some lap) (some (.tup [lawDb S.N S.r, coS S z0])) x11) s = some (.nx (eA x0 S pp qq (some (wordsD all)) (some (toV S (if all then w else v))) (some lap) (some (.tup [lawDb S.N S.r, coS S z0])) (some (.lst ((goodsL S z0 all).map Deed.D)))) s) := by
    have kk := goodsE g (u := z0) (X := lawDb S.N S.r) (.inr rfl) (all := all) (n := n) (st := s) (x0 := x0) (p := pp) (q := qq) (x8 := some (toV S (if all then w else v))) (x9 := some lap) (x11 := x11)
    rw [x_asg, kk]
    unfold eA goodsL
    generalize (List.filter (keeps all) (dl S z0)).map Deed.D = Y
    simp
  have s3 : exS (callN Tb (n + 8)) (.whl false cN bN) (eA x0 S pp qq (some (wordsD all)) (some (toV S (if all then w else v))) (some lap) (some (.tup [lawDb S.N S.r, coS S z0])) (some (.lst ((goodsL S z0 all).map Deed.D)))) s = some (.nx (eA x0 S pp qq (some (wordsD all)) (some (toV S (if all then w else v))) (some lap) (some (.tup [X', coS S z])) (some (.lst []))) s') := by
    rw [x_whl]
    exact a7
  have s4 : exSs (callN Tb (n + 8)) iR (eA x0 S pp qq (some (wordsD all)) (some (toV S (if all then w else v))) (some lap) (some (.tup [X', coS S z])) (some (.lst []))) s' = some (.nx (eA x0 S pp qq (some (wordsD all)) (some (toV S (if all then w else v))) (some lap) (some (.tup [X', coS S z])) (some (.lst []))) s') := by
    have i1 : ixD [X', coS S z] 1 = some (coS S z) := rfl
    have e1 := sum_co (N := S.N) (c := M68.Cn S z) (st := s')
    have e2 := sum_co (N := S.N) (c := S.c) (st := s')
    rw [sm] at e1
    have c1 : ev (callN Tb (n + 8)) (.op (.cmp .NotEq) (.cons (.var 10) (.cons (.var 8) .nil))) (eA x0 S pp qq (some (wordsD all)) (some (toV S (if all then w else v))) (some lap) (some (.tup [X', coS S z])) (some (.lst []))) s' = some (.bl false, s') := by
      have q : cmpD s' .NotEq (.tup [X', coS S z]) (toV S (if all then w else v)) = some false := by
        rw [c_ne]
        show (eqD dp (.tup [X', coS S z]) (toV S (if all then w else v))).map (!·) = some false
        rw [eq1]
        rfl
      unfold eA
      generalize toV S (if all then w else v) = W at q ⊢
      simp only [w_op, w_cons, w_nil, w_var, List.getElem?_cons_succ, List.getElem?_cons_zero, p_cmp, q, Option.map_some]
    have c2 : ev (callN Tb (n + 8)) (.op (.cmp .NotEq) (.cons (.op .sum (.cons (.op .sub (.cons (.var 10) (.cons (.cst (.int 1)) .nil))) .nil)) (.cons (.op .sum (.cons (.var 4) .nil)) .nil))) (eA x0 S pp qq (some (wordsD all)) (some (toV S (if all then w else v))) (some lap) (some (.tup [X', coS S z])) (some (.lst []))) s' = some (.bl false, s') := by
      unfold eA
      simp only [w_op, w_cons, w_nil, w_cst, w_var, List.getElem?_cons_succ, List.getElem?_cons_zero, p_sub, sq_tup, i1, Option.map_some, e1, e2, p_cmp, c_ne, de_int, e_int]
      simp
    unfold iR
    generalize (eA x0 S pp qq (some (wordsD all)) (some (toV S (if all then w else v))) (some lap) (some (.tup [X', coS S z])) (some (.lst []))) = ρ at c1 c2 ⊢
    simp [c1, c2]
  have eb : exSs (callN Tb (n + 8)) bT (eA x0 S pp qq (some (wordsD all)) (some (toV S (if all then w else v))) (some lap) x10 x11) s = _ := (ss_nx s1).trans ((ss_nx s2).trans ((ss_nx s3).trans s4))
  unfold ft
  have b1 : bindT (.v 9) lap (eA x0 S pp qq (some (wordsD all)) (some (toV S (if all then w else v))) x9 x10 x11) = some (eA x0 S pp qq (some (wordsD all)) (some (toV S (if all then w else v))) (some lap) x10 x11) := by
    unfold eA
    simp
  rw [b1]
  simp only [eb, turn_no, grdF_nil]
end T68
end
section
set_option Elab.async false
set_option linter.all false
set_option autoImplicit false
set_option maxHeartbeats 4000000
set_option maxRecDepth 100000
namespace T68
open PySem Ro
open M68 (Sys Vec)

def bV : Ss := (.cons (.for false (.v 9) (.range (.cons (.cst (.int 3)) .nil)) bT) .nil)
theorem lapsL {S : Sys} (g : Good S) {v w : Vec} {l : List Nat} {k : List Deed} (E : Ends S v l w k) {all : Bool} {n : Nat} {st0 : Sto} {x0 pp qq : D} : ∀ (ks : List D) (q : Nat) (s : Sto) (x9 x10 x11 : Option D), q + 1000 * ks.length < 1000000 → TinOk q s →
    ∃ s' y9 y10 y11, TinOk (q + 1000 * ks.length) s' ∧ fLoop (ft (callN Tb (n + 8)) false (.v 9) bT [] st0) ks (eA x0 S pp qq (some (wordsD all)) (some (toV S (if all then w else v))) x9 x10 x11) s = some (.nx (eA x0 S pp qq (some (wordsD all)) (some (toV S (if all then w else v))) y9 y10 y11) s')
  | [], q, s, x9, x10, x11, _, h => ⟨s, x9, x10, x11, h, rfl⟩
  | a :: ks, q, s, x9, x10, x11, hq, h => by
    rw [List.length_cons] at hq
    obtain ⟨s1, X', g', h1, e1⟩ := turnT g E (all := all) (n := n) (q := q) (by omega) (st0 := st0) h (x0 := x0) (pp := pp) (qq := qq) (x9 := x9) (x10 := x10) (x11 := x11) (lap := a)
    obtain ⟨s', y9, y10, y11, h2, e2⟩ := lapsL g E (all := all) (n := n) (st0 := st0) (x0 := x0) (pp := pp) (qq := qq) ks (q + 1000) s1 (some a) X' g' (by omega) h1
    refine ⟨s', y9, y10, y11, h2.mono (by rw [List.length_cons]; omega), ?_⟩
    rw [fLoop_go e1, e2]
theorem turnV {S : Sys} (g : Good S) {v w : Vec} {l : List Nat} {k : List Deed} (E : Ends S v l w k) {all : Bool} {n q : Nat} (hq : q + 3000 < 1000000) {s st0 : Sto} (h : TinOk q s) {x0 pp qq : D} {x7 x8 x9 x10 x11 : Option D} :
    ∃ s' y9 y10 y11, TinOk (q + 3000) s' ∧ ft (callN Tb (n + 8)) false (.t [(.v 7), (.v 8)]) bV [] st0 (.tup [wordsD all, toV S (if all then w else v)]) (eA x0 S pp qq x7 x8 x9 x10 x11) s = some (.inr (eA x0 S pp qq (some (wordsD all)) (some (toV S (if all then w else v))) y9 y10 y11, s')) := by
  obtain ⟨s', y9, y10, y11, h', e⟩ := lapsL g E (all := all) (n := n) (st0 := s) (x0 := x0) (pp := pp) (qq := qq) (nD (List.range 3)) q s x9 x10 x11 (by rw [nD_len, List.length_range]; omega) h
  refine ⟨s', y9, y10, y11, h'.mono (by rw [nD_len, List.length_range]; omega), ?_⟩
  have r3 : rangeD [.int 3] = some (nD (List.range 3)) := by
    have := range_nat (sz_of (k := 3) (by omega))
    rw [rng_nD] at this
    exact this
  have s1 : exS (callN Tb (n + 8)) (.for false (.v 9) (.range (.cons (.cst (.int 3)) .nil)) bT) (eA x0 S pp qq (some (wordsD all)) (some (toV S (if all then w else v))) x9 x10 x11) s = some (.nx (eA x0 S pp qq (some (wordsD all)) (some (toV S (if all then w else v))) y9 y10 y11) s') := by
    rw [x_for, w_range]
    simp only [w_cons, w_nil, w_cst, r3, Option.map_some]
    exact e
  have eb : exSs (callN Tb (n + 8)) bV (eA x0 S pp qq (some (wordsD all)) (some (toV S (if all then w else v))) x9 x10 x11) s = _ := (ss_nx s1).trans z_nil
  have b1 : bindT (.t [(.v 7), (.v 8)]) (.tup [wordsD all, toV S (if all then w else v)]) (eA x0 S pp qq x7 x8 x9 x10 x11) = some (eA x0 S pp qq (some (wordsD all)) (some (toV S (if all then w else v))) x9 x10 x11) := by
    unfold eA
    simp
  unfold ft
  rw [b1]
  simp only [eb, turn_no, grdF_nil]
end T68
end
section
set_option Elab.async false
set_option linter.all false
set_option autoImplicit false
set_option maxHeartbeats 4000000
set_option maxRecDepth 100000
namespace T68
open PySem Ro
open M68 (Sys Vec)

def itV : It := (.seq (.op .tup (.cons (.op .tup (.cons (.op .tup (.cons (.cst (.str "pay")) .nil)) (.cons (.var 5) .nil))) (.cons (.op .tup (.cons (.op .tup (.cons (.cst (.str "pay")) (.cons (.cst (.str "ring")) .nil))) (.cons (.var 6) .nil))) .nil))))
theorem walksV {S : Sys} (g : Good S) {v w : Vec} {l : List Nat} {k : List Deed} (E : Ends S v l w k) {n q : Nat} (hq : q + 6000 < 1000000) {s : Sto} (h : TinOk q s) {x0 : D} :
    ∃ s' y7 y8 y9 y10 y11, TinOk (q + 6000) s' ∧ exS (callN Tb (n + 8)) (.for false (.t [(.v 7), (.v 8)]) itV bV) (eA x0 S (toV S v) (toV S w) none none none none none) s = some (.nx (eA x0 S (toV S v) (toV S w) y7 y8 y9 y10 y11) s') := by
  obtain ⟨s1, a9, a10, a11, h1, e1⟩ := turnV g E (all := false) (n := n) (q := q) (by omega) (st0 := s) h (x0 := x0) (pp := toV S v) (qq := toV S w) (x7 := none) (x8 := none) (x9 := none) (x10 := none) (x11 := none)
  obtain ⟨s2, b9, b10, b11, h2, e2⟩ := turnV g E (all := true) (n := n) (q := q + 3000) (by omega) (st0 := s) h1 (x0 := x0) (pp := toV S v) (qq := toV S w) (x7 := some (wordsD false)) (x8 := some (toV S v)) (x9 := a9) (x10 := a10) (x11 := a11)
  refine ⟨s2, some (wordsD true), some (toV S w), b9, b10, b11, h2.mono (by omega), ?_⟩
  rw [x_for]
  have ei : evi (callN Tb (n + 8)) itV (eA x0 S (toV S v) (toV S w) none none none none none) s = some ([.tup [wordsD false, toV S v], .tup [wordsD true, toV S w]], [], s) := by
    unfold itV eA
    simp [wordsD]
  rw [ei]
  simp only []
  simp only [if_true, if_false, Bool.false_eq_true] at e1 e2
  rw [fLoop_go e1]
  exact (fLoop_go e2).trans rfl
end T68
end
section
set_option Elab.async false
set_option linter.all false
set_option autoImplicit false
set_option maxHeartbeats 4000000
set_option maxRecDepth 100000
namespace T68
open PySem Ro
open M68 (Sys Vec)

/-! ## the law's numbers -/
theorem fea_len {S : Sys} {v : Vec} (f : M68.Fea S v) {m : Nat} (hm : m < S.N) : v m ≤ (S.r m).length := by
  have := f m hm
  unfold M68.F at this
  omega
theorem R_len {S : Sys} {v : Vec} (f : M68.Fea S v) {m : Nat} (hm : m < S.N) : (M68.R S z0 m).length - (M68.R S v m).length = v m ∧ (M68.R S v m).length ≤ (M68.R S z0 m).length := by
  have := fea_len f hm
  rw [R0_eq]
  unfold M68.R
  rw [List.length_drop]
  omega
theorem num_co {S : Sys} {v : Vec} (f : M68.Fea S v) : D.tup (tab S.N fun m => .int (((M68.R S z0 m).length - (M68.R S v m).length : Nat) : Int)) = coT S.N v := by
  unfold coT
  exact congrArg D.tup (tab_ext fun m hm => by rw [(R_len f hm).1])
/-- what is asked of the debts as they come -/
theorem ask_paid {S : Sys} (g : Good S) {v w : Vec} {l : List Nat} {k : List Deed} (E : Ends S v l w k) {x y : D} (a : Asks S z0 x y) {n : Nat} {st : Sto} :
    callN Tb (n + 7) 19 [x, y] st = some (toV S v, st) ∧ callN Tb (n + 7) 21 [x, y] st = some (coT S.N v, st) ∧ callN Tb (n + 7) 23 [x, y] st = some (.tup (l.map payD), st) ∧
      callN Tb (n + 7) 25 [x, y] st = some ((match rings S v with
        | [] => .non
        | L :: _ => .tup (nD L)), st) := by
  have := f_all_paid g fea0 a (fun m hm => (R_len E.p3 hm).2) E.p4 (n := n) (st := st)
  rw [num_co E.p3] at this
  exact this
theorem ask_cleared {S : Sys} (g : Good S) {v w : Vec} {l : List Nat} {k : List Deed} (E : Ends S v l w k) {x y : D} (a : Asks S z0 x y) {n : Nat} {st : Sto} :
    callN Tb (n + 7) 20 [x, y] st = some (toV S w, st) ∧ callN Tb (n + 7) 22 [x, y] st = some (coT S.N w, st) ∧ callN Tb (n + 7) 24 [x, y] st = some (.tup (k.map Deed.D), st) := by
  have := f_all_cleared g fea0 a (fun m hm => (R_len E.q3 hm).2) E.q5 (n := n) (st := st)
  rw [num_co E.q3] at this
  exact this
end T68
end
section
set_option Elab.async false
set_option linter.all false
set_option autoImplicit false
set_option maxHeartbeats 4000000
set_option maxRecDepth 100000
namespace T68
open PySem Ro
open M68 (Sys Vec)

/-! ## the law's places, all of them -/
def eB (x0 : D) (S : Sys) (p q : D) (x7 x8 x9 x10 x11 x12 x13 x14 x15 x16 x17 x18 x19 x20 x21 : Option D) : Ro.Env := [some x0, some (.loc 0), some (.int (S.N : Int)), some (lawDb S.N S.r), some (coT S.N S.c), some p, some q, x7, x8, x9, x10, x11, x12, x13, x14, x15, x16, x17, x18, x19, x20, x21, none, none, none, none]
def clears (S : Sys) : List (List Nat) := (cnts S.r (List.range S.N) [[]]).filter fun its => decide (M68.Clear S fun m => its[m]?.getD 0)
theorem vec_get {N : Nat} {v : Vec} {m : Nat} (h : m < N) : (vec N v)[m]?.getD 0 = v m := by
  unfold vec
  rw [List.getElem?_map, List.getElem?_range h]
  rfl
theorem clear_eq {S : Sys} {u v : Vec} (h : ∀ m, m < S.N → u m = v m) : M68.Clear S u ↔ M68.Clear S v := by
  have key : ∀ {u v : Vec}, (∀ m, m < S.N → u m = v m) → M68.Clear S u → M68.Clear S v := by
    intro u v h k m hm
    rw [← h m hm, k m hm]
    unfold M68.F
    rw [recv_eq h]
  exact ⟨key h, key fun m hm => (h m hm).symm⟩
theorem mem_clears {S : Sys} {x : List Nat} : x ∈ clears S ↔ ∃ c : Vec, x = vec S.N c ∧ M68.Clear S c := by
  unfold clears
  rw [List.mem_filter, mem_cnts]
  constructor
  · rintro ⟨⟨v, rfl, _⟩, h⟩
    exact ⟨v, rfl, (clear_eq fun m hm => vec_get hm).mp (of_decide_eq_true h)⟩
  · rintro ⟨c, rfl, h⟩
    exact ⟨⟨c, rfl, fun m hm => fea_len (clear_fea h) hm⟩, decide_eq_true ((clear_eq fun m hm => vec_get hm).mpr h)⟩
def gF : Ex := (.comp false [14] (.v 14) (.seq (.call 35 (.cons (.var 2) (.cons (.var 3) .nil)))) (.cons (.call 36 (.cons (.var 3) (.cons (.var 4) (.cons (.var 14) .nil)))) .nil) (.var 14))
theorem fm_ti {g : D → Option D} {p : List Nat → Bool} : ∀ {l : List (List Nat)}, (∀ d ∈ l, g (ti d) = if p d then some (ti d) else none) → (l.map ti).filterMap g = (l.filter p).map ti
  | [], _ => rfl
  | d :: l, h => by
    rw [List.map_cons, List.filterMap_cons, h d (List.mem_cons_self ..), List.filter_cons]
    by_cases q : p d = true
    · rw [if_pos q, if_pos q, List.map_cons, fm_ti fun i hi => h i (List.mem_cons_of_mem _ hi)]
    · rw [if_neg q, if_neg q, fm_ti fun i hi => h i (List.mem_cons_of_mem _ hi)]
end T68
end
section
set_option Elab.async false
set_option linter.all false
set_option autoImplicit false
set_option maxHeartbeats 4000000
set_option maxRecDepth 100000
namespace T68
open PySem Ro
open M68 (Sys Vec)

def unI : D → Nat
  | .int i => i.toNat
  | _ => 0
def unT : D → List Nat
  | .tup xs => xs.map unI
  | _ => []
theorem un_ti {its : List Nat} : unT (ti its) = its := by
  unfold ti unT nD
  simp only [List.map_map]
  conv => rhs; rw [← List.map_id its]
  exact List.map_congr_left fun k _ => rfl
theorem clearsE {S : Sys} (hN : S.N < 7) (hr : ∀ m, m < S.N → (S.r m).length ≤ 3) {n : Nat} {st : Sto} {x0 p q : D} {x7 x8 x9 x10 x11 x12 x13 x14 x15 x16 x17 x18 x19 x20 x21 : Option D} : ev (callN Tb (n + 8)) gF (eB x0 S p q x7 x8 x9 x10 x11 x12 x13 x14 x15 x16 x17 x18 x19 x20 x21) st = some (.lst ((clears S).map ti), st) := by
  have h1 := f_counts hN hr (n := n + 7) (st := st)
  unfold gF
  rw [w_compP (xs := (cnts S.r (List.range S.N) [[]]).map ti) (ns := []) (st1 := st) (g := fun d => if decide (M68.Clear S fun m => (unT d)[m]?.getD 0) then some d else none) (by
      unfold eB
      generalize (cnts S.r (List.range S.N) [[]]).map ti = Y at h1 ⊢
      simp [h1]) (by
      intro x hx
      obtain ⟨its, hi, rfl⟩ := List.mem_map.mp hx
      obtain ⟨v, rfl, hv⟩ := mem_cnts.mp hi
      have h2 := f_law_is (S := S) (v := v) (n := n + 7) (st := st)
      rw [← ti_vec (v := v)] at h2
      have h3 : (M68.Clear S fun m => (vec S.N v)[m]?.getD 0) ↔ M68.Clear S v := clear_eq fun m hm => vec_get hm
      simp only [un_ti, h3]
      unfold eB
      generalize ti (vec S.N v) = Y at h2 ⊢
      by_cases c : M68.Clear S v
      · rw [decide_eq_true c] at h2 ⊢
        simp [tn, h2]
      · rw [decide_eq_false c] at h2 ⊢
        simp [tn, h2])]
  rw [fm_ti (p := fun its => decide (M68.Clear S fun m => its[m]?.getD 0)) (fun d _ => by rw [un_ti])]
  rfl
end T68
end
section
set_option Elab.async false
set_option linter.all false
set_option autoImplicit false
set_option maxHeartbeats 4000000
set_option maxRecDepth 100000
namespace T68
open PySem Ro
open M68 (Sys Vec)

/-! ## the law's checks -/
theorem eq_co_self {q N : Nat} {c e : Nat → Nat} (h : ∀ m, m < N → c m = e m) : eqD (q + 2) (coT N c) (coT N e) = some true := by
  rw [eq_cos, all_dec]
  exact congrArg some (decide_eq_true fun m hm => decide_eq_true (h m hm))
def dfE (i : Nat) : Ex := (.op (.tuple false) (.cons (.comp false [23, 24] (.t [(.v 23), (.v 24)]) (.zip (.cons (.var 3) (.cons (.op .sub (.cons (.var i) (.cons (.cst (.int 0)) .nil))) .nil))) .nil (.op (.bin .Sub) (.cons (.op .len (.cons (.var 23) .nil)) (.cons (.op .len (.cons (.var 24) .nil)) .nil)))) .nil))
theorem dfE_at {S : Sys} {v : Vec} (f : M68.Fea S v) {i : Nat} {C : CallF} {st : Sto} {x0 p q : D} {x7 x8 x9 x10 x11 x12 x13 x14 x15 x16 x17 x18 x19 x20 x21 : Option D} (hi : (eB x0 S p q x7 x8 x9 x10 x11 x12 x13 x14 x15 x16 x17 x18 x19 x20 x21)[i]? = some (some (toV S v))) : ev C (dfE i) (eB x0 S p q x7 x8 x9 x10 x11 x12 x13 x14 x15 x16 x17 x18 x19 x20 x21) st = some (coT S.N v, st) := by
  have i0 : ixD [dbS S v, coS S v] 0 = some (dbS S v) := rfl
  have ei : evi C (.zip (.cons (.var 3) (.cons (.op .sub (.cons (.var i) (.cons (.cst (.int 0)) .nil))) .nil))) (eB x0 S p q x7 x8 x9 x10 x11 x12 x13 x14 x15 x16 x17 x18 x19 x20 x21) st = some (tab S.N fun m => .tup [ktR (S.r m), .tup (nD (M68.R S v m))], [], st) := by
    have e3 : ev C (.var 3) (eB x0 S p q x7 x8 x9 x10 x11 x12 x13 x14 x15 x16 x17 x18 x19 x20 x21) st = some (lawDb S.N S.r, st) := by unfold eB; simp
    have e4 : ev C (.op .sub (.cons (.var i) (.cons (.cst (.int 0)) .nil))) (eB x0 S p q x7 x8 x9 x10 x11 x12 x13 x14 x15 x16 x17 x18 x19 x20 x21) st = some (dbS S v, st) := by
      simp [hi, toV, i0]
    generalize eB x0 S p q x7 x8 x9 x10 x11 x12 x13 x14 x15 x16 x17 x18 x19 x20 x21 = ρ at e3 e4
    simp only [w_zip, w_cons, w_nil, e3, e4, lawDb, zipD, rd_tup, dbS, rd_db, zip_tab]
    rfl
  have ec : ev C (.comp false [23, 24] (.t [(.v 23), (.v 24)]) (.zip (.cons (.var 3) (.cons (.op .sub (.cons (.var i) (.cons (.cst (.int 0)) .nil))) .nil))) .nil (.op (.bin .Sub) (.cons (.op .len (.cons (.var 23) .nil)) (.cons (.op .len (.cons (.var 24) .nil)) .nil)))) (eB x0 S p q x7 x8 x9 x10 x11 x12 x13 x14 x15 x16 x17 x18 x19 x20 x21) st = some (.lst (tab S.N fun m => .int (v m : Int)), st) := by
    rw [w_compM ei (g := fun x => match x with
      | .tup [.kt _ a, .tup b] => .int ((a.length : Int) - (b.length : Int))
      | _ => .non) (by
      intro x hx
      obtain ⟨m, hm, rfl⟩ := tab_mem hx
      unfold eB ktR
      simp [tn]), tab_map]
    refine congrArg some (congrArg (·, _) (congrArg D.lst (tab_ext fun m hm => ?_)))
    have h1 := R_len f hm
    rw [R0_eq] at h1
    show D.int _ = D.int _
    rw [nD_len, nD_len]
    refine congrArg D.int ?_
    omega
  unfold dfE
  exact ev_tuplst ec
end T68
end
section
set_option Elab.async false
set_option linter.all false
set_option autoImplicit false
set_option maxHeartbeats 4000000
set_option maxRecDepth 100000
namespace T68
open PySem Ro
open M68 (Sys Vec)

/-! ## conditions, put together -/
section
variable {C : CallF} {ρ : Ro.Env} {st st1 st2 : Sto} {a b c : Ex} {x y : D} {p q : Bool}
theorem if_no {t : Ss} (h : ev C c ρ st = some (.bl false, st1)) : exS C (.ifs c t .nil) ρ st = some (.nx ρ st1) := by
  simp [h]
theorem or_no (h1 : ev C a ρ st = some (.bl false, st1)) (h2 : ev C b ρ st1 = some (.bl false, st2)) : ev C (.or a b) ρ st = some (.bl false, st2) := by
  simp [h1, h2]
theorem and_yes (h1 : ev C a ρ st = some (.bl true, st1)) (h2 : ev C b ρ st1 = some (.bl true, st2)) : ev C (.and a b) ρ st = some (.bl true, st2) := by
  simp [h1, h2]
theorem not_of (h1 : ev C a ρ st = some (.bl p, st1)) : ev C (.not a) ρ st = some (.bl (!p), st1) := by
  simp [h1]
theorem ne_of (h1 : ev C a ρ st = some (x, st1)) (h2 : ev C b ρ st1 = some (y, st2)) (e : eqD dp (deref st2 x) (deref st2 y) = some p) : ev C (.op (.cmp .NotEq) (.cons a (.cons b .nil))) ρ st = some (.bl (!p), st2) := by
  simp only [w_op, w_cons, w_nil, h1, h2, p_cmp, c_ne, e, Option.map_some]
theorem eq_of (h1 : ev C a ρ st = some (x, st1)) (h2 : ev C b ρ st1 = some (y, st2)) (e : eqD dp (deref st2 x) (deref st2 y) = some p) : ev C (.op (.cmp .Eq) (.cons a (.cons b .nil))) ρ st = some (.bl p, st2) := by
  simp only [w_op, w_cons, w_nil, h1, h2, p_cmp, c_eq, e, Option.map_some]
theorem ni_of {xs : List D} (h1 : ev C a ρ st = some (x, st1)) (h2 : ev C b ρ st1 = some (.lst xs, st2)) (e : inL x xs = some p) : ev C (.op (.cmp .NotIn) (.cons a (.cons b .nil))) ρ st = some (.bl (!p), st2) := by
  simp only [w_op, w_cons, w_nil, h1, h2, p_cmp, c_ni, sq_lst, e, Option.map_some]
theorem in_of {xs : List D} (h1 : ev C a ρ st = some (x, st1)) (h2 : ev C b ρ st1 = some (.lst xs, st2)) (e : inL x xs = some p) : ev C (.op (.cmp .In) (.cons a (.cons b .nil))) ρ st = some (.bl p, st2) := by
  simp only [w_op, w_cons, w_nil, h1, h2, p_cmp, c_in, sq_lst, e, Option.map_some]
theorem ne_nil (h : ev C a ρ st = some (.lst [], st1)) : ev C (.op (.cmp .NotEq) (.cons a (.cons (.op (.lst false) .nil) .nil))) ρ st = some (.bl false, st1) :=
  ne_of (p := true) h (show ev C (.op (.lst false) .nil) ρ st1 = some (.lst [], st1) from by simp) (by rfl)
theorem ev_at {i : Nat} (h : ρ[i]? = some (some x)) : ev C (.var i) ρ st = some (x, st) := by
  simp only [w_var, h]
theorem asg_at {i : Nat} (h : ev C a ρ st = some (x, st1)) (hi : i < ρ.length) : exS C (.asg (.v i) a) ρ st = some (.nx (ρ.set i (some x)) st1) := by
  rw [x_asg, h]
  simp only [w_v, if_pos hi, Option.map_some]
end
/-- the first check -/
def iA : S := (.ifs (.or (.op (.cmp .NotEq) (.cons (.var 12) (.cons (dfE 5) .nil))) (.op (.cmp .NotEq) (.cons (.var 13) (.cons (dfE 6) .nil)))) (.cons (.ret (.cst (.bl false))) .nil) .nil)
theorem checkA {S : Sys} {v w : Vec} (fv : M68.Fea S v) (fw : M68.Fea S w) {C : CallF} {st : Sto} {x0 : D} {x7 x8 x9 x10 x11 x14 x15 x16 x17 x18 x19 x20 x21 : Option D} :
    exS C iA (eB x0 S (toV S v) (toV S w) x7 x8 x9 x10 x11 (some (coT S.N v)) (some (coT S.N w)) x14 x15 x16 x17 x18 x19 x20 x21) st = some (.nx (eB x0 S (toV S v) (toV S w) x7 x8 x9 x10 x11 (some (coT S.N v)) (some (coT S.N w)) x14 x15 x16 x17 x18 x19 x20 x21) st) :=
  if_no (or_no (ne_of (p := true) (ev_at rfl) (dfE_at fv rfl) (eq_co_self fun m _ => rfl)) (ne_of (p := true) (ev_at rfl) (dfE_at fw rfl) (eq_co_self fun m _ => rfl)))
end T68
end
section
set_option Elab.async false
set_option linter.all false
set_option autoImplicit false
set_option maxHeartbeats 4000000
set_option maxRecDepth 100000
namespace T68
open PySem Ro
open M68 (Sys Vec)

/-! ## among the clearings -/
theorem eq_ti {q : Nat} {a b : List Nat} : eqD (q + 2) (ti a) (ti b) = some (decide (a = b)) := eq_row
theorem in_ti {a : List Nat} : ∀ {l : List (List Nat)}, inL (ti a) (l.map ti) = some (decide (a ∈ l))
  | [] => by simp
  | b :: l => by
    rw [List.map_cons, inL, show eqD dp (ti b) (ti a) = some (decide (b = a)) from eq_ti (q := 38), in_ti]
    simp only []
    refine congrArg some ?_
    rw [Bool.eq_iff_iff]
    simp only [Bool.or_eq_true, decide_eq_true_eq, List.mem_cons]
    exact ⟨fun h => h.imp Eq.symm id, fun h => h.imp Eq.symm id⟩
theorem in_clears {S : Sys} {v : Vec} : inL (coT S.N v) ((clears S).map ti) = some (decide (M68.Clear S v)) := by
  rw [← ti_vec, in_ti]
  refine congrArg some ?_
  rw [Bool.eq_iff_iff, decide_eq_true_eq, decide_eq_true_eq, mem_clears]
  constructor
  · rintro ⟨c, e, h⟩
    refine (clear_eq fun m hm => ?_).mp h
    rw [← vec_get (v := v) hm, ← vec_get (v := c) hm, e]
  · exact fun h => ⟨v, rfl, h⟩
/-- what lies between -/
def gM : Ex := (.comp false [23, 24, 25] (.t [(.v 23), (.v 24), (.v 25)]) (.zip (.cons (.var 12) (.cons (.var 14) (.cons (.var 13) .nil)))) (.cons (.not (.chain .LtE .LtE (.var 23) (.var 24) (.var 25))) .nil) (.cst (.int 1)))
def gN : Ex := (.comp false [14] (.v 14) (.seq (.var 11)) (.cons (.op (.cmp .NotEq) (.cons gM (.cons (.op (.lst false) .nil) .nil))) .nil) (.var 14))
theorem fm_none {α β : Type} {g : α → Option β} : ∀ {l : List α}, (∀ x ∈ l, g x = none) → l.filterMap g = []
  | [], _ => rfl
  | x :: l, h => by
    rw [List.filterMap_cons, h x (List.mem_cons_self ..)]
    exact fm_none fun y hy => h y (List.mem_cons_of_mem _ hy)
theorem midE {S : Sys} {v c w : Vec} (h1 : M68.Le S v c) (h2 : M68.Le S c w) {C : CallF} {st : Sto} {ρ : Ro.Env} (hl : ρ.length = 26) (e1 : ρ[12]? = some (some (coT S.N v))) (e2 : ρ[14]? = some (some (coT S.N c))) (e3 : ρ[13]? = some (some (coT S.N w))) : ev C gM ρ st = some (.lst [], st) := by
  unfold gM
  rw [w_compP (xs := tab S.N fun m => .tup [.int (v m : Int), .int (c m : Int), .int (w m : Int)]) (ns := []) (st1 := st) (g := fun _ => none) (by
    simp only [w_zip, w_cons, w_nil, w_var, e1, e2, e3, coT, zipD, rd_tup, zip3_tab]
    rfl) (by
    intro x hx
    obtain ⟨m, hm, rfl⟩ := tab_mem hx
    have a1 := h1 m hm
    have a2 := h2 m hm
    have q1 : ((v m : Int) ≤ (c m : Int)) := by omega
    have q2 : ((c m : Int) ≤ (w m : Int)) := by omega
    simp [tn, wipeE, hl, q1, q2])]
  rw [fm_none fun _ _ => rfl]
theorem midsE {S : Sys} {v w : Vec} (hv : ∀ c, M68.Clear S c → M68.Le S v c) (hw : ∀ c, M68.Clear S c → M68.Le S c w) {C : CallF} {st : Sto} {ρ : Ro.Env} (hl : ρ.length = 26) (e1 : ρ[12]? = some (some (coT S.N v))) (e2 : ρ[11]? = some (some (.lst ((clears S).map ti)))) (e3 : ρ[13]? = some (some (coT S.N w))) : ev C gN ρ st = some (.lst [], st) := by
  unfold gN
  rw [w_compP (xs := (clears S).map ti) (ns := []) (st1 := st) (g := fun _ => none) (by simp only [w_seq, w_var, e2, rd_lst]; rfl) (by
    intro x hx
    obtain ⟨its, hi, rfl⟩ := List.mem_map.mp hx
    obtain ⟨c, rfl, hc⟩ := mem_clears.mp hi
    have h14 : (14 : Nat) < (ρ.set 14 none).length := by rw [List.length_set, hl]; omega
    have e := midE (C := C) (st := st) (hv c hc) (hw c hc) (ρ := (ρ.set 14 none).set 14 (some (coT S.N c))) (by rw [List.length_set, List.length_set, hl]) (by rw [List.getElem?_set_ne (by decide), List.getElem?_set_ne (by decide)]; exact e1) (by rw [List.getElem?_set_self h14]) (by rw [List.getElem?_set_ne (by decide), List.getElem?_set_ne (by decide)]; exact e3)
    rw [ti_vec]
    unfold tn
    rw [wipeE, wipeE, w_v, if_pos h14]
    simp only [w_cons, w_nil, ne_nil e, te_one, tr_bl])]
  rw [fm_none fun _ _ => rfl]
/-- the second check -/
def iB : S := (.ifs (.or (.op (.cmp .NotIn) (.cons (.var 12) (.cons (.var 11) .nil))) (.or (.op (.cmp .NotIn) (.cons (.var 13) (.cons (.var 11) .nil))) (.op (.cmp .NotEq) (.cons gN (.cons (.op (.lst false) .nil) .nil))))) (.cons (.ret (.cst (.bl false))) .nil) .nil)
theorem checkB {S : Sys} {v w : Vec} (cv : M68.Clear S v) (cw : M68.Clear S w) (hv : ∀ c, M68.Clear S c → M68.Le S v c) (hw : ∀ c, M68.Clear S c → M68.Le S c w) {C : CallF} {st : Sto} {ρ : Ro.Env} (hl : ρ.length = 26) (e1 : ρ[12]? = some (some (coT S.N v))) (e2 : ρ[11]? = some (some (.lst ((clears S).map ti)))) (e3 : ρ[13]? = some (some (coT S.N w))) : exS C iB ρ st = some (.nx ρ st) := by
  have i1 := in_clears (S := S) (v := v)
  have i2 := in_clears (S := S) (v := w)
  rw [decide_eq_true cv] at i1
  rw [decide_eq_true cw] at i2
  exact if_no (or_no (ni_of (ev_at e1) (ev_at e2) i1) (or_no (ni_of (ev_at e3) (ev_at e2) i2) (ne_nil (midsE hv hw hl e1 e2 e3))))
end T68
end
section
set_option Elab.async false
set_option linter.all false
set_option autoImplicit false
set_option maxHeartbeats 4000000
set_option maxRecDepth 100000
namespace T68
open PySem Ro
open M68 (Sys Vec)

/-! ## what the law's places hold from here on -/
structure LE (S : Sys) (v w : Vec) (ρ : Ro.Env) : Prop where
  hl : ρ.length = 26
  h1 : ρ[1]? = some (some (.loc 0))
  h2 : ρ[2]? = some (some (.int (S.N : Int)))
  h3 : ρ[3]? = some (some (lawDb S.N S.r))
  h4 : ρ[4]? = some (some (coT S.N S.c))
  h5 : ρ[5]? = some (some (toV S v))
  h6 : ρ[6]? = some (some (toV S w))
  h11 : ρ[11]? = some (some (.lst ((clears S).map ti)))
  h12 : ρ[12]? = some (some (coT S.N v))
  h13 : ρ[13]? = some (some (coT S.N w))
theorem LE.set {S : Sys} {v w : Vec} {ρ : Ro.Env} (h : LE S v w ρ) {i : Nat} {x : Option D} (hi : 14 ≤ i) : LE S v w (ρ.set i x) :=
  ⟨by rw [List.length_set]; exact h.hl, by rw [List.getElem?_set_ne (by omega)]; exact h.h1, by rw [List.getElem?_set_ne (by omega)]; exact h.h2, by rw [List.getElem?_set_ne (by omega)]; exact h.h3,
    by rw [List.getElem?_set_ne (by omega)]; exact h.h4, by rw [List.getElem?_set_ne (by omega)]; exact h.h5, by rw [List.getElem?_set_ne (by omega)]; exact h.h6,
    by rw [List.getElem?_set_ne (by omega)]; exact h.h11, by rw [List.getElem?_set_ne (by omega)]; exact h.h12, by rw [List.getElem?_set_ne (by omega)]; exact h.h13⟩
theorem LE.self {S : Sys} {v w : Vec} {ρ : Ro.Env} (h : LE S v w ρ) {i : Nat} (hi : i < 26) {x : Option D} : (ρ.set i x)[i]? = some x := List.getElem?_set_self (by rw [h.hl]; exact hi)
/-! ## the law's two loops over what was picked -/
def pkE (e : Ex) (k : Int) : It := (.seq (.call 32 (.cons (.var 1) (.cons e (.cons (.cst (.int k)) .nil)))))
theorem pickE {xs : List D} {e : Ex} {k n q : Nat} (hk : k < 1000) (hq : q + 1000 < 1000000) (hx : xs.length < 1000000) (nx : nolL xs = true) {ρ : Ro.Env} (h1 : ρ[1]? = some (some (.loc 0))) {s : Sto} (h : TinOk q s) (he : ev (callN Tb (n + 2)) e ρ s = some (.lst xs, s)) :
    ∃ (F : List D) (s' : Sto), TinOk (q + k) s' ∧ (∀ x ∈ F, x ∈ xs) ∧ evi (callN Tb (n + 2)) (pkE e (k : Int)) ρ s = some (F, [], s') := by
  obtain ⟨F, s', h', hF, e1⟩ := f_pick hk hq hx nx h (n := n)
  refine ⟨F, s', h', hF, ?_⟩
  unfold pkE
  simp only [w_seq, w_call, w_cons, w_nil, w_cst, ev_at h1, he, e1, rd_lst, Option.map_some]
theorem cnts_len {r : Nat → List Nat} : ∀ {l : List Nat} {f : List (List Nat)}, (∀ m ∈ l, (r m).length ≤ 3) → (cnts r l f).length ≤ 4 ^ l.length * f.length
  | [], f, _ => by
    show f.length ≤ _
    simp
  | m :: l, f, h => by
    have h1 := step_len (h m (List.mem_cons_self ..)) (l := f)
    have h2 := cnts_len (r := r) (l := l) (f := stepR (r m).length f) fun k hk => h k (List.mem_cons_of_mem _ hk)
    have h3 : 4 ^ l.length * (stepR (r m).length f).length ≤ 4 ^ l.length * (4 * f.length) := Nat.mul_le_mul_left _ h1
    show (cnts r l (stepR (r m).length f)).length ≤ _
    rw [List.length_cons, Nat.pow_succ, Nat.mul_assoc]
    exact Nat.le_trans h2 h3
theorem cnts_few {S : Sys} (hN : S.N < 7) (hr : ∀ m, m < S.N → (S.r m).length ≤ 3) : (cnts S.r (List.range S.N) [[]]).length < 1000000 := by
  have h1 := cnts_len (r := S.r) (l := List.range S.N) (f := [[]]) fun m hm => hr m (List.mem_range.mp hm)
  rw [List.length_range, List.length_singleton, Nat.mul_one] at h1
  have h2 : 4 ^ S.N ≤ 4 ^ 6 := Nat.pow_le_pow_right (by decide) (by omega)
  have h3 : 4 ^ 6 < 1000000 := by decide
  omega
def bX : Ss := (.cons (.ifs (.op (.cmp .NotEq) (.cons (.call 26 (.cons (.var 3) (.cons (.var 4) (.cons (.var 14) .nil)))) (.cons (.op (.cmp .In) (.cons (.var 14) (.cons (.var 11) .nil))) .nil))) (.cons (.ret (.cst (.bl false)))
  .nil) .nil)
  .nil)
def bY : Ss := (.cons (.ifs (.not (.call 26 (.cons (.var 3) (.cons (.var 4) (.cons (.var 14) .nil))))) (.cons (.ret (.cst (.bl false)))
  .nil) .nil)
  .nil)
theorem callC {S : Sys} (g : Good S) {v w c : Vec} (hc : ∀ m, m < S.N → c m ≤ (S.r m).length) {ρ : Ro.Env} (h : LE S v w ρ) (h14 : ρ[14]? = some (some (coT S.N c))) {n : Nat} {st : Sto} : ev (callN Tb (n + 8)) (.call 26 (.cons (.var 3) (.cons (.var 4) (.cons (.var 14) .nil)))) ρ st = some (.bl (decide (M68.Clear S c)), st) := by
  have e := f_is_clearing g.ok as_law (asCo (N := S.N) (c := S.c)) hc (n := n + 1) (st := st)
  simp only [w_call, w_cons, w_nil, ev_at h.h3, ev_at h.h4, ev_at h14, e]
theorem loopX {S : Sys} (g : Good S) {v w : Vec} {n : Nat} {st0 s : Sto} : ∀ (F : List D) (ρ : Ro.Env), LE S v w ρ → (∀ x ∈ F, ∃ c : Vec, x = coT S.N c ∧ ∀ m, m < S.N → c m ≤ (S.r m).length) →
    ∃ ρ', LE S v w ρ' ∧ fLoop (ft (callN Tb (n + 8)) false (.v 14) bX [] st0) F ρ s = some (.nx ρ' s)
  | [], ρ, h, _ => ⟨ρ, h, rfl⟩
  | x :: F, ρ, h, hF => by
    obtain ⟨c, rfl, hc⟩ := hF x (List.mem_cons_self ..)
    have h' : LE S v w (ρ.set 14 (some (coT S.N c))) := h.set (by decide)
    have h14 : (ρ.set 14 (some (coT S.N c)))[14]? = some (some (coT S.N c)) := h.self (by decide)
    obtain ⟨ρ', k, e⟩ := loopX g (n := n) (st0 := st0) (s := s) F (ρ.set 14 (some (coT S.N c))) h' fun y hy => hF y (List.mem_cons_of_mem _ hy)
    refine ⟨ρ', k, ?_⟩
    rw [← e]
    refine fLoop_go ?_
    unfold ft
    have lt : 14 < ρ.length := by rw [h.hl]; decide
    rw [w_v, if_pos lt]
    have i : exS (callN Tb (n + 8)) (.ifs (.op (.cmp .NotEq) (.cons (.call 26 (.cons (.var 3) (.cons (.var 4) (.cons (.var 14) .nil)))) (.cons (.op (.cmp .In) (.cons (.var 14) (.cons (.var 11) .nil))) .nil))) (.cons (.ret (.cst (.bl false))) .nil) .nil) (ρ.set 14 (some (coT S.N c))) s = some (.nx (ρ.set 14 (some (coT S.N c))) s) :=
      if_no (ne_of (p := true) (callC g hc h' h14) (in_of (ev_at h14) (ev_at h'.h11) in_clears) ((e_bl (q := 39)).trans (by simp)))
    simp only [show exSs (callN Tb (n + 8)) bX (ρ.set 14 (some (coT S.N c))) s = _ from (ss_nx i).trans z_nil, turn_no, grdF_nil]
theorem loopY {S : Sys} (g : Good S) {v w : Vec} {n : Nat} {st0 s : Sto} : ∀ (F : List D) (ρ : Ro.Env), LE S v w ρ → (∀ x ∈ F, ∃ c : Vec, x = coT S.N c ∧ M68.Clear S c) →
    ∃ ρ', LE S v w ρ' ∧ fLoop (ft (callN Tb (n + 8)) false (.v 14) bY [] st0) F ρ s = some (.nx ρ' s)
  | [], ρ, h, _ => ⟨ρ, h, rfl⟩
  | x :: F, ρ, h, hF => by
    obtain ⟨c, rfl, hc⟩ := hF x (List.mem_cons_self ..)
    have h' : LE S v w (ρ.set 14 (some (coT S.N c))) := h.set (by decide)
    have h14 : (ρ.set 14 (some (coT S.N c)))[14]? = some (some (coT S.N c)) := h.self (by decide)
    obtain ⟨ρ', k, e⟩ := loopY g (n := n) (st0 := st0) (s := s) F (ρ.set 14 (some (coT S.N c))) h' fun y hy => hF y (List.mem_cons_of_mem _ hy)
    refine ⟨ρ', k, ?_⟩
    rw [← e]
    refine fLoop_go ?_
    unfold ft
    have lt : 14 < ρ.length := by rw [h.hl]; decide
    rw [w_v, if_pos lt]
    have cc := callC g (fun m hm => fea_len (clear_fea hc) hm) h' h14 (n := n) (st := s)
    rw [decide_eq_true hc] at cc
    simp only [show exSs (callN Tb (n + 8)) bY (ρ.set 14 (some (coT S.N c))) s = _ from (ss_nx (if_no (not_of cc))).trans z_nil, turn_no, grdF_nil]
def sX : S := (.for false (.v 14) (pkE (.call 35 (.cons (.var 2) (.cons (.var 3) .nil))) 12) bX)
def sY : S := (.for false (.v 14) (pkE (.var 11) 3) bY)
theorem stepX {S : Sys} (g : Good S) (hN : S.N < 7) (hr : ∀ m, m < S.N → (S.r m).length ≤ 3) {v w : Vec} {n q : Nat} (hq : q + 1000 < 1000000) {s : Sto} (h : TinOk q s) {ρ : Ro.Env} (l : LE S v w ρ) : ∃ ρ' s', LE S v w ρ' ∧ TinOk (q + 12) s' ∧ exS (callN Tb (n + 8)) sX ρ s = some (.nx ρ' s') := by
  have h1 := f_counts hN hr (n := n + 7) (st := s)
  obtain ⟨F, s', h', hF, e⟩ := pickE (xs := (cnts S.r (List.range S.N) [[]]).map ti) (e := .call 35 (.cons (.var 2) (.cons (.var 3) .nil))) (k := 12) (n := n + 6) (by decide) hq (by rw [List.length_map]; exact cnts_few hN hr) (nolL_of fun x hx => by
    obtain ⟨its, _, rfl⟩ := List.mem_map.mp hx
    exact nol_ti) l.h1 h (by simp only [w_call, w_cons, w_nil, ev_at l.h2, ev_at l.h3, h1])
  obtain ⟨ρ', k, e2⟩ := loopX g (n := n) (st0 := s') (s := s') F ρ l fun x hx => by
    obtain ⟨its, hi, rfl⟩ := List.mem_map.mp (hF x hx)
    obtain ⟨c, rfl, hc⟩ := mem_cnts.mp hi
    exact ⟨c, ti_vec, hc⟩
  refine ⟨ρ', s', k, h', ?_⟩
  unfold sX
  rw [x_for]
  have e' : evi (callN Tb (n + 8)) (pkE (.call 35 (.cons (.var 2) (.cons (.var 3) .nil))) 12) ρ s = some (F, [], s') := e
  rw [e']
  exact e2
theorem stepY {S : Sys} (g : Good S) (hN : S.N < 7) (hr : ∀ m, m < S.N → (S.r m).length ≤ 3) {v w : Vec} {n q : Nat} (hq : q + 1000 < 1000000) {s : Sto} (h : TinOk q s) {ρ : Ro.Env} (l : LE S v w ρ) : ∃ ρ' s', LE S v w ρ' ∧ TinOk (q + 3) s' ∧ exS (callN Tb (n + 8)) sY ρ s = some (.nx ρ' s') := by
  obtain ⟨F, s', h', hF, e⟩ := pickE (xs := (clears S).map ti) (e := .var 11) (k := 3) (n := n + 6) (by decide) hq (by
    rw [List.length_map]
    exact Nat.lt_of_le_of_lt (List.length_filter_le _ _) (cnts_few hN hr)) (nolL_of fun x hx => by
    obtain ⟨its, _, rfl⟩ := List.mem_map.mp hx
    exact nol_ti) l.h1 h (ev_at l.h11)
  obtain ⟨ρ', k, e2⟩ := loopY g (n := n) (st0 := s') (s := s') F ρ l fun x hx => by
    obtain ⟨its, hi, rfl⟩ := List.mem_map.mp (hF x hx)
    obtain ⟨c, rfl, hc⟩ := mem_clears.mp hi
    exact ⟨c, ti_vec, hc⟩
  refine ⟨ρ', s', k, h', ?_⟩
  unfold sY
  rw [x_for]
  have e' : evi (callN Tb (n + 8)) (pkE (.var 11) 3) ρ s = some (F, [], s') := e
  rw [e']
  exact e2
end T68
end
section
set_option Elab.async false
set_option linter.all false
set_option autoImplicit false
set_option maxHeartbeats 4000000
set_option maxRecDepth 100000
namespace T68
open PySem Ro
open M68 (Sys Vec)

/-! ## deeds that lead there -/
theorem eq_toV {S : Sys} {a b : Vec} (fa : M68.Fea S a) (fb : M68.Fea S b) : eqD dp (toV S a) (toV S b) = some (decide (∀ m, m < S.N → a m = b m)) := eq_states (q := 36) (.inl rfl) fa fb
def gP : Ex := (.comp false [14] (.v 14) (.seq (.var 15)) (.cons (.op (.cmp .NotEq) (.cons (.op .sub (.cons (.var 14) (.cons (.cst (.int 0)) .nil))) (.cons (.cst (.str "pay")) .nil))) .nil) (.var 14))
theorem onlyP {l : List Nat} {C : CallF} {st : Sto} {ρ : Ro.Env} (hl : ρ.length = 26) (h : ρ[15]? = some (some (.tup (l.map payD)))) : ev C gP ρ st = some (.lst [], st) := by
  unfold gP
  rw [w_compP (xs := l.map payD) (ns := []) (st1 := st) (g := fun _ => none) (by simp only [w_seq, ev_at h, rd_tup]; rfl) (by
    intro x hx
    obtain ⟨m, _, rfl⟩ := List.mem_map.mp hx
    have h14 : (14 : Nat) < (ρ.set 14 none).length := by rw [List.length_set, hl]; omega
    have i0 : ixD [D.str "pay", .int (m : Int)] 0 = some (.str "pay") := rfl
    unfold tn
    rw [wipeE, wipeE, w_v, if_pos h14]
    have e := ev_at (C := C) (st := st) (List.getElem?_set_self h14 (a := some (payD m)))
    have j0 : ixD [D.str "pay", .int (m : Int)] 0 = some (.str "pay") := rfl
    have pd : payD m = .tup [D.str "pay", .int (m : Int)] := rfl
    generalize payD m = Y at e pd ⊢
    have ei : ev C (.op .sub (.cons (.var 14) (.cons (.cst (.int 0)) .nil))) ((ρ.set 14 none).set 14 (some Y)) st = some (.str "pay", st) := by
      simp only [w_op, w_cons, w_nil, w_cst, e]
      rw [pd, p_sub, sq_tup]
      simp only [i0, Option.map_some]
    have en : ev C (.op (.cmp .NotEq) (.cons (.op .sub (.cons (.var 14) (.cons (.cst (.int 0)) .nil))) (.cons (.cst (.str "pay")) .nil))) ((ρ.set 14 none).set 14 (some Y)) st = some (.bl false, st) :=
      ne_of (p := true) ei (w_cst (d := .str "pay")) ((e_str (q := 39)).trans (by simp))
    simp only [w_cons, w_nil, en, te_one, tr_bl])]
  rw [fm_none fun _ _ => rfl]
theorem pay_map {l : List Nat} : (l.map Deed.pay).map Deed.D = l.map payD := by
  rw [List.map_map]
  rfl
def sP : S := (.par [15, 16] (.cons (.call 23 (.cons (.var 3) (.cons (.var 4) .nil))) (.cons (.call 24 (.cons (.var 3) (.cons (.var 4) .nil))) .nil)))
def iP : S := (.ifs (.or (.op (.cmp .NotEq) (.cons (.call 18 (.cons (.var 3) (.cons (.var 4) (.cons (.var 15) .nil)))) (.cons (.var 5) .nil))) (.op (.cmp .NotEq) (.cons gP (.cons (.op (.lst false) .nil) .nil)))) (.cons (.ret (.cst (.bl false))) .nil) .nil)
def iQ : S := (.ifs (.or (.op (.cmp .NotEq) (.cons (.call 18 (.cons (.var 3) (.cons (.var 4) (.cons (.var 16) .nil)))) (.cons (.var 6) .nil))) (.op (.cmp .NotEq) (.cons (.op (.cmp .Is) (.cons (.call 25 (.cons (.var 3) (.cons (.var 4) .nil))) (.cons (.cst .non) .nil))) (.cons (.op (.cmp .Eq) (.cons (.var 5) (.cons (.var 6) .nil))) .nil)))) (.cons (.ret (.cst (.bl false))) .nil) .nil)
section
variable {S : Sys} {v w : Vec} {l : List Nat} {k : List Deed}
theorem stepP (g : Good S) (E : Ends S v l w k) {n : Nat} {st : Sto} {ρ : Ro.Env} (h : LE S v w ρ) : ∃ ρ', LE S v w ρ' ∧ ρ'[15]? = some (some (.tup (l.map payD))) ∧ ρ'[16]? = some (some (.tup (k.map Deed.D))) ∧ exS (callN Tb (n + 8)) sP ρ st = some (.nx ρ' st) := by
  have e1 := (ask_paid g E asks_law (n := n + 1) (st := st)).2.2.1
  have e2 := (ask_cleared g E asks_law (n := n + 1) (st := st)).2.2
  have h' := h.set (i := 15) (x := some (.tup (l.map payD))) (by decide)
  refine ⟨(ρ.set 15 (some (.tup (l.map payD)))).set 16 (some (.tup (k.map Deed.D))), h'.set (by decide), ?_, h'.self (by decide), ?_⟩
  · rw [List.getElem?_set_ne (by decide)]
    exact h.self (by decide)
  · have l1 : 15 < ρ.length := by rw [h.hl]; decide
    have l2 : 16 < (ρ.set 15 (some (.tup (l.map payD)))).length := by rw [h'.hl]; decide
    unfold sP
    simp only [x_par, w_cons, w_nil, w_call, ev_at h.h3, ev_at h.h4, e1, e2, w_set, w_set0, if_pos l1, if_pos l2, Option.map_some]
theorem checkP (g : Good S) (E : Ends S v l w k) {n : Nat} {st : Sto} {ρ : Ro.Env} (h : LE S v w ρ) (h15 : ρ[15]? = some (some (.tup (l.map payD)))) : exS (callN Tb (n + 8)) iP ρ st = some (.nx ρ st) := by
  have e1 := f_behind g fea0 asks_law E.p1.run (n := n) (st := st)
  rw [pay_map] at e1
  have c1 : ev (callN Tb (n + 8)) (.call 18 (.cons (.var 3) (.cons (.var 4) (.cons (.var 15) .nil)))) ρ st = some (toV S v, st) := by
    simp only [w_call, w_cons, w_nil, ev_at h.h3, ev_at h.h4, ev_at h15, e1]
  exact if_no (or_no (ne_of (p := true) c1 (ev_at h.h5) ((eq_toV E.p3 E.p3).trans (congrArg some (decide_eq_true fun m _ => rfl)))) (ne_nil (onlyP h.hl h15)))
theorem ring_none (g : Good S) (E : Ends S v l w k) : rings S v = [] ↔ ∀ m, m < S.N → v m = w m := by
  constructor
  · intro e
    exact clear_end g E.q3 E.q2 E.q4 E.p3 E.p2 e
  · intro h
    cases q : rings S v with
    | nil => rfl
    | cons L r =>
      obtain ⟨m, hm, lt⟩ := ring_more g E.p3 (fun c f => all_below g E.q3 E.q2 E.q4 f) q
      have := h m hm
      omega
theorem checkQ (g : Good S) (E : Ends S v l w k) {n : Nat} {st : Sto} {ρ : Ro.Env} (h : LE S v w ρ) (h16 : ρ[16]? = some (some (.tup (k.map Deed.D)))) : exS (callN Tb (n + 8)) iQ ρ st = some (.nx ρ st) := by
  have e1 := f_behind g fea0 asks_law E.q1 (n := n) (st := st)
  have c1 : ev (callN Tb (n + 8)) (.call 18 (.cons (.var 3) (.cons (.var 4) (.cons (.var 16) .nil)))) ρ st = some (toV S w, st) := by
    simp only [w_call, w_cons, w_nil, ev_at h.h3, ev_at h.h4, ev_at h16, e1]
  have e2 := (ask_paid g E asks_law (n := n + 1) (st := st)).2.2.2
  have c2 : ev (callN Tb (n + 8)) (.op (.cmp .Is) (.cons (.call 25 (.cons (.var 3) (.cons (.var 4) .nil))) (.cons (.cst .non) .nil))) ρ st = some (.bl (decide (∀ m, m < S.N → v m = w m)), st) := by
    simp only [w_op, w_call, w_cons, w_nil, w_cst, ev_at h.h3, ev_at h.h4, e2, p_cmp, c_is, Option.map_some]
    have rn := ring_none g E
    cases q : rings S v with
    | nil => rw [decide_eq_true (rn.mp q)]; rfl
    | cons L r =>
      rw [decide_eq_false fun x => by rw [rn.mpr x] at q; cases q]
      rfl
  exact if_no (or_no (ne_of (p := true) c1 (ev_at h.h6) ((eq_toV E.q3 E.q3).trans (congrArg some (decide_eq_true fun m _ => rfl)))) (ne_of (p := true) c2 (eq_of (ev_at h.h5) (ev_at h.h6) (eq_toV E.p3 E.q3)) ((e_bl (q := 39)).trans (by simp))))
end
end T68
end
section
set_option Elab.async false
set_option linter.all false
set_option autoImplicit false
set_option maxHeartbeats 4000000
set_option maxRecDepth 100000
namespace T68
open PySem Ro
open M68 (Sys Vec)

/-! ## a coin more -/
theorem Road.up {S : Sys} {q : Nat} {u w : Vec} {h e : Nat} {l : List Nat} (r : Road S u h l e w) : Road (up S q) u h l e w := by
  induction r with
  | stop p => exact .stop p
  | go p _ ih => exact .go p ih
theorem Road.head {S : Sys} {u w : Vec} {h e : Nat} {l : List Nat} (r : Road S u h l e w) : ∃ t, l ++ [e] = h :: t := by
  cases r with
  | stop p => exact ⟨[], rfl⟩
  | @go _ _ _ _ l p r => exact ⟨l ++ [e], rfl⟩
/-- what the end with a coin more is -/
structure More (S : Sys) (v : Vec) (k : Nat) (l : List Nat) (e : Nat) (z : Vec) : Prop where
  e1 : e < S.N
  z1 : ∀ m, m < S.N → z m = v m + l.count m
  z2 : ∀ m, m < S.N → M68.Cn (up S k) z m = M68.Cn S v m + if m = e then 1 else 0
theorem more_of {S : Sys} (g : Good S) {v w : Vec} {l0 : List Nat} {k0 : List Deed} (E : Ends S v l0 w k0) {k : Nat} (hk : k < S.N) {z zw : Vec} {lz : List Nat} {kz : List Deed} (Z : Ends (up S k) z lz zw kz) {l : List Nat} {e : Nat} {u : Vec} (r : Road S v k l e u) : More S v k l e z := by
  obtain ⟨k1, k2, k3, k4, k5, k6⟩ := road_end (S := up S k) (base := M68.Cn S v) g.ok r.up hk (up_fea E.p3) (fun m hm => up_Cn E.p3 hm) fun m hm q => by
    have := E.p2 m hm
    unfold M68.payer at this
    have h2 : ¬ 0 < M68.Cn S v m := fun c => this ⟨q, c⟩
    omega
  have le1 : M68.Le (up S k) z u := least Z.p1 (M68.noPay_clear k2 k4)
  have cz : M68.Clear (up S k) z := M68.noPay_clear Z.p3 Z.p2
  have le2 : M68.Le (up S k) u z := k5 z cz (least (up_run E.p1) cz)
  have eq : ∀ m, m < S.N → z m = u m := eq_of_le (S := up S k) le1 le2
  exact ⟨k1, fun m hm => by rw [eq m hm, k6 m], fun m hm => by rw [Cn_eq (S := up S k) eq hm, k3 m hm]⟩
theorem cut_but {xs : List D} {x : D} : cutD (xs ++ [x]) none (some (-1)) = xs := by
  unfold cutD
  have h2 : HT.sIx (xs ++ [x]).length 0 none = 0 := rfl
  have h1 : HT.sIx (xs ++ [x]).length (xs ++ [x]).length (some (-1)) = xs.length := by
    show (if (-1 : Int) < 0 then ((-1 : Int) + ((xs ++ [x]).length : Int)).toNat else min (-1 : Int).toNat (xs ++ [x]).length) = xs.length
    rw [if_pos (by decide), List.length_append, List.length_singleton]
    omega
  rw [h1, h2]
  simp
def mE : Ex := (.op (.bin .Add) (.cons (.op (.bin .Add) (.cons (.slice (.var 4) .nil (.cons (.var 17) .nil)) (.cons (.op .tup (.cons (.op (.bin .Add) (.cons (.op .sub (.cons (.var 4) (.cons (.var 17) .nil))) (.cons (.cst (.int 1)) .nil))) .nil)) .nil))) (.cons (.slice (.var 4) (.cons (.op (.bin .Add) (.cons (.var 17) (.cons (.cst (.int 1)) .nil))) .nil) .nil) .nil)))
theorem set_mid {α : Type} : ∀ {xs : List α} {k : Nat} {x : α}, k < xs.length → xs.take k ++ [x] ++ xs.drop (k + 1) = xs.set k x
  | [], k, x, h => by simp at h
  | y :: ys, 0, x, _ => rfl
  | y :: ys, k + 1, x, h => by
    rw [List.take_succ_cons, List.drop_succ_cons, List.set_cons_succ, List.cons_append, List.cons_append, set_mid (by simpa using h)]
theorem moreE {N : Nat} (hN : N < 500) {c : Nat → Nat} {k : Nat} (hk : k < N) {C : CallF} {st : Sto} {ρ : Ro.Env} (h4 : ρ[4]? = some (some (coT N c))) (h17 : ρ[17]? = some (some (.int (k : Int)))) : ev C mE ρ st = some (coT N (fun m => c m + if m = k then 1 else 0), st) := by
  have c1 : ev C (.slice (.var 4) .nil (.cons (.var 17) .nil)) ρ st = some (.tup ((tab N fun m => .int (c m : Int)).take k), st) := by
    simp only [w_slice, w_cons, w_nil, ev_at h4, ev_at h17, pt_nil, pt_int, coT, de_tup, cut_to]
  have c2 : ev C (.op .tup (.cons (.op (.bin .Add) (.cons (.op .sub (.cons (.var 4) (.cons (.var 17) .nil))) (.cons (.cst (.int 1)) .nil))) .nil)) ρ st = some (.tup [.int ((c k + 1 : Nat) : Int)], st) := by
    simp only [w_op, w_cons, w_nil, w_cst, ev_at h4, ev_at h17, p_sub, coT, sq_tup, tab_at hk, Option.map_some, p_bin, b_add, p_tup1]
    rfl
  have c3 : ev C (.slice (.var 4) (.cons (.op (.bin .Add) (.cons (.var 17) (.cons (.cst (.int 1)) .nil))) .nil) .nil) ρ st = some (.tup ((tab N fun m => .int (c m : Int)).drop (k + 1)), st) := by
    have q : ((k : Int) + 1) = ((k + 1 : Nat) : Int) := by omega
    simp only [w_slice, w_op, w_cons, w_nil, w_cst, ev_at h4, ev_at h17, p_bin, b_add, Option.map_some, q, pt_nil, pt_int, coT, de_tup, cut_from]
  have s1 : ((tab N fun m => D.int (c m : Int)).take k).length + [D.int ((c k + 1 : Nat) : Int)].length ≤ sizeLine := by
    refine sz_of ?_
    rw [List.length_take, tab_len, List.length_singleton]
    omega
  have s2 : ((tab N fun m => D.int (c m : Int)).take k ++ [D.int ((c k + 1 : Nat) : Int)]).length + ((tab N fun m => D.int (c m : Int)).drop (k + 1)).length ≤ sizeLine := by
    refine sz_of ?_
    rw [List.length_append, List.length_take, List.length_drop, tab_len, List.length_singleton]
    omega
  unfold mE
  rw [w_op]
  simp only [w_cons, w_nil]
  rw [w_op]
  simp only [w_cons, w_nil, c1, c2, c3, p_bin, b_tup, if_pos s1, if_pos s2, Option.map_some]
  rw [set_mid (by rw [tab_len]; exact hk), tab_set hk]
  refine congrArg some (congrArg (·, _) ?_)
  unfold coT
  refine congrArg D.tup (tab_ext fun m hm => ?_)
  unfold upd
  by_cases q : m = k
  · subst q; rw [if_pos rfl, show (fun m_1 => c m_1 + if m_1 = m then 1 else 0) m = c m + if m = m then 1 else 0 from rfl, if_pos rfl]
  · rw [if_neg q, show (fun m => c m + if m = k then 1 else 0) m = c m + if m = k then 1 else 0 from rfl, if_neg q]; rfl
end T68
end
section
set_option Elab.async false
set_option linter.all false
set_option autoImplicit false
set_option maxHeartbeats 4000000
set_option maxRecDepth 100000
namespace T68
open PySem Ro
open M68 (Sys Vec)

/-! ## the last checks -/
structure LF (S : Sys) (v w : Vec) (k : Nat) (rd : List Nat) (z : Vec) (ρ : Ro.Env) : Prop where
  l : LE S v w ρ
  h17 : ρ[17]? = some (some (.int (k : Int)))
  h18 : ρ[18]? = some (some (.kt true (nD rd)))
  h19 : ρ[19]? = some (some (coT S.N (up S k).c))
  h20 : ρ[20]? = some (some (toV (up S k) z))
theorem LF.set {S : Sys} {v w : Vec} {k : Nat} {rd : List Nat} {z : Vec} {ρ : Ro.Env} (h : LF S v w k rd z ρ) {i : Nat} {x : Option D} (hi : 21 ≤ i) : LF S v w k rd z (ρ.set i x) :=
  ⟨h.l.set (by omega), by rw [List.getElem?_set_ne (by omega)]; exact h.h17, by rw [List.getElem?_set_ne (by omega)]; exact h.h18, by rw [List.getElem?_set_ne (by omega)]; exact h.h19, by rw [List.getElem?_set_ne (by omega)]; exact h.h20⟩
def sK : Ss := (.cons (.asg (.v 17) (.call 29 (.cons (.var 1) (.cons (.var 2) .nil))))
  (.cons (.asg (.v 18) (.call 27 (.cons (.var 3) (.cons (.var 4) (.cons (.var 17) .nil)))))
  (.cons (.asg (.v 19) mE)
  (.cons (.asg (.v 20) (.call 19 (.cons (.var 3) (.cons (.var 19) .nil))))
  .nil))))
theorem asks_up {S : Sys} {k : Nat} : Asks (up S k) z0 (lawDb S.N S.r) (coT S.N (up S k).c) := asks_law (S := up S k)
theorem stepK {S : Sys} (g : Good S) (hN : 0 < S.N) {v w : Vec} {l0 : List Nat} {k0 : List Deed} (E : Ends S v l0 w k0) {n q : Nat} (hq : q < 1000000) {s : Sto} (h : TinOk q s) {ρ : Ro.Env} (L : LE S v w ρ) :
    ∃ k l e u z zw lz kz ρ' s', k < S.N ∧ Road S v k l e u ∧ Ends (up S k) z lz zw kz ∧ LF S v w k (l ++ [e]) z ρ' ∧ (∀ rest, exSs (callN Tb (n + 8)) (.cons (.asg (.v 17) (.call 29 (.cons (.var 1) (.cons (.var 2) .nil))))
  (.cons (.asg (.v 18) (.call 27 (.cons (.var 3) (.cons (.var 4) (.cons (.var 17) .nil)))))
  (.cons (.asg (.v 19) mE)
  (.cons (.asg (.v 20) (.call 19 (.cons (.var 3) (.cons (.var 19) .nil))))
  rest)))) ρ s = exSs (callN Tb (n + 8)) rest ρ' s') := by
  have few := g.few
  obtain ⟨k, s', hk, h', e1⟩ := f_take hq hN (by omega) h
  have e1' := e1 (n + 7) []
  rw [List.append_nil, List.append_nil] at e1'
  obtain ⟨l, e, u, r, he, e2⟩ := f_road g asks_law E.p4 hk
  obtain ⟨z, lz, zw, kz, Z⟩ := ends (up_good g (k := k))
  have e3 := (ask_paid (up_good g) Z asks_up (n := n + 1) (st := s')).1
  have L1 := L.set (i := 17) (x := some (.int (k : Int))) (by decide)
  have a1 := L.self (i := 17) (x := some (.int (k : Int))) (by decide)
  have L2 := L1.set (i := 18) (x := some (.kt true (nD (l ++ [e])))) (by decide)
  have a2 := L1.self (i := 18) (x := some (.kt true (nD (l ++ [e])))) (by decide)
  have b2 := a1
  rw [← List.getElem?_set_ne (i := 18) (a := some (.kt true (nD (l ++ [e])))) (by decide)] at b2
  have L3 := L2.set (i := 19) (x := some (coT S.N (up S k).c)) (by decide)
  have a3 := L2.self (i := 19) (x := some (coT S.N (up S k).c)) (by decide)
  have L4 := L3.set (i := 20) (x := some (toV (up S k) z)) (by decide)
  have a4 := L3.self (i := 20) (x := some (toV (up S k) z)) (by decide)
  refine ⟨k, l, e, u, z, zw, lz, kz, _, s', hk, r, Z, ⟨L4, ?_, ?_, ?_, a4⟩, fun rest => ?_⟩
  · rw [List.getElem?_set_ne (by decide), List.getElem?_set_ne (by decide)]
    exact b2
  · rw [List.getElem?_set_ne (by decide), List.getElem?_set_ne (by decide)]
    exact a2
  · rw [List.getElem?_set_ne (by decide)]
    exact a3
  · have s1 := asg_at (i := 17) (C := callN Tb (n + 8)) (a := .call 29 (.cons (.var 1) (.cons (.var 2) .nil))) (ρ := ρ) (st := s) (st1 := s') (x := .int (k : Int)) (by simp only [w_call, w_cons, w_nil, ev_at L.h1, ev_at L.h2, e1']) (by rw [L.hl]; decide)
    have s2 := asg_at (i := 18) (C := callN Tb (n + 8)) (ρ := ρ.set 17 (some (.int (k : Int)))) (a := .call 27 (.cons (.var 3) (.cons (.var 4) (.cons (.var 17) .nil)))) (st := s') (st1 := s') (x := .kt true (nD (l ++ [e]))) (by simp only [w_call, w_cons, w_nil, ev_at L1.h3, ev_at L1.h4, ev_at a1, e2 (n + 1) s']) (by rw [L1.hl]; decide)
    have s3 := asg_at (i := 19) (C := callN Tb (n + 8)) (ρ := (ρ.set 17 (some (.int (k : Int)))).set 18 (some (.kt true (nD (l ++ [e]))))) (moreE (st := s') few hk L2.h4 b2) (by rw [L2.hl]; decide)
    have s4 := asg_at (i := 20) (C := callN Tb (n + 8)) (ρ := ((ρ.set 17 (some (.int (k : Int)))).set 18 (some (.kt true (nD (l ++ [e]))))).set 19 (some (coT S.N (up S k).c))) (a := .call 19 (.cons (.var 3) (.cons (.var 19) .nil))) (st := s') (st1 := s') (x := toV (up S k) z) (by simp only [w_call, w_cons, w_nil, ev_at L3.h3, ev_at a3, e3]) (by rw [L3.hl]; decide)
    exact (ss_nx s1).trans ((ss_nx s2).trans ((ss_nx s3).trans (ss_nx s4)))
/-! ### no fewer notes -/
def nE (c : Exs) (x : Ex) : Ex := (.comp false [23, 24] (.t [(.v 23), (.v 24)]) (.zip (.cons (.call 21 (.cons (.var 3) (.cons (.var 19) .nil))) (.cons (.var 12) .nil))) c x)
section
variable {S : Sys} {v w z zw : Vec} {k e : Nat} {l lz : List Nat} {kz : List Deed} {ρ : Ro.Env} {n : Nat} {st : Sto}
theorem zipN (g : Good S) (Z : Ends (up S k) z lz zw kz) {rd : List Nat} (h : LF S v w k rd z ρ) : evi (callN Tb (n + 8)) (.zip (.cons (.call 21 (.cons (.var 3) (.cons (.var 19) .nil))) (.cons (.var 12) .nil))) ρ st = some (tab S.N fun m => .tup [.int (z m : Int), .int (v m : Int)], [], st) := by
  have e3 := (ask_paid (up_good g) Z asks_up (n := n + 1) (st := st)).2.1
  simp only [w_zip, w_cons, w_nil, w_call, ev_at h.l.h3, ev_at h.h19, ev_at h.l.h12, e3, zipD]
  simp only [coT, rd_tup, zip_tab, show (up S k).N = S.N from rfl, Option.map_some]
  rfl
theorem noFew (g : Good S) (Z : Ends (up S k) z lz zw kz) (M : More S v k l e z) {rd : List Nat} (h : LF S v w k rd z ρ) : ev (callN Tb (n + 8)) (nE (.cons (.op (.cmp .Lt) (.cons (.var 23) (.cons (.var 24) .nil))) .nil) (.cst (.int 1))) ρ st = some (.lst [], st) := by
  unfold nE
  rw [w_compP (zipN g Z h) (g := fun _ => none) (by
    intro x hx
    obtain ⟨m, hm, rfl⟩ := tab_mem hx
    have a1 := M.z1 m hm
    have q : ¬ ((z m : Int) < (v m : Int)) := by omega
    simp [tn, wipeE, h.l.hl, q])]
  rw [fm_none fun _ _ => rfl]
theorem difN (g : Good S) (Z : Ends (up S k) z lz zw kz) (M : More S v k l e z) {rd : List Nat} (h : LF S v w k rd z ρ) : ev (callN Tb (n + 8)) (nE .nil (.op (.bin .Sub) (.cons (.var 23) (.cons (.var 24) .nil)))) ρ st = some (.lst (tab S.N fun m => .int (l.count m : Int)), st) := by
  unfold nE
  rw [w_compM (zipN g Z h) (g := fun x => match x with
    | .tup [.int a, .int b] => .int (a - b)
    | _ => .non) (by
    intro x hx
    obtain ⟨m, hm, rfl⟩ := tab_mem hx
    simp [tn, wipeE, h.l.hl]), tab_map]
  refine congrArg some (congrArg (·, _) (congrArg D.lst (tab_ext fun m hm => ?_)))
  have a1 := M.z1 m hm
  show D.int _ = D.int _
  refine congrArg D.int ?_
  omega
def iZ : Ro.S := (.ifs (.or (.op (.cmp .NotEq) (.cons (.op .sub (.cons (.var 18) (.cons (.cst (.int 0)) .nil))) (.cons (.var 17) .nil))) (.or (.op (.cmp .NotEq) (.cons (.op .sum (.cons (.op .sub (.cons (.var 20) (.cons (.cst (.int 1)) .nil))) .nil)) (.cons (.op (.bin .Add) (.cons (.op .sum (.cons (.op .sub (.cons (.var 5) (.cons (.cst (.int 1)) .nil))) .nil)) (.cons (.cst (.int 1)) .nil))) .nil))) (.op (.cmp .NotEq) (.cons (nE (.cons (.op (.cmp .Lt) (.cons (.var 23) (.cons (.var 24) .nil))) .nil) (.cst (.int 1))) (.cons (.op (.lst false) .nil) .nil))))) (.cons (.ret (.cst (.bl false))) .nil) .nil)
theorem checkZ (g : Good S) (fv : M68.Fea S v) (Z : Ends (up S k) z lz zw kz) (hk : k < S.N) {u : Vec} (r : Road S v k l e u) (M : More S v k l e z) (h : LF S v w k (l ++ [e]) z ρ) : exS (callN Tb (n + 8)) iZ ρ st = some (.nx ρ st) := by
  obtain ⟨t, ht⟩ := r.head
  have i0 : ixD (nD (l ++ [e])) 0 = some (.int (k : Int)) := by rw [ht]; exact (ix_nat (i := 0)).trans rfl
  have c1 : ev (callN Tb (n + 8)) (.op .sub (.cons (.var 18) (.cons (.cst (.int 0)) .nil))) ρ st = some (.int (k : Int), st) := by
    simp only [w_op, w_cons, w_nil, w_cst, ev_at h.h18, p_sub, sq_kt, i0, Option.map_some]
  have i1 : ∀ (S : Sys) (z : Vec), ixD [dbS S z, coS S z] 1 = some (coS S z) := fun _ _ => rfl
  have sm1 : M68.sumN S.N (M68.Cn (up S k) z) = M68.sumN S.N S.c + 1 := by
    have a := M68.sum_coins (S := up S k) g.ok Z.p3
    have b : M68.sumN S.N (up S k).c = M68.sumN S.N S.c + M68.sumN S.N (fun m => if m = k then 1 else 0) := M68.sumN_add
    rw [M68.sumN_one 1 hk] at b
    exact a.trans b
  have sm2 : M68.sumN S.N (M68.Cn S v) = M68.sumN S.N S.c := M68.sum_coins g.ok fv
  have c2 : ev (callN Tb (n + 8)) (.op .sum (.cons (.op .sub (.cons (.var 20) (.cons (.cst (.int 1)) .nil))) .nil)) ρ st = some (.int ((M68.sumN S.N S.c + 1 : Nat) : Int), st) := by
    have e1 := sum_co (N := S.N) (c := M68.Cn (up S k) z) (st := st)
    rw [sm1] at e1
    have e2 : primD .sum st [coS (up S k) z] = _ := e1
    simp only [w_op, w_cons, w_nil, w_cst, ev_at h.h20, toV, p_sub, sq_tup, i1, Option.map_some, e2]
  have c3 : ev (callN Tb (n + 8)) (.op (.bin .Add) (.cons (.op .sum (.cons (.op .sub (.cons (.var 5) (.cons (.cst (.int 1)) .nil))) .nil)) (.cons (.cst (.int 1)) .nil))) ρ st = some (.int ((M68.sumN S.N S.c + 1 : Nat) : Int), st) := by
    have e1 := sum_co (N := S.N) (c := M68.Cn S v) (st := st)
    rw [sm2] at e1
    have e2 : primD .sum st [coS S v] = _ := e1
    simp only [w_op, w_cons, w_nil, w_cst, ev_at h.l.h5, toV, p_sub, sq_tup, i1, Option.map_some, e2, p_bin, b_add]
    rfl
  exact if_no (or_no (ne_of (p := true) c1 (ev_at h.h17) ((e_int (q := 39)).trans (by simp))) (or_no (ne_of (p := true) c2 c3 ((e_int (q := 39)).trans (by simp))) (ne_nil (noFew g Z M h))))
/-! ### what the road takes -/
def kE : Ex := (.comp false [22] (.v 22) (.range (.cons (.var 2) .nil)) .nil (.meth .count (.slice (.var 18) .nil (.cons (.op .neg (.cons (.cst (.int 1)) .nil)) .nil)) (.cons (.var 22) .nil)))
theorem kE_at (hN : S.N < 500) (h : LF S v w k (l ++ [e]) z ρ) {C : CallF} : ev C kE ρ st = some (.lst (tab S.N fun m => .int (l.count m : Int)), st) := by
  have r1 := range_nat (sz_of (k := S.N) (by omega))
  rw [rng_nD] at r1
  unfold kE
  rw [w_compM (xs := tab S.N fun (m : Nat) => .int (m : Int)) (ns := []) (st1 := st) (g := fun x => match x with
    | .int i => .int (l.count i.toNat : Int)
    | _ => .non) (by
      simp only [w_range, w_cons, w_nil, ev_at h.l.h2, r1, Option.map_some]
      rfl) (by
    intro x hx
    obtain ⟨m, hm, rfl⟩ := tab_mem hx
    have h22 : (22 : Nat) < (ρ.set 22 none).length := by rw [List.length_set, h.l.hl]; omega
    have b18 : ((ρ.set 22 none).set 22 (some (.int (m : Int))))[18]? = some (some (.kt true (nD (l ++ [e])))) := by
      rw [List.getElem?_set_ne (by decide), List.getElem?_set_ne (by decide)]
      exact h.h18
    have b22 : ((ρ.set 22 none).set 22 (some (.int (m : Int))))[22]? = some (some (.int (m : Int))) := List.getElem?_set_self h22
    have cb : cutD (nD (l ++ [e])) none (some (-1)) = nD l := by
      unfold nD
      rw [List.map_append]
      exact cut_but
    have es : ev C (.slice (.var 18) .nil (.cons (.op .neg (.cons (.cst (.int 1)) .nil)) .nil)) ((ρ.set 22 none).set 22 (some (.int (m : Int)))) st = some (.kt true (nD l), st) := by
      simp only [w_slice, w_op, w_cons, w_nil, w_cst, ev_at b18, p_neg, pt_nil, pt_int, de_kt, cb]
    unfold tn
    rw [wipeE, wipeE, w_v, if_pos h22]
    simp only [w_nil, te_nil, w_meth, es, mt_cnt, if_true, w_cons, ev_at b22, p_count, ints_nD, count_int, Option.map_some]
    rfl), tab_map]
  rfl
def fE : Ex := (.op (.tuple false) (.cons (.comp false [22, 14] (.t [(.v 22), (.v 14)]) (.enum (.op .sub (.cons (.var 5) (.cons (.cst (.int 1)) .nil)))) .nil (.op (.bin .Add) (.cons (.var 14) (.cons (.op .int (.cons (.op (.cmp .Eq) (.cons (.var 22) (.cons (.op .sub (.cons (.var 18) (.cons (.op .neg (.cons (.cst (.int 1)) .nil)) .nil))) .nil))) .nil)) .nil)))) .nil))
theorem fE_at (h : LF S v w k (l ++ [e]) z ρ) {C : CallF} : ev C fE ρ st = some (.tup (tab S.N fun m => .int ((M68.Cn S v m + if m = e then 1 else 0 : Nat) : Int)), st) := by
  unfold fE
  refine ev_tuplst ?_
  have i1 : ∀ (S : Sys) (z : Vec), ixD [dbS S z, coS S z] 1 = some (coS S z) := fun _ _ => rfl
  rw [w_compM (xs := tab S.N fun (m : Nat) => .tup [.int (m : Int), .int (M68.Cn S v m : Int)]) (ns := []) (st1 := st) (g := fun x => match x with
    | .tup [.int i, .int j] => .int (j + if i = (e : Int) then 1 else 0)
    | _ => .non) (by
      have c : ev C (.op .sub (.cons (.var 5) (.cons (.cst (.int 1)) .nil))) ρ st = some (coS S v, st) := by
        simp only [w_op, w_cons, w_nil, w_cst, ev_at h.l.h5, toV, p_sub, sq_tup, i1, Option.map_some]
      simp only [w_enum, c, coS, coT, rd_tup, enum_tab0, Option.map_some]) (by
    intro x hx
    obtain ⟨m, hm, rfl⟩ := tab_mem hx
    have l1 : ((ρ.set 14 none).set 22 none).length = 26 := by rw [List.length_set, List.length_set, h.l.hl]
    generalize hσ : ((ρ.set 14 none).set 22 none) = σ at l1
    have b18 : ((σ.set 22 (some (.int (m : Int)))).set 14 (some (.int (M68.Cn S v m : Int))))[18]? = some (some (.kt true (nD (l ++ [e])))) := by
      rw [List.getElem?_set_ne (by decide), List.getElem?_set_ne (by decide), ← hσ, List.getElem?_set_ne (by decide), List.getElem?_set_ne (by decide)]
      exact h.h18
    have b14 : ((σ.set 22 (some (.int (m : Int)))).set 14 (some (.int (M68.Cn S v m : Int))))[14]? = some (some (.int (M68.Cn S v m : Int))) := List.getElem?_set_self (by rw [List.length_set, l1]; decide)
    have b22 : ((σ.set 22 (some (.int (m : Int)))).set 14 (some (.int (M68.Cn S v m : Int))))[22]? = some (some (.int (m : Int))) := by
      rw [List.getElem?_set_ne (by decide)]
      exact List.getElem?_set_self (by rw [l1]; decide)
    have il : ixD (nD (l ++ [e])) (-1) = some (.int (e : Int)) := by
      unfold nD
      rw [List.map_append]
      exact ix_last
    have bt : bindT (.t [(.v 22), (.v 14)]) (.tup [.int (m : Int), .int (M68.Cn S v m : Int)]) σ = some ((σ.set 22 (some (.int (m : Int)))).set 14 (some (.int (M68.Cn S v m : Int)))) := by
      simp [l1]
    have eq1 : cmpD st .Eq (.int (m : Int)) (.int (e : Int)) = some (decide ((m : Int) = (e : Int))) := by
      rw [c_eq, de_int, de_int, e_int (q := 39)]
      exact congrArg some (by rw [Bool.eq_iff_iff]; simp)
    unfold tn
    rw [show wipeE ρ [22, 14] = σ from hσ, bt]
    simp only [w_nil, te_nil, w_op, w_cons, w_cst, ev_at b14, ev_at b22, ev_at b18, p_neg, p_sub, sq_kt, il, Option.map_some, p_cmp, eq1, p_intb, p_bin, b_add, decide_eq_true_eq]), tab_map]
  refine congrArg some (congrArg (·, _) (congrArg D.lst (tab_ext fun m hm => ?_)))
  show D.int _ = D.int _
  refine congrArg D.int ?_
  by_cases q : m = e
  · subst q; rw [if_pos rfl, if_pos rfl]; omega
  · rw [if_neg q, if_neg (by omega)]; omega
def rZ : Ex := (.and (.op (.cmp .Eq) (.cons (nE .nil (.op (.bin .Sub) (.cons (.var 23) (.cons (.var 24) .nil)))) (.cons (.var 21) .nil))) (.op (.cmp .Eq) (.cons (.op .sub (.cons (.var 20) (.cons (.cst (.int 1)) .nil))) (.cons fE .nil))))
theorem eq_lsts {q N : Nat} {c e : Nat → Nat} (h : ∀ m, m < N → c m = e m) : eqD (q + 2) (.lst (tab N fun m => .int (c m : Int))) (.lst (tab N fun m => .int (e m : Int))) = some true := by
  have := eq_co_self (q := q) h
  unfold coT at this
  rw [e_tup] at this
  rw [e_lst, if_pos (by rw [tab_len, tab_len])]
  exact this
theorem endZ (g : Good S) (Z : Ends (up S k) z lz zw kz) (M : More S v k l e z) (h : LF S v w k (l ++ [e]) z ρ) (h21 : ρ[21]? = some (some (.lst (tab S.N fun m => .int (l.count m : Int))))) : ev (callN Tb (n + 8)) rZ ρ st = some (.bl true, st) := by
  have i1 : ∀ (S : Sys) (z : Vec), ixD [dbS S z, coS S z] 1 = some (coS S z) := fun _ _ => rfl
  have c2 : ev (callN Tb (n + 8)) (.op .sub (.cons (.var 20) (.cons (.cst (.int 1)) .nil))) ρ st = some (coT S.N (M68.Cn (up S k) z), st) := by
    simp only [w_op, w_cons, w_nil, w_cst, ev_at h.h20, toV, p_sub, sq_tup, i1, Option.map_some]
    rfl
  exact and_yes (eq_of (difN g Z M h) (ev_at h21) (eq_lsts (q := 38) fun m _ => rfl)) (eq_of c2 (fE_at h) (eq_co_self (q := 38) M.z2))
end
end T68
end
section
set_option Elab.async false
set_option linter.all false
set_option autoImplicit false
set_option maxHeartbeats 4000000
set_option maxRecDepth 100000
namespace T68
open PySem Ro
open M68 (Sys Vec)

/-! ## the law -/
theorem leB {x0 : D} {S : Sys} {v w : Vec} {x7 x8 x9 x10 : Option D} : LE S v w (eB x0 S (toV S v) (toV S w) x7 x8 x9 x10 (some (.lst ((clears S).map ti))) (some (coT S.N v)) (some (coT S.N w)) none none none none none none none none) := ⟨rfl, rfl, rfl, rfl, rfl, rfl, rfl, rfl, rfl, rfl⟩
/-- from the second half on -/
def restB : Ss := (.cons iB (.cons sX (.cons sY (.cons sP (.cons iP (.cons iQ (.cons (.asg (.v 17) (.call 29 (.cons (.var 1) (.cons (.var 2) .nil))))
  (.cons (.asg (.v 18) (.call 27 (.cons (.var 3) (.cons (.var 4) (.cons (.var 17) .nil)))))
  (.cons (.asg (.v 19) mE)
  (.cons (.asg (.v 20) (.call 19 (.cons (.var 3) (.cons (.var 19) .nil))))
  (.cons iZ (.cons (.asg (.v 21) kE) (.cons (.ret rZ) .nil)))))))))))))
theorem half2 {S : Sys} (g : Good S) (h0 : 0 < S.N) (hN : S.N < 7) (hr : ∀ m, m < S.N → (S.r m).length ≤ 3) {v w : Vec} {l : List Nat} {k : List Deed} (E : Ends S v l w k) {n q : Nat} (hq : q + 2000 < 1000000) {s : Sto} (h : TinOk q s) {ρ : Ro.Env} (L : LE S v w ρ) : ∃ s', exSs (callN Tb (n + 8)) restB ρ s = some (.ret (.bl true) s') := by
  have cv := M68.noPay_clear E.p3 E.p2
  have cw := M68.noPay_clear E.q3 E.q2
  have b1 := checkB (C := callN Tb (n + 8)) (st := s) cv cw (fun c hc => least E.p1 hc) (fun c hc => all_below g E.q3 E.q2 E.q4 (clear_fea hc)) L.hl L.h12 L.h11 L.h13
  obtain ⟨ρ1, s1, L1, t1, b2⟩ := stepX g hN hr (by omega) h L (n := n)
  obtain ⟨ρ2, s2, L2, t2, b3⟩ := stepY g hN hr (by omega) t1 L1 (n := n)
  obtain ⟨ρ3, L3, h15, h16, b4⟩ := stepP g E (n := n) (st := s2) L2
  have b5 := checkP g E (n := n) (st := s2) L3 h15
  have b6 := checkQ g E (n := n) (st := s2) L3 h16
  obtain ⟨c, rl, e, u, z, zw, lz, kz, ρ4, s4, hc, r, Z, F, b7⟩ := stepK g h0 E (n := n) (by omega) t2 L3
  have M := more_of g E hc Z r
  have b8 := checkZ g E.p3 Z hc r M F (n := n) (st := s4)
  have ek := kE_at (st := s4) (C := callN Tb (n + 8)) (by omega) F
  have b9 := asg_at (i := 21) ek (by rw [F.l.hl]; decide)
  have F' := F.set (i := 21) (x := some (.lst (tab S.N fun m => .int (rl.count m : Int)))) (by decide)
  have b10 := endZ g Z M F' (F.l.self (by decide)) (n := n) (st := s4)
  exact ⟨s4, (ss_nx b1).trans ((ss_nx b2).trans ((ss_nx b3).trans ((ss_nx b4).trans ((ss_nx b5).trans ((ss_nx b6).trans ((b7 _).trans ((ss_nx b8).trans ((ss_nx b9).trans (ss_ret (x_retE b10))))))))))⟩
theorem law_ok {ns : List Int} (hn : ns.length ≤ 63) : ∃ st', callN Tb 20 37 [.kl (ns.map .int)] [] = some (.bl true, st') := by
  rw [callN_at (n := 19) (d := d_law) rfl]
  show ∃ st', runDef (callN Tb (11 + 8)) d_law [.kl (ns.map .int)] [] = _
  obtain ⟨x, e1⟩ := f_cells hn (n := 18)
  obtain ⟨s0, t0, e2⟩ := f_box (x := x) (n := 18)
  obtain ⟨m, s1, hm, t1, e3⟩ := f_take (q := 0) (by decide) (c := 3) (by decide) (by decide) t0
  have e3' := e3 18 []
  rw [List.append_nil, List.append_nil] at e3'
  obtain ⟨r, c, s2, hr, o, t2, e4⟩ := f_debts (N := 2 + m) (by omega) (by omega) (q := 0 + 1) (by decide) t1 (n := 16)
  have g : Good ⟨2 + m, r, c⟩ := good_of (by omega) hr o
  obtain ⟨v, l, w, k, E⟩ := ends g
  have e5 := f_lists (n := 16) (N := 2 + m) (r := r) (st := s2)
  have e6 := (ask_paid g E asks_list (n := 12) (st := s2)).1
  have e7 := (ask_cleared g E asks_law (n := 12) (st := s2)).1
  generalize hx0 : D.kl (ns.map .int) = x0 at e1 ⊢
  obtain ⟨s3, y7, y8, y9, y10, y11, t3, e8⟩ := walksV g E (n := 11) (q := 0 + 1 + 50) (by omega) t2 (x0 := x0)
  have e9 := (ask_paid g E asks_law (n := 12) (st := s3)).2.1
  have e10 := (ask_cleared g E asks_law (n := 12) (st := s3)).2.1
  have e11 := clearsE (S := ⟨2 + m, r, c⟩) (by show 2 + m < 7; omega) hr (n := 11) (st := s3) (x0 := x0) (p := toV ⟨2 + m, r, c⟩ v) (q := toV ⟨2 + m, r, c⟩ w) (x7 := y7) (x8 := y8) (x9 := y9) (x10 := y10) (x11 := y11) (x12 := some (coT (2 + m) v)) (x13 := some (coT (2 + m) w)) (x14 := none) (x15 := none) (x16 := none) (x17 := none) (x18 := none) (x19 := none) (x20 := none) (x21 := none)
  have e12 := checkA E.p3 E.q3 (C := callN Tb (11 + 8)) (st := s3) (x0 := x0) (x7 := y7) (x8 := y8) (x9 := y9) (x10 := y10) (x11 := some (.lst ((clears ⟨2 + m, r, c⟩).map ti))) (x14 := none) (x15 := none) (x16 := none) (x17 := none) (x18 := none) (x19 := none) (x20 := none) (x21 := none)
  obtain ⟨s', e13⟩ := half2 g (by show 0 < 2 + m; omega) (by show 2 + m < 7; omega) hr E (n := 11) (by omega) t3 (leB (x0 := x0) (x7 := y7) (x8 := y8) (x9 := y9) (x10 := y10))
  refine ⟨s', ?_⟩
  have nn : List.replicate (d_law.N.length - [x0].length) (none : Option D) = [none, none, none, none, none, none, none, none, none, none, none, none, none, none, none, none, none, none, none, none, none, none, none, none, none] := rfl
  have a1 : exS (callN Tb (11 + 8)) (.asg (.v 1) (.call 28 (.cons (.call 30 (.cons (.var 0) (.cons (.cst (.int 1)) .nil))) (.cons (.cst (.int 0)) .nil)))) ([x0].map some ++ List.replicate (d_law.N.length - [x0].length) none) [] = some (.nx [some x0, some (.loc 0), none, none, none, none, none, none, none, none, none, none, none, none, none, none, none, none, none, none, none, none, none, none, none, none] s0) := by
    rw [nn]
    simp [e1, e2]
  have q2 : (2 : Int) + (m : Int) = ((2 + m : Nat) : Int) := by omega
  have a2 : exS (callN Tb (11 + 8)) (.asg (.v 2) (.op (.bin .Add) (.cons (.cst (.int 2)) (.cons (.call 29 (.cons (.var 1) (.cons (.cst (.int 3)) .nil))) .nil)))) [some x0, some (.loc 0), none, none, none, none, none, none, none, none, none, none, none, none, none, none, none, none, none, none, none, none, none, none, none, none] s0 = some (.nx [some x0, some (.loc 0), some (.int ((2 + m : Nat) : Int)), none, none, none, none, none, none, none, none, none, none, none, none, none, none, none, none, none, none, none, none, none, none, none] s1) := by
    have e3'' : callN Tb (11 + 8) 29 [.loc 0, .int 3] s0 = some (.int (m : Int), s1) := e3'
    rw [← q2]
    simp [e3'']
  have a3 : exS (callN Tb (11 + 8)) (.asg (.t [(.v 3), (.v 4)]) (.call 34 (.cons (.var 1) (.cons (.var 2) .nil)))) [some x0, some (.loc 0), some (.int ((2 + m : Nat) : Int)), none, none, none, none, none, none, none, none, none, none, none, none, none, none, none, none, none, none, none, none, none, none, none] s1 = some (.nx [some x0, some (.loc 0), some (.int ((2 + m : Nat) : Int)), some (lawDb (2 + m) r), some (coT (2 + m) c), none, none, none, none, none, none, none, none, none, none, none, none, none, none, none, none, none, none, none, none, none] s2) := by
    have e4' : callN Tb (11 + 8) 34 [.loc 0, .int ((2 + m : Nat) : Int)] s1 = _ := e4
    generalize ((2 + m : Nat) : Int) = Q at e4' ⊢
    simp [e4']
  have a4 : exS (callN Tb (11 + 8)) (.par [5, 6] (.cons (.call 19 (.cons (.call 33 (.cons (.var 3) .nil)) (.cons (.op (.list false) (.cons (.var 4) .nil)) .nil))) (.cons (.call 20 (.cons (.var 3) (.cons (.var 4) .nil))) .nil))) [some x0, some (.loc 0), some (.int ((2 + m : Nat) : Int)), some (lawDb (2 + m) r), some (coT (2 + m) c), none, none, none, none, none, none, none, none, none, none, none, none, none, none, none, none, none, none, none, none, none] s2 = some (.nx (eA x0 ⟨2 + m, r, c⟩ (toV ⟨2 + m, r, c⟩ v) (toV ⟨2 + m, r, c⟩ w) none none none none none) s2) := by
    have e5' : callN Tb (11 + 8) 33 [lawDb (2 + m) r] s2 = _ := e5
    have e6' : callN Tb (11 + 8) 19 [listDb (2 + m) r, listCo (2 + m) c] s2 = _ := e6
    have e7' : callN Tb (11 + 8) 20 [lawDb (2 + m) r, coT (2 + m) c] s2 = _ := e7
    have l4 : primD (.list false) s2 [coT (2 + m) c] = some (listCo (2 + m) c, s2) := rfl
    unfold eA
    generalize ((2 + m : Nat) : Int) = Q
    generalize lawDb (2 + m) r = A at e5' e7' ⊢
    generalize coT (2 + m) c = B at e7' l4 ⊢
    simp only [x_par, w_cons, w_nil, w_call, w_var, List.getElem?_cons_succ, List.getElem?_cons_zero, e5', w_op, l4, e6', e7', w_set, w_set0]
    simp
  have a6 : exS (callN Tb (11 + 8)) (.asg (.t [(.v 12), (.v 13)]) (.op .tup (.cons (.call 21 (.cons (.var 3) (.cons (.var 4) .nil))) (.cons (.call 22 (.cons (.var 3) (.cons (.var 4) .nil))) .nil)))) (eA x0 ⟨2 + m, r, c⟩ (toV ⟨2 + m, r, c⟩ v) (toV ⟨2 + m, r, c⟩ w) y7 y8 y9 y10 y11) s3 = some (.nx (eB x0 ⟨2 + m, r, c⟩ (toV ⟨2 + m, r, c⟩ v) (toV ⟨2 + m, r, c⟩ w) y7 y8 y9 y10 y11 (some (coT (2 + m) v)) (some (coT (2 + m) w)) none none none none none none none none) s3) := by
    have e9' : callN Tb (11 + 8) 21 [lawDb (2 + m) r, coT (2 + m) c] s3 = some (coT (2 + m) v, s3) := e9
    have e10' : callN Tb (11 + 8) 22 [lawDb (2 + m) r, coT (2 + m) c] s3 = some (coT (2 + m) w, s3) := e10
    unfold eA eB
    generalize lawDb (2 + m) r = A at e9' e10' ⊢
    generalize coT (2 + m) c = B at e9' e10' ⊢
    generalize coT (2 + m) v = V at e9' ⊢
    generalize coT (2 + m) w = W at e10' ⊢
    simp [e9', e10']
  have a7 : exS (callN Tb (11 + 8)) (.asg (.v 11) gF) (eB x0 ⟨2 + m, r, c⟩ (toV ⟨2 + m, r, c⟩ v) (toV ⟨2 + m, r, c⟩ w) y7 y8 y9 y10 y11 (some (coT (2 + m) v)) (some (coT (2 + m) w)) none none none none none none none none) s3 = some (.nx (eB x0 ⟨2 + m, r, c⟩ (toV ⟨2 + m, r, c⟩ v) (toV ⟨2 + m, r, c⟩ w) y7 y8 y9 y10 (some (.lst ((clears ⟨2 + m, r, c⟩).map ti))) (some (coT (2 + m) v)) (some (coT (2 + m) w)) none none none none none none none none) s3) := asg_at e11 (by show 11 < 26; decide)
  refine run_ret rfl ((ss_nx a1).trans ((ss_nx a2).trans ((ss_nx a3).trans ((ss_nx a4).trans ((ss_nx e8).trans ((ss_nx a6).trans ((ss_nx a7).trans ((ss_nx e12).trans e13)))))))) fin_no
end T68
end
section
set_option Elab.async false
set_option linter.all false
set_option autoImplicit false
namespace Ro
open PySem PySem.Spec PyProof.Rows L2

/-! ## Data and the layer's values -/
/-- a list that nobody writes: locked, or one of the module's own -/
def KL (K : PySem.W.Frag) (H : Hp) (a : Addr) (xs : List V) : Prop := (∃ o, H a = some (.frz o (.lst xs))) ∨ ∀ H' : Hp, SqL K H' a xs
theorem KL.sq {K : PySem.W.Frag} {H : Hp} {a : Addr} {xs : List V} (h : KL K H a xs) : SqL K H a xs := by
  rcases h with ⟨o, h⟩ | h
  · exact .inl (.inr ⟨o, h⟩)
  · exact h H
theorem KL.to {K : PySem.W.Frag} {H H' : Hp} {a : Addr} {xs : List V} (h : KL K H a xs) (k : ∀ o, H a = some (.frz o (.lst xs)) → H' a = some (.frz o (.lst xs))) : KL K H' a xs := by
  rcases h with ⟨o, h⟩ | h
  · exact .inl ⟨o, k o h⟩
  · exact .inr h
section
variable (K : PySem.W.Frag) (W : Addr → Prop) (L : List Addr) (H : Hp)
mutual
def Rp : D → V → Prop
  | .non, x => x = .non
  | .bl b, x => x = .bl b
  | .int i, x => x = .int i
  | .str s, x => x = .str s
  | .tup ds, x => ∃ a xs, x = .ref a ∧ H a = some (.tup xs) ∧ xs.length ≤ sizeLine ∧ Rps ds xs
  | .lst ds, x => ∃ a xs, x = .ref a ∧ H a = some (.lst xs) ∧ ¬ W a ∧ xs.length ≤ sizeLine ∧ Rps ds xs
  | .kt true ds, x => ∃ a o xs, x = .ref a ∧ H a = some (.frz o (.tup xs)) ∧ o.dict = none ∧ xs.length ≤ sizeLine ∧ Rps ds xs
  | .kt false ds, x => ∃ a xs, x = .ref a ∧ (∀ H : Hp, SqT K H a xs) ∧ xs.length ≤ sizeLine ∧ Rps ds xs
  | .kl ds, x => ∃ a xs, x = .ref a ∧ KL K H a xs ∧ xs.length ≤ sizeLine ∧ Rps ds xs
  | .loc n, x => ∃ a, x = .ref a ∧ L[n]? = some a
  | .dk ks vs, x => ∃ a kvs, x = .ref a ∧ Rd H a (.dK kvs) ∧ ¬ W a ∧ kvs.map (·.1) = ks ∧ Rps vs (kvs.map (·.2))
  | .dt ks vs, x => ∃ a kvs, x = .ref a ∧ Rd H a (.dT kvs) ∧ ¬ W a ∧ kvs.map (·.1) = ks ∧ Rps vs (kvs.map (·.2))
def Rps : List D → List V → Prop
  | [], xs => xs = []
  | d :: ds, xs => ∃ y ys, xs = y :: ys ∧ Rp d y ∧ Rps ds ys
end
def RpO (o : Ob) (h : Option HO) : Prop :=
  match o with
  | .lst ds => ∃ xs, h = some (.lst xs) ∧ xs.length ≤ sizeLine ∧ Rps K W L H ds xs
  | .dk kvs => ∃ us, h = some (.dK us) ∧ us.map (·.1) = kvs.map (·.1) ∧ Rps K W L H (kvs.map (·.2)) (us.map (·.2))
  | .dt kvs => ∃ us, h = some (.dT us) ∧ us.map (·.1) = kvs.map (·.1) ∧ Rps K W L H (kvs.map (·.2)) (us.map (·.2))
  | .ins _ fs => ∃ C dx us, h = some (.ins C dx us) ∧ us.map (·.1) = fs.map (·.1) ∧ Rps K W L H (fs.map (·.2)) (us.map (·.2))
/-- the store stands in the heap -/
structure Sim (st : Sto) : Prop where
  wm : ∀ a, W a → Mut (H a)
  lw : ∀ a, a ∈ L → W a
  nd : L.Nodup
  len : L.length = st.length
  ob : ∀ (n : Nat) (o : Ob) (a : Addr), st[n]? = some o → L[n]? = some a → RpO K W L H o (H a)
end
/-- what running may do: W what may be written, L the store's addresses -/
structure Ext (W : Addr → Prop) (L : List Addr) (H : Hp) (W' : Addr → Prop) (L' : List Addr) (H' : Hp) : Prop where
  keep : ∀ a o, H a = some o → a ∉ L → H' a = some o
  grow : ∀ a, H' a = none → H a = none
  wsub : ∀ a, W' a → W a ∨ H a = none
  wsup : ∀ a, W a → W' a
  lsub : ∀ a, a ∈ L' → a ∈ L ∨ H a = none
  pre : L <+: L'

section
variable {K : PySem.W.Frag} {W W' W2 : Addr → Prop} {L L' L2' : List Addr} {H H' H2 : Hp} {st st' : Sto}
theorem Ext.refl : Ext W L H W L H := ⟨fun _ _ h _ => h, fun _ h => h, fun _ h => .inl h, fun _ h => h, fun _ h => .inl h, List.prefix_refl _⟩
theorem Ext.trans (a : Ext W L H W' L' H') (b : Ext W' L' H' W2 L2' H2) : Ext W L H W2 L2' H2 where
  keep := fun x o h n => b.keep x o (a.keep x o h n) fun hm => (a.lsub x hm).elim n fun z => by rw [h] at z; cases z
  grow := fun x h => a.grow x (b.grow x h)
  wsub := fun x h => (b.wsub x h).elim (a.wsub x) fun z => .inr (a.grow x z)
  wsup := fun x h => b.wsup x (a.wsup x h)
  lsub := fun x h => (b.lsub x h).elim (a.lsub x) fun z => .inr (a.grow x z)
  pre := a.pre.trans b.pre
theorem Sim.nottup (S : Sim K W L H st) {a : Addr} {xs : List V} (h : Rd H a (.tup xs)) : a ∉ L := fun hm => by
  have q := S.wm a (S.lw a hm)
  rcases h with h | ⟨o, h⟩ <;> (rw [h] at q; exact q)
theorem rd_keep {a : Addr} {u : HO} (k : ∀ o, H a = some o → H' a = some o) (h : Rd H a u) : Rd H' a u := by
  rcases h with h | ⟨o, h⟩
  · exact .inl (k _ h)
  · exact .inr ⟨o, k _ h⟩
theorem rd_some {a : Addr} {u : HO} (h : Rd H a u) : ∃ o, H a = some o := by
  rcases h with h | ⟨o, h⟩ <;> exact ⟨_, h⟩
theorem Ext.rd (E : Ext W L H W' L' H') {a : Addr} {u : HO} (n : a ∉ L) (h : Rd H a u) : Rd H' a u := rd_keep (fun o e => E.keep a o e n) h
theorem Ext.nw (E : Ext W L H W' L' H') {a : Addr} {u : HO} (n : ¬ W a) (h : Rd H a u) : ¬ W' a := fun z => (E.wsub a z).elim n fun q => by
  obtain ⟨o, e⟩ := rd_some h
  rw [e] at q; cases q
theorem pre_get {α : Type} {l l' : List α} (p : l <+: l') {n : Nat} {a : α} (h : l[n]? = some a) : l'[n]? = some a := by
  obtain ⟨t, rfl⟩ := p
  have hn : n < l.length := (List.getElem?_eq_some_iff.mp h).1
  rw [List.getElem?_append_left hn]
  exact h
mutual
theorem Rp.mono (S : Sim K W L H st) (E : Ext W L H W' L' H') : ∀ {d : D} {x : V}, Rp K W L H d x → Rp K W' L' H' d x
  | .non, _, h => by simp only [Rp] at h ⊢; exact h
  | .bl _, _, h => by simp only [Rp] at h ⊢; exact h
  | .int _, _, h => by simp only [Rp] at h ⊢; exact h
  | .str _, _, h => by simp only [Rp] at h ⊢; exact h
  | .tup ds, _, h => by
    simp only [Rp] at h ⊢
    obtain ⟨a, xs, e, q, z, r⟩ := h
    exact ⟨a, xs, e, E.keep a _ q (S.nottup (.inl q)), z, Rps.mono S E r⟩
  | .kl ds, _, h => by
    simp only [Rp] at h ⊢
    obtain ⟨a, xs, e, q, z, r⟩ := h
    refine ⟨a, xs, e, q.to fun o q => E.keep a _ q fun m => ?_, z, Rps.mono S E r⟩
    have w := S.wm a (S.lw a m)
    rw [q] at w; exact w
  | .kt true ds, _, h => by
    simp only [Rp] at h ⊢
    obtain ⟨a, o, xs, e, q, dn, z, r⟩ := h
    refine ⟨a, o, xs, e, E.keep a _ q fun m => ?_, dn, z, Rps.mono S E r⟩
    have w := S.wm a (S.lw a m)
    rw [q] at w; exact w
  | .kt false ds, _, h => by
    simp only [Rp] at h ⊢
    obtain ⟨a, xs, e, q, z, r⟩ := h
    exact ⟨a, xs, e, q, z, Rps.mono S E r⟩
  | .lst ds, _, h => by
    simp only [Rp] at h ⊢
    obtain ⟨a, xs, e, q, n, z, r⟩ := h
    exact ⟨a, xs, e, E.keep a _ q (fun m => n (S.lw a m)), E.nw n (.inl q), z, Rps.mono S E r⟩
  | .loc n, _, h => by
    simp only [Rp] at h ⊢
    obtain ⟨a, e, q⟩ := h
    exact ⟨a, e, pre_get E.pre q⟩
  | .dk ks vs, _, h => by
    simp only [Rp] at h ⊢
    obtain ⟨a, kvs, e, q, n, z, r⟩ := h
    exact ⟨a, kvs, e, E.rd (fun m => n (S.lw a m)) q, E.nw n q, z, Rps.mono S E r⟩
  | .dt ks vs, _, h => by
    simp only [Rp] at h ⊢
    obtain ⟨a, kvs, e, q, n, z, r⟩ := h
    exact ⟨a, kvs, e, E.rd (fun m => n (S.lw a m)) q, E.nw n q, z, Rps.mono S E r⟩
theorem Rps.mono (S : Sim K W L H st) (E : Ext W L H W' L' H') : ∀ {ds : List D} {xs : List V}, Rps K W L H ds xs → Rps K W' L' H' ds xs
  | [], _, h => by simp only [Rps] at h ⊢; exact h
  | d :: ds, _, h => by
    simp only [Rps] at h ⊢
    obtain ⟨y, ys, e, h1, h2⟩ := h
    exact ⟨y, ys, e, Rp.mono S E h1, Rps.mono S E h2⟩
end
theorem RpO.mono (S : Sim K W L H st) (E : Ext W L H W' L' H') {o : Ob} {h : Option HO} (r : RpO K W L H o h) : RpO K W' L' H' o h := by
  cases o with
  | lst ds => obtain ⟨xs, e, z, q⟩ := r; exact ⟨xs, e, z, q.mono S E⟩
  | dk kvs => obtain ⟨xs, e, z, q⟩ := r; exact ⟨xs, e, z, q.mono S E⟩
  | dt kvs => obtain ⟨xs, e, z, q⟩ := r; exact ⟨xs, e, z, q.mono S E⟩
  | ins C fs => obtain ⟨Ca, dx, xs, e, z, q⟩ := r; exact ⟨Ca, dx, xs, e, z, q.mono S E⟩

/-! ### lists of data -/
theorem Rps.length : ∀ {ds : List D} {xs : List V}, Rps K W L H ds xs → ds.length = xs.length
  | [], _, h => by simp only [Rps] at h; subst h; rfl
  | _ :: _, _, h => by
    simp only [Rps] at h
    obtain ⟨y, ys, e, _, h2⟩ := h
    subst e
    rw [List.length_cons, List.length_cons, h2.length]
theorem Rps.nil : Rps K W L H [] [] := by simp only [Rps]
theorem Rps.cons {d : D} {ds : List D} {x : V} {xs : List V} (h : Rp K W L H d x) (r : Rps K W L H ds xs) : Rps K W L H (d :: ds) (x :: xs) := by
  simp only [Rps]; exact ⟨x, xs, rfl, h, r⟩
theorem Rps.get : ∀ {ds : List D} {xs : List V} {i : Nat} {d : D}, Rps K W L H ds xs → ds[i]? = some d → ∃ x, xs[i]? = some x ∧ Rp K W L H d x
  | [], _, _, _, _, e => by simp at e
  | c :: ds, _, i, d, h, e => by
    simp only [Rps] at h
    obtain ⟨y, ys, rfl, h1, h2⟩ := h
    cases i with
    | zero => simp at e; subst e; exact ⟨y, rfl, h1⟩
    | succ i => simpa using h2.get (i := i) (by simpa using e)
theorem Rps.get' : ∀ {ds : List D} {xs : List V} {i : Nat} {x : V}, Rps K W L H ds xs → xs[i]? = some x → ∃ d, ds[i]? = some d ∧ Rp K W L H d x
  | [], _, _, _, h, e => by simp only [Rps] at h; subst h; simp at e
  | c :: ds, _, i, d, h, e => by
    simp only [Rps] at h
    obtain ⟨y, ys, rfl, h1, h2⟩ := h
    cases i with
    | zero => simp at e; subst e; exact ⟨c, rfl, h1⟩
    | succ i => simpa using h2.get' (i := i) (by simpa using e)
theorem Rps.append : ∀ {ds es : List D} {xs ys : List V}, Rps K W L H ds xs → Rps K W L H es ys → Rps K W L H (ds ++ es) (xs ++ ys)
  | [], _, _, _, h, r => by simp only [Rps] at h; subst h; exact r
  | _ :: _, _, _, _, h, r => by
    simp only [Rps] at h
    obtain ⟨y, ys, rfl, h1, h2⟩ := h
    exact .cons h1 (h2.append r)
theorem Rps.drop : ∀ {ds : List D} {xs : List V} (n : Nat), Rps K W L H ds xs → Rps K W L H (ds.drop n) (xs.drop n)
  | _, _, 0, h => h
  | [], _, _ + 1, h => by simp only [Rps] at h; subst h; exact .nil
  | _ :: _, _, n + 1, h => by
    simp only [Rps] at h
    obtain ⟨y, ys, rfl, h1, h2⟩ := h
    exact h2.drop n
theorem Rps.take : ∀ {ds : List D} {xs : List V} (n : Nat), Rps K W L H ds xs → Rps K W L H (ds.take n) (xs.take n)
  | _, _, 0, _ => by simp only [List.take_zero]; exact .nil
  | [], _, _ + 1, h => by simp only [Rps] at h; subst h; exact .nil
  | _ :: _, _, n + 1, h => by
    simp only [Rps] at h
    obtain ⟨y, ys, rfl, h1, h2⟩ := h
    exact .cons h1 (h2.take n)
theorem Rps.set : ∀ {ds : List D} {xs : List V} {d : D} {x : V} (n : Nat), Rps K W L H ds xs → Rp K W L H d x → Rps K W L H (ds.set n d) (xs.set n x)
  | [], _, _, _, _, h, _ => by simp only [Rps] at h; subst h; exact .nil
  | _ :: _, _, _, _, 0, h, r => by
    simp only [Rps] at h
    obtain ⟨y, ys, rfl, h1, h2⟩ := h
    exact .cons r h2
  | _ :: _, _, _, _, n + 1, h, r => by
    simp only [Rps] at h
    obtain ⟨y, ys, rfl, h1, h2⟩ := h
    exact .cons h1 (h2.set n r)
theorem Rps.erase : ∀ {ds : List D} {xs : List V} (n : Nat), Rps K W L H ds xs → Rps K W L H (ds.eraseIdx n) (xs.eraseIdx n)
  | [], _, _, h => by simp only [Rps] at h; subst h; exact .nil
  | _ :: _, _, 0, h => by
    simp only [Rps] at h
    obtain ⟨y, ys, rfl, h1, h2⟩ := h
    exact h2
  | _ :: _, _, n + 1, h => by
    simp only [Rps] at h
    obtain ⟨y, ys, rfl, h1, h2⟩ := h
    exact .cons h1 (h2.erase n)
theorem Rps.one {d : D} {xs : List V} (h : Rps K W L H [d] xs) : ∃ x, xs = [x] ∧ Rp K W L H d x := by
  simp only [Rps] at h
  obtain ⟨x, ys, rfl, h1, rfl⟩ := h
  exact ⟨x, rfl, h1⟩
theorem Rps.two {d e : D} {xs : List V} (h : Rps K W L H [d, e] xs) : ∃ x y, xs = [x, y] ∧ Rp K W L H d x ∧ Rp K W L H e y := by
  simp only [Rps] at h
  obtain ⟨x, ys, rfl, h1, y, zs, rfl, h2, rfl⟩ := h
  exact ⟨x, y, rfl, h1, h2⟩

/-! ### the three steps: a new object aside, a new object of the store, one rewritten -/
theorem upd_some {p a : Addr} {o u : HO} (hp : H p = none) (h : H a = some u) : upd H p o a = some u := by
  rw [upd_ne (ne_of_none h hp)]; exact h
theorem Sim.newE (S : Sim K W L H st) {p : Addr} {o : HO} (hp : H p = none) : Ext W L H W L (upd H p o) :=
  ⟨fun a u h _ => upd_some hp h, fun a h => by
    by_cases e : a = p
    · rw [e]; exact hp
    · rw [upd_ne e] at h; exact h, fun _ h => .inl h, fun _ h => h, fun _ h => .inl h, List.prefix_refl _⟩
theorem Sim.nW (S : Sim K W L H st) {p : Addr} (hp : H p = none) : ¬ W p := fun h => by
  have q := S.wm p h
  rw [hp] at q; exact q
theorem Sim.new (S : Sim K W L H st) {p : Addr} {o : HO} (hp : H p = none) : Sim K W L (upd H p o) st where
  wm := fun a h => by
    have q := S.wm a h
    have ne : a ≠ p := fun e => S.nW hp (by rw [← e]; exact h)
    rw [upd_ne ne]; exact q
  lw := S.lw
  nd := S.nd
  len := S.len
  ob := fun n ob a h1 h2 => by
    have ha : a ≠ p := fun e => S.nW hp (e ▸ S.lw a (List.mem_of_getElem? h2))
    rw [upd_ne ha]
    exact (S.ob n ob a h1 h2).mono S (S.newE hp)
/-- put one more address among those that may be written -/
def putW (W : Addr → Prop) (p : Addr) : Addr → Prop := fun a => W a ∨ a = p
theorem Sim.pushE (S : Sim K W L H st) {p : Addr} {o : HO} (hp : H p = none) : Ext W L H (putW W p) (L ++ [p]) (upd H p o) where
  keep := fun a u h _ => upd_some hp h
  grow := (S.newE hp (o := o)).grow
  wsub := fun a h => h.imp id fun e => by rw [e]; exact hp
  wsup := fun a h => .inl h
  lsub := fun a h => by
    rcases List.mem_append.mp h with h | h
    · exact .inl h
    · exact .inr (by rw [List.mem_singleton.mp h]; exact hp)
  pre := List.prefix_append _ _
theorem Sim.push (S : Sim K W L H st) {p : Addr} {o : HO} {ob : Ob} (hp : H p = none) (mu : Mut (some o)) (r : RpO K (putW W p) (L ++ [p]) (upd H p o) ob (some o)) : Sim K (putW W p) (L ++ [p]) (upd H p o) (st ++ [ob]) where
  wm := fun a h => by
    rcases h with h | rfl
    · have ne : a ≠ p := fun e => S.nW hp (by rw [← e]; exact h)
      rw [upd_ne ne]; exact S.wm a h
    · rw [upd_same]; exact mu
  lw := fun a h => by
    rcases List.mem_append.mp h with h | h
    · exact .inl (S.lw a h)
    · exact .inr (List.mem_singleton.mp h)
  nd := by
    rw [List.nodup_append]
    refine ⟨S.nd, by simp, fun a ha b hb e => ?_⟩
    rw [List.mem_singleton] at hb
    exact S.nW hp (by rw [← hb, ← e]; exact S.lw a ha)
  len := by rw [List.length_append, List.length_append, S.len]; rfl
  ob := fun n o' a h1 h2 => by
    by_cases hn : n < st.length
    · rw [List.getElem?_append_left hn] at h1
      rw [List.getElem?_append_left (by rw [S.len]; exact hn)] at h2
      have ha : a ≠ p := fun e => S.nW hp (e ▸ S.lw a (List.mem_of_getElem? h2))
      rw [upd_ne ha]
      exact (S.ob n o' a h1 h2).mono S (S.pushE hp)
    · have hn' : n = st.length := by
        have q := (List.getElem?_eq_some_iff.mp h1).1
        rw [List.length_append, List.length_singleton] at q
        omega
      subst hn'
      rw [List.getElem?_append_right (Nat.le_refl _), Nat.sub_self] at h1
      rw [List.getElem?_append_right (by rw [S.len]; exact Nat.le_refl _), S.len, Nat.sub_self] at h2
      simp at h1 h2
      subst h1 h2
      rw [upd_same]
      exact r
theorem Sim.setE (S : Sim K W L H st) {n : Nat} {a : Addr} {o : HO} (hL : L[n]? = some a) : Ext W L H W L (upd H a o) :=
  ⟨fun b u h hb => by
    have ne : b ≠ a := fun e => hb (by rw [e]; exact List.mem_of_getElem? hL)
    rw [upd_ne ne]; exact h, fun b h => by
    by_cases e : b = a
    · rw [e, upd_same] at h; cases h
    · rw [upd_ne e] at h; exact h, fun _ h => .inl h, fun _ h => h, fun _ h => .inl h, List.prefix_refl _⟩
theorem Sim.at_ (S : Sim K W L H st) {n : Nat} {o : Ob} (h : st[n]? = some o) : ∃ a, L[n]? = some a ∧ RpO K W L H o (H a) := by
  have hn := (List.getElem?_eq_some_iff.mp h).1
  have hl : n < L.length := by rw [S.len]; exact hn
  exact ⟨L[n], List.getElem?_eq_getElem hl, S.ob n o _ h (List.getElem?_eq_getElem hl)⟩
theorem Sim.set (S : Sim K W L H st) {n : Nat} {a : Addr} {o : HO} {ob : Ob} (hL : L[n]? = some a) (mu : Mut (some o)) (r : RpO K W L (upd H a o) ob (some o)) : Sim K W L (upd H a o) (st.set n ob) where
  wm := fun b h => by
    by_cases e : b = a
    · rw [e, upd_same]; exact mu
    · rw [upd_ne e]; exact S.wm b h
  lw := S.lw
  nd := S.nd
  len := by rw [List.length_set]; exact S.len
  ob := fun m o' b h1 h2 => by
    by_cases e : n = m
    · subst e
      rw [hL] at h2; cases h2
      have hn : n < st.length := by
        have q := (List.getElem?_eq_some_iff.mp h1).1
        rw [List.length_set] at q; exact q
      rw [List.getElem?_set_self hn] at h1
      cases h1
      rw [upd_same]; exact r
    · rw [List.getElem?_set_ne e] at h1
      have hb : b ≠ a := fun z => by
        subst z
        have h3 := (List.getElem?_eq_some_iff.mp h2)
        have h4 := (List.getElem?_eq_some_iff.mp hL)
        obtain ⟨l1, e1⟩ := h3
        obtain ⟨l2, e2⟩ := h4
        exact e ((List.getElem_inj S.nd).mp (e2.trans e1.symm))
      rw [upd_ne hb]
      exact (S.ob m o' b h1 h2).mono S (S.setE hL)
end
end Ro
end
section
set_option Elab.async false
set_option linter.all false
set_option autoImplicit false
set_option maxHeartbeats 4000000
namespace Ro
open PySem PySem.Spec PyProof.Rows L2

/-! ## Equality and order of data -/
section
variable {X : Cx} {pins : List (Addr × Obj)} {σ : L2.St} {H : Hp} {s : Shared} {K : PySem.W.Frag} {W : Addr → Prop} {L : List Addr}

theorem vInt {i : Int} {u : Value} (r : RelV (.int i) u) : ∃ t, u = .int i t := r
theorem vStr {i : Str} {u : Value} (r : RelV (.str i) u) : ∃ t, u = .str i t := r
theorem vBl {b : Bool} {u : Value} (r : RelV (.bl b) u) : u = .bool b := r
theorem vNon {u : Value} (r : RelV .non u) : u = .none := r
theorem vRef {a : Addr} {u : Value} (r : RelV (.ref a) u) : u = .ref a := r
/-- a tuple, a list wherever it stands -/
def Rn (K : PySem.W.Frag) (W : Addr → Prop) (L : List Addr) (H : Hp) : D → V → Prop
  | .tup ds, x => ∃ a xs, x = .ref a ∧ SqT K H a xs ∧ Rps K W L H ds xs
  | .lst ds, x => ∃ a xs, x = .ref a ∧ H a = some (.lst xs) ∧ Rps K W L H ds xs
  | d, x => Rp K W L H d x
theorem Rn.of {d : D} {x : V} (h : Rp K W L H d x) : Rn K W L H (nrm d) x := by
  cases d with
  | tup ds =>
    simp only [Rp] at h
    obtain ⟨a, xs, e, h1, _, h2⟩ := h
    exact ⟨a, xs, e, SqT.of h1, h2⟩
  | kt b ds =>
    cases b with
    | true =>
      simp only [Rp] at h
      obtain ⟨a, o, xs, e, h1, _, _, h2⟩ := h
      exact ⟨a, xs, e, .inl (.inr ⟨o, h1⟩), h2⟩
    | false =>
      simp only [Rp] at h
      obtain ⟨a, xs, e, h1, _, h2⟩ := h
      exact ⟨a, xs, e, h1 H, h2⟩
  | lst ds =>
    simp only [Rp] at h
    obtain ⟨a, xs, e, h1, _, _, h2⟩ := h
    exact ⟨a, xs, e, h1, h2⟩
  | _ => exact h
theorem Rn.ofS {st : Sto} {d : D} {x : V} (S : Sim K W L H st) (h : Rp K W L H d x) : Rn K W L H (nrm (deref st d)) x := by
  cases d with
  | loc n =>
    simp only [deref]
    split
    · rename_i xs e
      obtain ⟨a, hL, r⟩ := S.at_ e
      simp only [Rp] at h
      obtain ⟨b, rfl, hb⟩ := h
      rw [hL] at hb; cases hb
      obtain ⟨ys, e1, _, e2⟩ := r
      exact ⟨a, ys, rfl, e1, e2⟩
    · exact h
  | _ => exact Rn.of h
theorem Rps_cons {d : D} {ds : List D} {xs : List V} (h : Rps K W L H (d :: ds) xs) : ∃ y ys, xs = y :: ys ∧ Rp K W L H d y ∧ Rps K W L H ds ys := by simpa only [Rps] using h
theorem Rps_nil {xs : List V} (h : Rps K W L H [] xs) : xs = [] := by simpa only [Rps] using h
theorem at_tup {a : Addr} {xs : List V} (I : Inv X pins σ H s) (h : SqT X.K H a xs) : ∃ its : List Value, Vals xs its ∧ s.heap.IsTuple a its.toArray ∧ its.length = xs.length := by
  obtain ⟨its, r, p, _⟩ := I.tuple h
  exact ⟨its, r, p, r.length.symm⟩
theorem at_lst {a : Addr} {xs : List V} (I : Inv X pins σ H s) (h : H a = some (.lst xs)) : ∃ its : List Value, Vals xs its ∧ s.heap.IsList a its.toArray ∧ its.length = xs.length := by
  obtain ⟨its, r, p, _⟩ := I.list (SqL.of h)
  exact ⟨its, r, p.isList, r.length.symm⟩
theorem tup_lst {a : Addr} {xs ys : List V} (I : Inv X pins σ H s) (h : SqT X.K H a xs) (h' : H a = some (.lst ys)) : False := by
  obtain ⟨_, _, q1, _⟩ := at_tup I h
  obtain ⟨_, _, q2, _⟩ := at_lst I h'
  exact SeqAt.ne_of_list_tuple q2 q1 rfl
/-! ### the same value -/
theorem eqL_same {f : D → D → Option Bool} (ih : ∀ d e x r, Rp K W L H d x → Rp K W L H e x → f d e = some r → r = true) :
    ∀ ds es xs r, Rps K W L H ds xs → Rps K W L H es xs → eqL f ds es = some r → r = true := by
  intro ds
  induction ds with
  | nil =>
    intro es xs r h1 h2 e
    have z := Rps_nil h1
    subst z
    cases es with
    | nil => simp [eqL] at e; exact e
    | cons c es =>
      obtain ⟨y, ys, q, _⟩ := Rps_cons h2
      cases q
  | cons d ds ihl =>
    intro es xs r h1 h2 e
    obtain ⟨y, ys, rfl, r1, r2⟩ := Rps_cons h1
    cases es with
    | nil => cases Rps_nil h2
    | cons c es =>
      obtain ⟨y', ys', q, q1, q2⟩ := Rps_cons h2
      cases q
      unfold eqL at e
      split at e
      · rename_i a b ha hb
        rw [ih _ _ _ _ r1 q1 ha, ihl _ _ _ r2 q2 hb] at e
        simp at e
        exact e
      · cases e
theorem eqN_same (I : Inv X pins σ H s) {f : D → D → Option Bool} (ih : ∀ d e x r, Rp X.K W L H d x → Rp X.K W L H e x → f d e = some r → r = true) (d e : D) (x : V) (r : Bool) (h1 : Rn X.K W L H d x) (h2 : Rn X.K W L H e x) (h : eqN f d e = some r) : r = true := by
  cases d <;> cases e <;> simp only [eqN] at h <;> (first | (cases h; done) | skip) <;> simp only [Rn, Rp] at h1 h2 <;> first
    | (subst h1; cases h2 <;> simpa using h.symm)
    | (subst h1; obtain ⟨_, _, q, _⟩ := h2; cases q)
    | (subst h2; obtain ⟨_, _, q, _⟩ := h1; cases q)
    | skip
  · obtain ⟨a, xs, rfl, p1, r1⟩ := h1
    obtain ⟨b, ys, q, p2, r2⟩ := h2
    cases q
    cases I.tuple_inj p1 p2
    exact eqL_same ih _ _ _ _ r1 r2 h
  · obtain ⟨a, xs, rfl, p1, _⟩ := h1
    obtain ⟨b, ys, q, p2, _⟩ := h2
    cases q
    exact (tup_lst I p1 p2).elim
  · obtain ⟨a, xs, rfl, p1, _⟩ := h1
    obtain ⟨b, ys, q, p2, _⟩ := h2
    cases q
    exact (tup_lst I p2 p1).elim
  · obtain ⟨a, xs, rfl, p1, r1⟩ := h1
    obtain ⟨b, ys, q, p2, r2⟩ := h2
    cases q
    rw [p1] at p2; cases p2
    split at h
    · exact eqL_same ih _ _ _ _ r1 r2 h
    · rename_i hn
      exact absurd (r1.length.trans r2.length.symm) hn
theorem eqD_same (I : Inv X pins σ H s) : ∀ (n : Nat) (d e : D) (x : V) (r : Bool), Rp X.K W L H d x → Rp X.K W L H e x → eqD n d e = some r → r = true
  | 0, _, _, _, _, _, _, h => by simp [eqD] at h
  | n + 1, d, e, x, r, h1, h2, h => eqN_same I (eqD_same I n) _ _ x r (.of h1) (.of h2) h
/-- the answers at the places -/
def ansAt (f : D → D → Option Bool) (ds es : List D) (j : Nat) : Bool := (f (ds.getD j .non) (es.getD j .non)).getD false
theorem eqL_spec (f : D → D → Option Bool) : ∀ (ds es : List D) (r : Bool), eqL f ds es = some r →
    r = ((List.range (min ds.length es.length)).all (ansAt f ds es) && ds.length == es.length) ∧ ∀ j, j < ds.length → j < es.length → f (ds.getD j .non) (es.getD j .non) = some (ansAt f ds es j)
  | [], [], r, h => by simp [eqL] at h; subst h; exact ⟨rfl, fun j h => absurd h (Nat.not_lt_zero _)⟩
  | [], _ :: _, r, h => by simp [eqL] at h; subst h; exact ⟨by simp, fun j h => absurd h (Nat.not_lt_zero _)⟩
  | _ :: _, [], r, h => by simp [eqL] at h; subst h; exact ⟨by simp, fun j _ h => absurd h (Nat.not_lt_zero _)⟩
  | d :: ds, e :: es, r, h => by
    unfold eqL at h
    split at h
    · rename_i a b ha hb
      obtain ⟨i1, i2⟩ := eqL_spec f ds es b hb
      have hr : (a && b) = r := by simpa using h
      refine ⟨?_, fun j h1 h2 => ?_⟩
      · have e1 : min (d :: ds).length (e :: es).length = min ds.length es.length + 1 := by simp only [List.length_cons]; omega
        have e2 : ((d :: ds).length == (e :: es).length) = (ds.length == es.length) := by simp
        have e3 : (List.range (min ds.length es.length + 1)).all (ansAt f (d :: ds) (e :: es)) = (a && (List.range (min ds.length es.length)).all (ansAt f ds es)) := by
          rw [List.range_succ_eq_map, List.all_cons, List.all_map]
          have z : ansAt f (d :: ds) (e :: es) 0 = a := by simp [ansAt, ha]
          rw [z]
          congr 1
        rw [e1, e2, e3, ← hr, i1, Bool.and_assoc]
      · cases j with
        | zero => simp [ansAt, ha]
        | succ j => simpa [ansAt] using i2 j (by simpa using h1) (by simpa using h2)
    · cases h
/-- in real values -/
theorem rps_vals {ds : List D} {xs : List V} {us : List Value} (h : Rps K W L H ds xs) (r : Vals xs us) (j : Nat) (hj : j < us.length) :
    ∃ x, Rp K W L H (ds.getD j .non) x ∧ RelV x us[j] := by
  have l1 := h.length
  have l2 := r.length
  obtain ⟨d, hd⟩ : ∃ d, ds[j]? = some d := ⟨ds[j], List.getElem?_eq_getElem (by omega)⟩
  obtain ⟨x, hx, rx⟩ := h.get hd
  obtain ⟨u, hu, ru⟩ := r.get hx
  refine ⟨x, by rw [List.getD_eq_getElem?_getD, hd]; exact rx, ?_⟩
  rw [List.getElem?_eq_getElem hj] at hu
  cases hu
  exact ru
theorem in1u {A : Around} {n : Nat} (h : A.units + (n + 1) < cLine) : A.in1.units + n < cLine := by
  show A.units + 1 + n < cLine
  omega
theorem eqN_at (I : Inv X pins σ H s) {n : Nat} (A : Around) (ih : ∀ (d e : D) (x y : V) (u v : Value) (r : Bool), eqD n d e = some r → Rp X.K W L H d x → Rp X.K W L H e y → RelV x u → RelV y v → A.in1.units + n < cLine → SeqAt.EqAt A.in1 s u v r)
    (d e : D) (x y : V) (u v : Value) (r : Bool) (h : eqN (eqD n) d e = some r) (h1 : Rn X.K W L H d x) (h2 : Rn X.K W L H e y) (r1 : RelV x u) (r2 : RelV y v) (hu : A.units + (n + 1) < cLine) (huv : ¬ u = v) : SeqAt.EqAt A s u v r := by
  have hu0 : A.units < cLine := by omega
  cases d <;> cases e <;> simp only [eqN] at h <;> (first | (cases h; done) | skip) <;> simp only [Rn, Rp] at h1 h2 <;> first
    | (subst h1 h2; cases vNon r1; cases vNon r2; cases h; exact absurd rfl huv)
    | (subst h1 h2; cases vNon r1; cases vBl r2; cases h; exact .none_bool _)
    | (subst h1 h2; cases vNon r1; obtain ⟨_, rfl⟩ := vInt r2; cases h; exact .none_int _ _)
    | (subst h1 h2; cases vNon r1; obtain ⟨_, rfl⟩ := vStr r2; cases h; exact .none_str _ _)
    | (subst h1 h2; cases vBl r1; cases vNon r2; cases h; exact .bool_none _)
    | (subst h1 h2; cases vBl r1; cases vBl r2; cases h; exact .bool_bool _ _)
    | (subst h1 h2; cases vBl r1; obtain ⟨_, rfl⟩ := vInt r2; cases h; exact .bool_int _ _ _)
    | (subst h1 h2; cases vBl r1; obtain ⟨_, rfl⟩ := vStr r2; cases h; exact .bool_str _ _ _)
    | (subst h1 h2; obtain ⟨_, rfl⟩ := vInt r1; cases vNon r2; cases h; exact .int_none _ _)
    | (subst h1 h2; obtain ⟨_, rfl⟩ := vInt r1; cases vBl r2; cases h; exact .int_bool _ _ _)
    | (subst h1 h2; obtain ⟨_, rfl⟩ := vInt r1; obtain ⟨_, rfl⟩ := vInt r2; cases h; exact .int_int _ _ _ _)
    | (subst h1 h2; obtain ⟨_, rfl⟩ := vInt r1; obtain ⟨_, rfl⟩ := vStr r2; cases h; exact .int_str _ _ _ _)
    | (subst h1 h2; obtain ⟨_, rfl⟩ := vStr r1; cases vNon r2; cases h; exact .str_none _ _)
    | (subst h1 h2; obtain ⟨_, rfl⟩ := vStr r1; cases vBl r2; cases h; exact .str_bool _ _ _)
    | (subst h1 h2; obtain ⟨_, rfl⟩ := vStr r1; obtain ⟨_, rfl⟩ := vInt r2; cases h; exact .str_int _ _ _ _)
    | (subst h1 h2; obtain ⟨_, rfl⟩ := vStr r1; obtain ⟨_, rfl⟩ := vStr r2; cases h; exact .str_str _ _ _ _)
    | (subst h1; obtain ⟨b, ys, rfl, p2, _⟩ := h2; cases vRef r2; have z0 := at_tup I p2; obtain ⟨its, _, q, _⟩ := z0; cases vNon r1; cases h; exact .none_tuple  q hu0)
    | (subst h2; obtain ⟨b, ys, rfl, p2, _⟩ := h1; cases vRef r1; have z0 := at_tup I p2; obtain ⟨its, _, q, _⟩ := z0; cases vNon r2; cases h; exact .tuple_none  q hu0)
    | (subst h1; obtain ⟨b, ys, rfl, p2, _⟩ := h2; cases vRef r2; have z0 := at_lst I p2; obtain ⟨its, _, q, _⟩ := z0; cases vNon r1; cases h; exact .none_list  q hu0)
    | (subst h2; obtain ⟨b, ys, rfl, p2, _⟩ := h1; cases vRef r1; have z0 := at_lst I p2; obtain ⟨its, _, q, _⟩ := z0; cases vNon r2; cases h; exact .list_none  q hu0)
    | (subst h1; obtain ⟨b, ys, rfl, p2, _⟩ := h2; cases vRef r2; have z0 := at_tup I p2; obtain ⟨its, _, q, _⟩ := z0; cases vBl r1; cases h; exact .bool_tuple _ q hu0)
    | (subst h2; obtain ⟨b, ys, rfl, p2, _⟩ := h1; cases vRef r1; have z0 := at_tup I p2; obtain ⟨its, _, q, _⟩ := z0; cases vBl r2; cases h; exact .tuple_bool _ q hu0)
    | (subst h1; obtain ⟨b, ys, rfl, p2, _⟩ := h2; cases vRef r2; have z0 := at_lst I p2; obtain ⟨its, _, q, _⟩ := z0; cases vBl r1; cases h; exact .bool_list _ q hu0)
    | (subst h2; obtain ⟨b, ys, rfl, p2, _⟩ := h1; cases vRef r1; have z0 := at_lst I p2; obtain ⟨its, _, q, _⟩ := z0; cases vBl r2; cases h; exact .list_bool _ q hu0)
    | (subst h1; obtain ⟨b, ys, rfl, p2, _⟩ := h2; cases vRef r2; have z0 := at_tup I p2; obtain ⟨its, _, q, _⟩ := z0; obtain ⟨_, rfl⟩ := vInt r1; cases h; exact .int_tuple _ _ q hu0)
    | (subst h2; obtain ⟨b, ys, rfl, p2, _⟩ := h1; cases vRef r1; have z0 := at_tup I p2; obtain ⟨its, _, q, _⟩ := z0; obtain ⟨_, rfl⟩ := vInt r2; cases h; exact .tuple_int _ _ q hu0)
    | (subst h1; obtain ⟨b, ys, rfl, p2, _⟩ := h2; cases vRef r2; have z0 := at_lst I p2; obtain ⟨its, _, q, _⟩ := z0; obtain ⟨_, rfl⟩ := vInt r1; cases h; exact .int_list _ _ q hu0)
    | (subst h2; obtain ⟨b, ys, rfl, p2, _⟩ := h1; cases vRef r1; have z0 := at_lst I p2; obtain ⟨its, _, q, _⟩ := z0; obtain ⟨_, rfl⟩ := vInt r2; cases h; exact .list_int _ _ q hu0)
    | (subst h1; obtain ⟨b, ys, rfl, p2, _⟩ := h2; cases vRef r2; have z0 := at_tup I p2; obtain ⟨its, _, q, _⟩ := z0; obtain ⟨_, rfl⟩ := vStr r1; cases h; exact .str_tuple _ _ q hu0)
    | (subst h2; obtain ⟨b, ys, rfl, p2, _⟩ := h1; cases vRef r1; have z0 := at_tup I p2; obtain ⟨its, _, q, _⟩ := z0; obtain ⟨_, rfl⟩ := vStr r2; cases h; exact .tuple_str _ _ q hu0)
    | (subst h1; obtain ⟨b, ys, rfl, p2, _⟩ := h2; cases vRef r2; have z0 := at_lst I p2; obtain ⟨its, _, q, _⟩ := z0; obtain ⟨_, rfl⟩ := vStr r1; cases h; exact .str_list _ _ q hu0)
    | (subst h2; obtain ⟨b, ys, rfl, p2, _⟩ := h1; cases vRef r1; have z0 := at_lst I p2; obtain ⟨its, _, q, _⟩ := z0; obtain ⟨_, rfl⟩ := vStr r2; cases h; exact .list_str _ _ q hu0)
    | (obtain ⟨a, xs, rfl, p1, _⟩ := h1; obtain ⟨b, ys, rfl, p2, _⟩ := h2; cases vRef r1; cases vRef r2; have z1 := at_tup I p1; have z2 := at_lst I p2; obtain ⟨_, _, q1, _⟩ := z1; obtain ⟨_, _, q2, _⟩ := z2; cases h; exact .tuple_list q1 q2 hu0)
    | (obtain ⟨a, xs, rfl, p1, _⟩ := h1; obtain ⟨b, ys, rfl, p2, _⟩ := h2; cases vRef r1; cases vRef r2; have z1 := at_lst I p1; have z2 := at_tup I p2; obtain ⟨_, _, q1, _⟩ := z1; obtain ⟨_, _, q2, _⟩ := z2; cases h; exact .list_tuple q1 q2 hu0)
    | skip
  · rename_i ds es
    obtain ⟨a, xs, rfl, p1, k1⟩ := h1
    obtain ⟨b, ys, rfl, p2, k2⟩ := h2
    cases vRef r1; cases vRef r2
    obtain ⟨us, v1, q1, l1⟩ := at_tup I p1
    obtain ⟨vs, v2, q2, l2⟩ := at_tup I p2
    obtain ⟨e1, e2⟩ := eqL_spec _ _ _ _ h
    have n1 := k1.length
    have n2 := k2.length
    have hr : r = ((List.range (min us.toArray.size vs.toArray.size)).all (ansAt (eqD n) ds es) && us.toArray.size == vs.toArray.size) := by
      rw [e1, List.size_toArray, List.size_toArray, l1, l2, n1, n2]
    rw [hr]
    refine .of_refs (fun q => huv (by rw [q])) (.tuples q1 q2 hu0 fun j j1 j2 => ?_)
    rw [List.size_toArray] at j1 j2
    obtain ⟨x', rx, ux⟩ := rps_vals k1 v1 j j1
    obtain ⟨y', ry, uy⟩ := rps_vals k2 v2 j j2
    rw [List.getElem_toArray, List.getElem_toArray]
    exact ih _ _ _ _ _ _ _ (e2 j (by omega) (by omega)) rx ry ux uy (in1u hu)
  · rename_i ds es
    obtain ⟨a, xs, rfl, p1, k1⟩ := h1
    obtain ⟨b, ys, rfl, p2, k2⟩ := h2
    cases vRef r1; cases vRef r2
    obtain ⟨us, v1, q1, l1⟩ := at_lst I p1
    obtain ⟨vs, v2, q2, l2⟩ := at_lst I p2
    have n1 := k1.length
    have n2 := k2.length
    split at h
    · rename_i hl
      obtain ⟨e1, e2⟩ := eqL_spec _ _ _ _ h
      have hr : r = (List.range us.toArray.size).all (ansAt (eqD n) ds es) := by
        rw [e1, List.size_toArray, l1, ← n1, hl, Nat.min_self]
        simp
      rw [hr]
      refine .of_refs (fun q => huv (by rw [q])) (.lists q1 q2 (by rw [List.size_toArray, List.size_toArray]; omega) hu0 fun j j1 j2 => ?_)
      rw [List.size_toArray] at j1 j2
      obtain ⟨x', rx, ux⟩ := rps_vals k1 v1 j j1
      obtain ⟨y', ry, uy⟩ := rps_vals k2 v2 j j2
      rw [List.getElem_toArray, List.getElem_toArray]
      exact ih _ _ _ _ _ _ _ (e2 j (by omega) (by omega)) rx ry ux uy (in1u hu)
    · rename_i hl
      cases h
      exact .of_refs (fun q => huv (by rw [q])) (.lists_lengths q1 q2 (by rw [List.size_toArray, List.size_toArray]; simp; omega) hu0)
theorem rcN_at (I : Inv X pins σ H s) {n : Nat} (A : Around) (ih : ∀ (d e : D) (x y : V) (u v : Value) (r : Bool), eqD n d e = some r → Rp X.K W L H d x → Rp X.K W L H e y → RelV x u → RelV y v → A.in1.units + n < cLine → SeqAt.EqAt A.in1 s u v r)
    (d e : D) (x y : V) (u v : Value) (r : Bool) (h : eqN (eqD n) d e = some r) (h1 : Rn X.K W L H d x) (h2 : Rn X.K W L H e y) (r1 : RelV x u) (r2 : RelV y v) (hu : A.units + (n + 1) < cLine) : SeqAt.RcAt A s u v r := by
  have hu0 : A.units < cLine := by omega
  cases d <;> cases e <;> simp only [eqN] at h <;> (first | (cases h; done) | skip) <;> simp only [Rn, Rp] at h1 h2 <;> first
    | (subst h1 h2; cases vNon r1; cases vNon r2; cases h; exact .none_none)
    | (subst h1 h2; cases vNon r1; cases vBl r2; cases h; exact .none_bool _)
    | (subst h1 h2; cases vNon r1; obtain ⟨_, rfl⟩ := vInt r2; cases h; exact .none_int _ _)
    | (subst h1 h2; cases vNon r1; obtain ⟨_, rfl⟩ := vStr r2; cases h; exact .none_str _ _)
    | (subst h1 h2; cases vBl r1; cases vNon r2; cases h; exact .bool_none _)
    | (subst h1 h2; cases vBl r1; cases vBl r2; cases h; exact .bool_bool _ _)
    | (subst h1 h2; cases vBl r1; obtain ⟨_, rfl⟩ := vInt r2; cases h; exact .bool_int _ _ _)
    | (subst h1 h2; cases vBl r1; obtain ⟨_, rfl⟩ := vStr r2; cases h; exact .bool_str _ _ _)
    | (subst h1 h2; obtain ⟨_, rfl⟩ := vInt r1; cases vNon r2; cases h; exact .int_none _ _)
    | (subst h1 h2; obtain ⟨_, rfl⟩ := vInt r1; cases vBl r2; cases h; exact .int_bool _ _ _)
    | (subst h1 h2; obtain ⟨_, rfl⟩ := vInt r1; obtain ⟨_, rfl⟩ := vInt r2; cases h; exact .int_int _ _ _ _)
    | (subst h1 h2; obtain ⟨_, rfl⟩ := vInt r1; obtain ⟨_, rfl⟩ := vStr r2; cases h; exact .int_str _ _ _ _)
    | (subst h1 h2; obtain ⟨_, rfl⟩ := vStr r1; cases vNon r2; cases h; exact .str_none _ _)
    | (subst h1 h2; obtain ⟨_, rfl⟩ := vStr r1; cases vBl r2; cases h; exact .str_bool _ _ _)
    | (subst h1 h2; obtain ⟨_, rfl⟩ := vStr r1; obtain ⟨_, rfl⟩ := vInt r2; cases h; exact .str_int _ _ _ _)
    | (subst h1 h2; obtain ⟨_, rfl⟩ := vStr r1; obtain ⟨_, rfl⟩ := vStr r2; cases h; exact .str_str _ _ _ _)
    | (subst h1; obtain ⟨b, ys, rfl, p2, _⟩ := h2; cases vRef r2; have z0 := at_tup I p2; obtain ⟨its, _, q, _⟩ := z0; cases vNon r1; cases h; exact .none_tuple  q hu0)
    | (subst h2; obtain ⟨b, ys, rfl, p2, _⟩ := h1; cases vRef r1; have z0 := at_tup I p2; obtain ⟨its, _, q, _⟩ := z0; cases vNon r2; cases h; exact .tuple_none  q hu0)
    | (subst h1; obtain ⟨b, ys, rfl, p2, _⟩ := h2; cases vRef r2; have z0 := at_lst I p2; obtain ⟨its, _, q, _⟩ := z0; cases vNon r1; cases h; exact .none_list  q hu0)
    | (subst h2; obtain ⟨b, ys, rfl, p2, _⟩ := h1; cases vRef r1; have z0 := at_lst I p2; obtain ⟨its, _, q, _⟩ := z0; cases vNon r2; cases h; exact .list_none  q hu0)
    | (subst h1; obtain ⟨b, ys, rfl, p2, _⟩ := h2; cases vRef r2; have z0 := at_tup I p2; obtain ⟨its, _, q, _⟩ := z0; cases vBl r1; cases h; exact .bool_tuple _ q hu0)
    | (subst h2; obtain ⟨b, ys, rfl, p2, _⟩ := h1; cases vRef r1; have z0 := at_tup I p2; obtain ⟨its, _, q, _⟩ := z0; cases vBl r2; cases h; exact .tuple_bool _ q hu0)
    | (subst h1; obtain ⟨b, ys, rfl, p2, _⟩ := h2; cases vRef r2; have z0 := at_lst I p2; obtain ⟨its, _, q, _⟩ := z0; cases vBl r1; cases h; exact .bool_list _ q hu0)
    | (subst h2; obtain ⟨b, ys, rfl, p2, _⟩ := h1; cases vRef r1; have z0 := at_lst I p2; obtain ⟨its, _, q, _⟩ := z0; cases vBl r2; cases h; exact .list_bool _ q hu0)
    | (subst h1; obtain ⟨b, ys, rfl, p2, _⟩ := h2; cases vRef r2; have z0 := at_tup I p2; obtain ⟨its, _, q, _⟩ := z0; obtain ⟨_, rfl⟩ := vInt r1; cases h; exact .int_tuple _ _ q hu0)
    | (subst h2; obtain ⟨b, ys, rfl, p2, _⟩ := h1; cases vRef r1; have z0 := at_tup I p2; obtain ⟨its, _, q, _⟩ := z0; obtain ⟨_, rfl⟩ := vInt r2; cases h; exact .tuple_int _ _ q hu0)
    | (subst h1; obtain ⟨b, ys, rfl, p2, _⟩ := h2; cases vRef r2; have z0 := at_lst I p2; obtain ⟨its, _, q, _⟩ := z0; obtain ⟨_, rfl⟩ := vInt r1; cases h; exact .int_list _ _ q hu0)
    | (subst h2; obtain ⟨b, ys, rfl, p2, _⟩ := h1; cases vRef r1; have z0 := at_lst I p2; obtain ⟨its, _, q, _⟩ := z0; obtain ⟨_, rfl⟩ := vInt r2; cases h; exact .list_int _ _ q hu0)
    | (subst h1; obtain ⟨b, ys, rfl, p2, _⟩ := h2; cases vRef r2; have z0 := at_tup I p2; obtain ⟨its, _, q, _⟩ := z0; obtain ⟨_, rfl⟩ := vStr r1; cases h; exact .str_tuple _ _ q hu0)
    | (subst h2; obtain ⟨b, ys, rfl, p2, _⟩ := h1; cases vRef r1; have z0 := at_tup I p2; obtain ⟨its, _, q, _⟩ := z0; obtain ⟨_, rfl⟩ := vStr r2; cases h; exact .tuple_str _ _ q hu0)
    | (subst h1; obtain ⟨b, ys, rfl, p2, _⟩ := h2; cases vRef r2; have z0 := at_lst I p2; obtain ⟨its, _, q, _⟩ := z0; obtain ⟨_, rfl⟩ := vStr r1; cases h; exact .str_list _ _ q hu0)
    | (subst h2; obtain ⟨b, ys, rfl, p2, _⟩ := h1; cases vRef r1; have z0 := at_lst I p2; obtain ⟨its, _, q, _⟩ := z0; obtain ⟨_, rfl⟩ := vStr r2; cases h; exact .list_str _ _ q hu0)
    | (obtain ⟨a, xs, rfl, p1, _⟩ := h1; obtain ⟨b, ys, rfl, p2, _⟩ := h2; cases vRef r1; cases vRef r2; have z1 := at_tup I p1; have z2 := at_lst I p2; obtain ⟨_, _, q1, _⟩ := z1; obtain ⟨_, _, q2, _⟩ := z2; cases h; exact .tuple_list q1 q2 hu0)
    | (obtain ⟨a, xs, rfl, p1, _⟩ := h1; obtain ⟨b, ys, rfl, p2, _⟩ := h2; cases vRef r1; cases vRef r2; have z1 := at_lst I p1; have z2 := at_tup I p2; obtain ⟨_, _, q1, _⟩ := z1; obtain ⟨_, _, q2, _⟩ := z2; cases h; exact .list_tuple q1 q2 hu0)
    | skip
  · rename_i ds es
    obtain ⟨a, xs, rfl, p1, k1⟩ := h1
    obtain ⟨b, ys, rfl, p2, k2⟩ := h2
    cases vRef r1; cases vRef r2
    obtain ⟨us, v1, q1, l1⟩ := at_tup I p1
    obtain ⟨vs, v2, q2, l2⟩ := at_tup I p2
    obtain ⟨e1, e2⟩ := eqL_spec _ _ _ _ h
    have n1 := k1.length
    have n2 := k2.length
    have hr : r = ((List.range (min us.toArray.size vs.toArray.size)).all (ansAt (eqD n) ds es) && us.toArray.size == vs.toArray.size) := by
      rw [e1, List.size_toArray, List.size_toArray, l1, l2, n1, n2]
    rw [hr]
    refine (.tuples q1 q2 hu0 fun j j1 j2 => ?_)
    rw [List.size_toArray] at j1 j2
    obtain ⟨x', rx, ux⟩ := rps_vals k1 v1 j j1
    obtain ⟨y', ry, uy⟩ := rps_vals k2 v2 j j2
    rw [List.getElem_toArray, List.getElem_toArray]
    exact ih _ _ _ _ _ _ _ (e2 j (by omega) (by omega)) rx ry ux uy (in1u hu)
  · rename_i ds es
    obtain ⟨a, xs, rfl, p1, k1⟩ := h1
    obtain ⟨b, ys, rfl, p2, k2⟩ := h2
    cases vRef r1; cases vRef r2
    obtain ⟨us, v1, q1, l1⟩ := at_lst I p1
    obtain ⟨vs, v2, q2, l2⟩ := at_lst I p2
    have n1 := k1.length
    have n2 := k2.length
    split at h
    · rename_i hl
      obtain ⟨e1, e2⟩ := eqL_spec _ _ _ _ h
      have hr : r = (List.range us.toArray.size).all (ansAt (eqD n) ds es) := by
        rw [e1, List.size_toArray, l1, ← n1, hl, Nat.min_self]
        simp
      rw [hr]
      refine (.lists q1 q2 (by rw [List.size_toArray, List.size_toArray]; omega) hu0 fun j j1 j2 => ?_)
      rw [List.size_toArray] at j1 j2
      obtain ⟨x', rx, ux⟩ := rps_vals k1 v1 j j1
      obtain ⟨y', ry, uy⟩ := rps_vals k2 v2 j j2
      rw [List.getElem_toArray, List.getElem_toArray]
      exact ih _ _ _ _ _ _ _ (e2 j (by omega) (by omega)) rx ry ux uy (in1u hu)
    · rename_i hl
      cases h
      exact .lists_lengths q1 q2 (by rw [List.size_toArray, List.size_toArray]; simp; omega) hu0
theorem rnN_at (I : Inv X pins σ H s) {n : Nat} (A : Around) (ih : ∀ (d e : D) (x y : V) (u v : Value) (r : Bool), eqD n d e = some r → Rp X.K W L H d x → Rp X.K W L H e y → RelV x u → RelV y v → A.in1.units + n < cLine → SeqAt.EqAt A.in1 s u v r)
    (d e : D) (x y : V) (u v : Value) (r : Bool) (h : eqN (eqD n) d e = some r) (h1 : Rn X.K W L H d x) (h2 : Rn X.K W L H e y) (r1 : RelV x u) (r2 : RelV y v) (hu : A.units + (n + 1) < cLine) : SeqAt.RcNeAt A s u v (!r) := by
  have hu0 : A.units < cLine := by omega
  cases d <;> cases e <;> simp only [eqN] at h <;> (first | (cases h; done) | skip) <;> simp only [Rn, Rp] at h1 h2 <;> first
    | (subst h1 h2; cases vNon r1; cases vNon r2; cases h; exact .none_none)
    | (subst h1 h2; cases vNon r1; cases vBl r2; cases h; exact .none_bool _)
    | (subst h1 h2; cases vNon r1; obtain ⟨_, rfl⟩ := vInt r2; cases h; exact .none_int _ _)
    | (subst h1 h2; cases vNon r1; obtain ⟨_, rfl⟩ := vStr r2; cases h; exact .none_str _ _)
    | (subst h1 h2; cases vBl r1; cases vNon r2; cases h; exact .bool_none _)
    | (subst h1 h2; cases vBl r1; cases vBl r2; cases h; exact .bool_bool _ _)
    | (subst h1 h2; cases vBl r1; obtain ⟨_, rfl⟩ := vInt r2; cases h; exact .bool_int _ _ _)
    | (subst h1 h2; cases vBl r1; obtain ⟨_, rfl⟩ := vStr r2; cases h; exact .bool_str _ _ _)
    | (subst h1 h2; obtain ⟨_, rfl⟩ := vInt r1; cases vNon r2; cases h; exact .int_none _ _)
    | (subst h1 h2; obtain ⟨_, rfl⟩ := vInt r1; cases vBl r2; cases h; exact .int_bool _ _ _)
    | (subst h1 h2; obtain ⟨_, rfl⟩ := vInt r1; obtain ⟨_, rfl⟩ := vInt r2; cases h; exact .int_int _ _ _ _)
    | (subst h1 h2; obtain ⟨_, rfl⟩ := vInt r1; obtain ⟨_, rfl⟩ := vStr r2; cases h; exact .int_str _ _ _ _)
    | (subst h1 h2; obtain ⟨_, rfl⟩ := vStr r1; cases vNon r2; cases h; exact .str_none _ _)
    | (subst h1 h2; obtain ⟨_, rfl⟩ := vStr r1; cases vBl r2; cases h; exact .str_bool _ _ _)
    | (subst h1 h2; obtain ⟨_, rfl⟩ := vStr r1; obtain ⟨_, rfl⟩ := vInt r2; cases h; exact .str_int _ _ _ _)
    | (subst h1 h2; obtain ⟨_, rfl⟩ := vStr r1; obtain ⟨_, rfl⟩ := vStr r2; cases h; exact .str_str _ _ _ _)
    | (subst h1; obtain ⟨b, ys, rfl, p2, _⟩ := h2; cases vRef r2; have z0 := at_tup I p2; obtain ⟨its, _, q, _⟩ := z0; cases vNon r1; cases h; exact .none_tuple  q hu0)
    | (subst h2; obtain ⟨b, ys, rfl, p2, _⟩ := h1; cases vRef r1; have z0 := at_tup I p2; obtain ⟨its, _, q, _⟩ := z0; cases vNon r2; cases h; exact .tuple_none  q hu0)
    | (subst h1; obtain ⟨b, ys, rfl, p2, _⟩ := h2; cases vRef r2; have z0 := at_lst I p2; obtain ⟨its, _, q, _⟩ := z0; cases vNon r1; cases h; exact .none_list  q hu0)
    | (subst h2; obtain ⟨b, ys, rfl, p2, _⟩ := h1; cases vRef r1; have z0 := at_lst I p2; obtain ⟨its, _, q, _⟩ := z0; cases vNon r2; cases h; exact .list_none  q hu0)
    | (subst h1; obtain ⟨b, ys, rfl, p2, _⟩ := h2; cases vRef r2; have z0 := at_tup I p2; obtain ⟨its, _, q, _⟩ := z0; cases vBl r1; cases h; exact .bool_tuple _ q hu0)
    | (subst h2; obtain ⟨b, ys, rfl, p2, _⟩ := h1; cases vRef r1; have z0 := at_tup I p2; obtain ⟨its, _, q, _⟩ := z0; cases vBl r2; cases h; exact .tuple_bool _ q hu0)
    | (subst h1; obtain ⟨b, ys, rfl, p2, _⟩ := h2; cases vRef r2; have z0 := at_lst I p2; obtain ⟨its, _, q, _⟩ := z0; cases vBl r1; cases h; exact .bool_list _ q hu0)
    | (subst h2; obtain ⟨b, ys, rfl, p2, _⟩ := h1; cases vRef r1; have z0 := at_lst I p2; obtain ⟨its, _, q, _⟩ := z0; cases vBl r2; cases h; exact .list_bool _ q hu0)
    | (subst h1; obtain ⟨b, ys, rfl, p2, _⟩ := h2; cases vRef r2; have z0 := at_tup I p2; obtain ⟨its, _, q, _⟩ := z0; obtain ⟨_, rfl⟩ := vInt r1; cases h; exact .int_tuple _ _ q hu0)
    | (subst h2; obtain ⟨b, ys, rfl, p2, _⟩ := h1; cases vRef r1; have z0 := at_tup I p2; obtain ⟨its, _, q, _⟩ := z0; obtain ⟨_, rfl⟩ := vInt r2; cases h; exact .tuple_int _ _ q hu0)
    | (subst h1; obtain ⟨b, ys, rfl, p2, _⟩ := h2; cases vRef r2; have z0 := at_lst I p2; obtain ⟨its, _, q, _⟩ := z0; obtain ⟨_, rfl⟩ := vInt r1; cases h; exact .int_list _ _ q hu0)
    | (subst h2; obtain ⟨b, ys, rfl, p2, _⟩ := h1; cases vRef r1; have z0 := at_lst I p2; obtain ⟨its, _, q, _⟩ := z0; obtain ⟨_, rfl⟩ := vInt r2; cases h; exact .list_int _ _ q hu0)
    | (subst h1; obtain ⟨b, ys, rfl, p2, _⟩ := h2; cases vRef r2; have z0 := at_tup I p2; obtain ⟨its, _, q, _⟩ := z0; obtain ⟨_, rfl⟩ := vStr r1; cases h; exact .str_tuple _ _ q hu0)
    | (subst h2; obtain ⟨b, ys, rfl, p2, _⟩ := h1; cases vRef r1; have z0 := at_tup I p2; obtain ⟨its, _, q, _⟩ := z0; obtain ⟨_, rfl⟩ := vStr r2; cases h; exact .tuple_str _ _ q hu0)
    | (subst h1; obtain ⟨b, ys, rfl, p2, _⟩ := h2; cases vRef r2; have z0 := at_lst I p2; obtain ⟨its, _, q, _⟩ := z0; obtain ⟨_, rfl⟩ := vStr r1; cases h; exact .str_list _ _ q hu0)
    | (subst h2; obtain ⟨b, ys, rfl, p2, _⟩ := h1; cases vRef r1; have z0 := at_lst I p2; obtain ⟨its, _, q, _⟩ := z0; obtain ⟨_, rfl⟩ := vStr r2; cases h; exact .list_str _ _ q hu0)
    | (obtain ⟨a, xs, rfl, p1, _⟩ := h1; obtain ⟨b, ys, rfl, p2, _⟩ := h2; cases vRef r1; cases vRef r2; have z1 := at_tup I p1; have z2 := at_lst I p2; obtain ⟨_, _, q1, _⟩ := z1; obtain ⟨_, _, q2, _⟩ := z2; cases h; exact .tuple_list q1 q2 hu0)
    | (obtain ⟨a, xs, rfl, p1, _⟩ := h1; obtain ⟨b, ys, rfl, p2, _⟩ := h2; cases vRef r1; cases vRef r2; have z1 := at_lst I p1; have z2 := at_tup I p2; obtain ⟨_, _, q1, _⟩ := z1; obtain ⟨_, _, q2, _⟩ := z2; cases h; exact .list_tuple q1 q2 hu0)
    | skip
  · rename_i ds es
    obtain ⟨a, xs, rfl, p1, k1⟩ := h1
    obtain ⟨b, ys, rfl, p2, k2⟩ := h2
    cases vRef r1; cases vRef r2
    obtain ⟨us, v1, q1, l1⟩ := at_tup I p1
    obtain ⟨vs, v2, q2, l2⟩ := at_tup I p2
    obtain ⟨e1, e2⟩ := eqL_spec _ _ _ _ h
    have n1 := k1.length
    have n2 := k2.length
    have hr : r = ((List.range (min us.toArray.size vs.toArray.size)).all (ansAt (eqD n) ds es) && us.toArray.size == vs.toArray.size) := by
      rw [e1, List.size_toArray, List.size_toArray, l1, l2, n1, n2]
    rw [hr]
    refine (.tuples q1 q2 hu0 fun j j1 j2 => ?_)
    rw [List.size_toArray] at j1 j2
    obtain ⟨x', rx, ux⟩ := rps_vals k1 v1 j j1
    obtain ⟨y', ry, uy⟩ := rps_vals k2 v2 j j2
    rw [List.getElem_toArray, List.getElem_toArray]
    exact ih _ _ _ _ _ _ _ (e2 j (by omega) (by omega)) rx ry ux uy (in1u hu)
  · rename_i ds es
    obtain ⟨a, xs, rfl, p1, k1⟩ := h1
    obtain ⟨b, ys, rfl, p2, k2⟩ := h2
    cases vRef r1; cases vRef r2
    obtain ⟨us, v1, q1, l1⟩ := at_lst I p1
    obtain ⟨vs, v2, q2, l2⟩ := at_lst I p2
    have n1 := k1.length
    have n2 := k2.length
    split at h
    · rename_i hl
      obtain ⟨e1, e2⟩ := eqL_spec _ _ _ _ h
      have hr : r = (List.range us.toArray.size).all (ansAt (eqD n) ds es) := by
        rw [e1, List.size_toArray, l1, ← n1, hl, Nat.min_self]
        simp
      rw [hr]
      refine (.lists q1 q2 (by rw [List.size_toArray, List.size_toArray]; omega) hu0 fun j j1 j2 => ?_)
      rw [List.size_toArray] at j1 j2
      obtain ⟨x', rx, ux⟩ := rps_vals k1 v1 j j1
      obtain ⟨y', ry, uy⟩ := rps_vals k2 v2 j j2
      rw [List.getElem_toArray, List.getElem_toArray]
      exact ih _ _ _ _ _ _ _ (e2 j (by omega) (by omega)) rx ry ux uy (in1u hu)
    · rename_i hl
      cases h
      exact .lists_lengths q1 q2 (by rw [List.size_toArray, List.size_toArray]; simp; omega) hu0
theorem eqD_at (I : Inv X pins σ H s) : ∀ (n : Nat) (A : Around) (d e : D) (x y : V) (u v : Value) (r : Bool), eqD n d e = some r → Rp X.K W L H d x → Rp X.K W L H e y → RelV x u → RelV y v → A.units + n < cLine → SeqAt.EqAt A s u v r
  | 0, _, _, _, _, _, _, _, _, h, _, _, _, _, _ => by simp [eqD] at h
  | n + 1, A, d, e, x, y, u, v, r, h, h1, h2, r1, r2, hu => by
    by_cases huv : u = v
    · subst huv
      have exy : x = y := r1.inj r2
      subst exy
      rw [eqD_same I (n + 1) d e x r h1 h2 h]
      exact .same _
    · exact eqN_at I A (eqD_at I n A.in1) _ _ x y u v r h (.of h1) (.of h2) r1 r2 hu huv
theorem rcD_at {st : Sto} (S : Sim X.K W L H st) (I : Inv X pins σ H s) (n : Nat) (A : Around) (d e : D) (x y : V) (u v : Value) (r : Bool) (h : eqD n (deref st d) (deref st e) = some r) (h1 : Rp X.K W L H d x) (h2 : Rp X.K W L H e y) (r1 : RelV x u) (r2 : RelV y v) (hu : A.units + n < cLine) : SeqAt.RcAt A s u v r := by
  cases n with
  | zero => simp [eqD] at h
  | succ n => exact rcN_at I A (eqD_at I n A.in1) _ _ x y u v r h (.ofS S h1) (.ofS S h2) r1 r2 hu
theorem rnD_at {st : Sto} (S : Sim X.K W L H st) (I : Inv X pins σ H s) (n : Nat) (A : Around) (d e : D) (x y : V) (u v : Value) (r : Bool) (h : eqD n (deref st d) (deref st e) = some r) (h1 : Rp X.K W L H d x) (h2 : Rp X.K W L H e y) (r1 : RelV x u) (r2 : RelV y v) (hu : A.units + n < cLine) : SeqAt.RcNeAt A s u v (!r) := by
  cases n with
  | zero => simp [eqD] at h
  | succ n => exact rnN_at I A (eqD_at I n A.in1) _ _ x y u v r h (.ofS S h1) (.ofS S h2) r1 r2 hu
/-! ### order -/
theorem ltL_spec (f g : D → D → Option Bool) : ∀ (ds es : List D) (r : Bool), ltL f g ds es = some r →
    ∀ (F G : Nat → Bool) (i : Nat), (∀ j, F (i + j) = ansAt f ds es j) → (∀ j, G (i + j) = ansAt g ds es j) →
    r = Ob.lexAt F G (decide (ds.length < es.length)) i (min ds.length es.length)
  | [], [], r, h, F, G, i, _, _ => by simp [ltL] at h; subst h; rfl
  | [], _ :: _, r, h, F, G, i, _, _ => by simp [ltL] at h; subst h; simp [Ob.lexAt_zero]
  | _ :: _, [], r, h, F, G, i, _, _ => by simp [ltL] at h; subst h; simp [Ob.lexAt_zero]
  | d :: ds, e :: es, r, h, F, G, i, hF, hG => by
    unfold ltL at h
    split at h
    · rename_i a b c ha hb hc
      have ih := ltL_spec f g ds es c hc F G (i + 1) (fun j => by
        have q := hF (j + 1)
        rw [show i + 1 + j = i + (j + 1) by omega, q]
        simp [ansAt]) (fun j => by
        have q := hG (j + 1)
        rw [show i + 1 + j = i + (j + 1) by omega, q]
        simp [ansAt])
      have e1 : min (d :: ds).length (e :: es).length = min ds.length es.length + 1 := by simp only [List.length_cons]; omega
      have e2 : decide ((d :: ds).length < (e :: es).length) = decide (ds.length < es.length) := by simp
      have f0 : F i = a := by have := hF 0; rw [Nat.add_zero] at this; rw [this]; simp [ansAt, ha]
      have g0 : G i = b := by have := hG 0; rw [Nat.add_zero] at this; rw [this]; simp [ansAt, hb]
      rw [e1, e2, Ob.lexAt_succ, f0, g0, ← ih]
      have := Option.some.inj h
      rw [← this]
    · cases h
theorem ltL_all (f g : D → D → Option Bool) : ∀ (ds es : List D) (r : Bool), ltL f g ds es = some r → ∀ j, j < ds.length → j < es.length →
    f (ds.getD j .non) (es.getD j .non) = some (ansAt f ds es j) ∧ g (ds.getD j .non) (es.getD j .non) = some (ansAt g ds es j)
  | [], _, _, _, j, h, _ => absurd h (Nat.not_lt_zero _)
  | _ :: _, [], _, _, j, _, h => absurd h (Nat.not_lt_zero _)
  | d :: ds, e :: es, r, h, j, h1, h2 => by
    unfold ltL at h
    split at h
    · rename_i a b c ha hb hc
      cases j with
      | zero => simp [ansAt, ha, hb]
      | succ j => simpa [ansAt] using ltL_all f g ds es c hc j (by simpa using h1) (by simpa using h2)
    · cases h
theorem ltD_at (I : Inv X pins σ H s) : ∀ (n : Nat) (A : Around) (d e : D) (x y : V) (u v : Value) (r : Bool), ltD n d e = some r → Rp X.K W L H d x → Rp X.K W L H e y → RelV x u → RelV y v → A.units + n < cLine → Ob.RcOp .Lt A s u v r
  | 0, _, _, _, _, _, _, _, _, h, _, _, _, _, _ => by simp [ltD] at h
  | n + 1, A, d, e, x, y, u, v, r, h, h1, h2, r1, r2, hu => by
    have hu0 : A.units < cLine := by omega
    have ih := ltD_at I n A.in1
    have ie := eqD_at (W := W) (L := L) I n A.in1
    cases d <;> cases e <;> simp only [Rp] at h1 h2 <;> simp only [ltD] at h <;> first
      | (cases h; done)
      | (subst h1 h2; obtain ⟨_, rfl⟩ := vInt r1; obtain ⟨_, rfl⟩ := vInt r2; cases h; exact .lt_int _ _ _ _)
      | skip
    · subst h1 h2
      obtain ⟨_, rfl⟩ := vStr r1
      obtain ⟨_, rfl⟩ := vStr r2
      cases h
      intro prog w E Q q
      exact lt_str q
    · rename_i ds es
      obtain ⟨a, xs, rfl, p1, z1, k1⟩ := h1
      obtain ⟨b, ys, rfl, p2, z2, k2⟩ := h2
      cases vRef r1; cases vRef r2
      obtain ⟨us, v1, q1, l1⟩ := at_tup I (.of p1)
      obtain ⟨vs, v2, q2, l2⟩ := at_tup I (.of p2)
      have n1 := k1.length
      have n2 := k2.length
      have e1 := ltL_spec _ _ _ _ _ h (ansAt (eqD n) ds es) (ansAt (ltD n) ds es) 0 (fun j => by rw [Nat.zero_add]) (fun j => by rw [Nat.zero_add])
      have e2 := ltL_all _ _ _ _ _ h
      have hr : r = Ob.lexAt (ansAt (eqD n) ds es) (ansAt (ltD n) ds es) (decide (us.toArray.size < vs.toArray.size)) 0 (min us.toArray.size vs.toArray.size) := by
        rw [e1, List.size_toArray, List.size_toArray, l1, l2, n1, n2]
      rw [hr]
      refine .tuples_lt q1 q2 hu0 (fun j j1 j2 => ?_) (fun j j1 j2 _ => ?_)
      · rw [List.size_toArray] at j1 j2
        obtain ⟨x', rx, ux⟩ := rps_vals k1 v1 j j1
        obtain ⟨y', ry, uy⟩ := rps_vals k2 v2 j j2
        rw [List.getElem_toArray, List.getElem_toArray]
        exact ie _ _ _ _ _ _ _ (e2 j (by omega) (by omega)).1 rx ry ux uy (in1u hu)
      · rw [List.size_toArray] at j1 j2
        obtain ⟨x', rx, ux⟩ := rps_vals k1 v1 j j1
        obtain ⟨y', ry, uy⟩ := rps_vals k2 v2 j j2
        rw [List.getElem_toArray, List.getElem_toArray]
        exact ih _ _ _ _ _ _ _ (e2 j (by omega) (by omega)).2 rx ry ux uy (in1u hu)
end
end Ro
end
section
set_option Elab.async false
set_option linter.all false
set_option autoImplicit false
set_option maxHeartbeats 4000000
namespace Ro
open PySem PySem.Spec PyProof.Rows L2

/-! ## Primitive operations -/
/-- what is wanted behind: of every state that holds st' and a value of d -/
def Kt (K : PySem.W.Frag) (W : Addr → Prop) (L : List Addr) (H : Hp) (d : D) (st' : Sto) (Q : VK) : Prop :=
  ∀ W' L' H' v, Sim K W' L' H' st' → Ext W L H W' L' H' → Rp K W' L' H' d v → Q v H'
def rP2 (K : PySem.W.Frag) (p : Pr) : R2 := fun x y H Q => ∃ W L st a b d st', Sim K W L H st ∧ Rp K W L H a x ∧ Rp K W L H b y ∧ primD p st [a, b] = some (d, st') ∧ Kt K W L H d st' Q
def rPn (K : PySem.W.Frag) (p : Pr) : List V → Hp → VK → Prop := fun xs H Q => ∃ W L st ds d st', Sim K W L H st ∧ Rps K W L H ds xs ∧ primD p st ds = some (d, st') ∧ Kt K W L H d st' Q
section
variable {K : PySem.W.Frag} {W : Addr → Prop} {L : List Addr} {H : Hp} {st st' : Sto} {d : D} {Q : VK}
theorem Kt.same (k : Kt K W L H d st Q) (S : Sim K W L H st) {v : V} (r : Rp K W L H d v) : Q v H := k W L H v S .refl r
theorem Kt.tup {ds : List D} {xs : List V} (k : Kt K W L H (.tup ds) st Q) (S : Sim K W L H st) (r : Rps K W L H ds xs) (z : xs.length ≤ sizeLine) {p : Addr} (hp : H p = none) : Q (.ref p) (upd H p (.tup xs)) :=
  k W L _ _ (S.new hp) (S.newE hp) (by simp only [Rp]; exact ⟨p, xs, rfl, upd_same, z, r.mono S (S.newE hp)⟩)
theorem Kt.lst {ds : List D} {xs : List V} (k : Kt K W L H (.lst ds) st Q) (S : Sim K W L H st) (r : Rps K W L H ds xs) (z : xs.length ≤ sizeLine) {p : Addr} (hp : H p = none) : Q (.ref p) (upd H p (.lst xs)) :=
  k W L _ _ (S.new hp) (S.newE hp) (by simp only [Rp]; exact ⟨p, xs, rfl, upd_same, S.nW hp, z, r.mono S (S.newE hp)⟩)
theorem Kt.newL {m : Bool} {ds : List D} {xs : List V} (e : newL m ds st = some (d, st')) (k : Kt K W L H d st' Q) (S : Sim K W L H st) (r : Rps K W L H ds xs) (z : xs.length ≤ sizeLine) {p : Addr} (hp : H p = none) : Q (.ref p) (upd H p (.lst xs)) := by
  unfold Ro.newL at e
  cases m with
  | false =>
    simp at e
    obtain ⟨rfl, rfl⟩ := e
    exact k.lst S r z hp
  | true =>
    simp at e
    obtain ⟨rfl, rfl⟩ := e
    refine k _ _ _ _ (S.push hp trivial ⟨xs, rfl, z, r.mono S (S.pushE hp)⟩) (S.pushE hp) ?_
    simp only [Rp]
    exact ⟨p, rfl, by rw [← S.len, List.getElem?_append_right (Nat.le_refl _), Nat.sub_self]; rfl⟩
theorem rInt {i : Int} {x : V} (h : Rp K W L H (.int i) x) : x = .int i := by simpa only [Rp] using h
theorem rBl {i : Bool} {x : V} (h : Rp K W L H (.bl i) x) : x = .bl i := by simpa only [Rp] using h
theorem rStr {i : Str} {x : V} (h : Rp K W L H (.str i) x) : x = .str i := by simpa only [Rp] using h
theorem rNon {x : V} (h : Rp K W L H .non x) : x = .non := by simpa only [Rp] using h
theorem mkInt {i : Int} : Rp K W L H (.int i) (.int i) := by simp only [Rp]
theorem mkBl {i : Bool} : Rp K W L H (.bl i) (.bl i) := by simp only [Rp]
theorem mkStr {i : Str} : Rp K W L H (.str i) (.str i) := by simp only [Rp]
theorem mkNon : Rp K W L H .non .non := by simp only [Rp]
theorem rTup {ds : List D} {x : V} (h : Rp K W L H (.tup ds) x) : ∃ a xs, x = .ref a ∧ H a = some (.tup xs) ∧ xs.length ≤ sizeLine ∧ Rps K W L H ds xs := by simpa only [Rp] using h
theorem rLst {ds : List D} {x : V} (h : Rp K W L H (.lst ds) x) : ∃ a xs, x = .ref a ∧ H a = some (.lst xs) ∧ ¬ W a ∧ xs.length ≤ sizeLine ∧ Rps K W L H ds xs := by simpa only [Rp] using h
theorem rLoc {n : Nat} {x : V} (h : Rp K W L H (.loc n) x) : ∃ a, x = .ref a ∧ L[n]? = some a := by simpa only [Rp] using h
/-- a list in the store, its address -/
theorem Sim.lst (S : Sim K W L H st) {n : Nat} {ds : List D} {x : V} (h : Rp K W L H (.loc n) x) (e : st[n]? = some (.lst ds)) : ∃ a xs, x = .ref a ∧ L[n]? = some a ∧ H a = some (.lst xs) ∧ xs.length ≤ sizeLine ∧ Rps K W L H ds xs := by
  obtain ⟨a, rfl, hL⟩ := rLoc h
  obtain ⟨b, hb, xs, e1, e2, e3⟩ := S.at_ e
  rw [hL] at hb; cases hb
  exact ⟨a, xs, rfl, hL, e1, e2, e3⟩
/-- a tuple or a list that is read -/
theorem Sim.seq (S : Sim K W L H st) {ds : List D} {x : V} (h : Rp K W L H d x) (e : seqOf st d = some ds) : ∃ a xs, x = .ref a ∧ (SqL K H a xs ∨ SqT K H a xs) ∧ xs.length ≤ sizeLine ∧ Rps K W L H ds xs := by
  cases d with
  | tup xs =>
    cases e
    obtain ⟨a, ys, rfl, h1, h2, h3⟩ := rTup h
    exact ⟨a, ys, rfl, .inr (SqT.of h1), h2, h3⟩
  | lst xs =>
    cases e
    obtain ⟨a, ys, rfl, h1, _, h2, h3⟩ := rLst h
    exact ⟨a, ys, rfl, .inl (SqL.of h1), h2, h3⟩
  | kt b xs =>
    cases e
    cases b with
    | true =>
      simp only [Rp] at h
      obtain ⟨a, o, ys, rfl, h1, _, h2, h3⟩ := h
      exact ⟨a, ys, rfl, .inr (.inl (.inr ⟨o, h1⟩)), h2, h3⟩
    | false =>
      simp only [Rp] at h
      obtain ⟨a, ys, rfl, h1, h2, h3⟩ := h
      exact ⟨a, ys, rfl, .inr (h1 H), h2, h3⟩
  | kl xs =>
    cases e
    simp only [Rp] at h
    obtain ⟨a, ys, rfl, h1, h2, h3⟩ := h
    exact ⟨a, ys, rfl, .inl h1.sq, h2, h3⟩
  | loc n =>
    simp only [seqOf] at e
    split at e
    · rename_i xs q
      cases e
      obtain ⟨a, ys, rfl, _, h1, h2, h3⟩ := S.lst h q
      exact ⟨a, ys, rfl, .inl (SqL.of h1), h2, h3⟩
    · cases e
  | _ => cases e
theorem Sim.derefL (S : Sim K W L H st) {ds : List D} {x : V} (h : Rp K W L H d x) (e : deref st d = .lst ds) : ∃ a xs, x = .ref a ∧ H a = some (.lst xs) ∧ xs.length ≤ sizeLine ∧ Rps K W L H ds xs := by
  cases d with
  | loc n =>
    simp only [deref] at e
    split at e
    · rename_i q
      cases e
      obtain ⟨a, ys, rfl, _, h1, h2, h3⟩ := S.lst h q
      exact ⟨a, ys, rfl, h1, h2, h3⟩
    · cases e
  | lst xs =>
    simp only [deref] at e
    cases e
    obtain ⟨a, ys, rfl, h1, _, h2, h3⟩ := rLst h
    exact ⟨a, ys, rfl, h1, h2, h3⟩
  | _ => simp only [deref] at e; cases e
theorem intsOf_vals : ∀ {ds : List D} {is : List Int} {xs : List V}, intsOf ds = some is → Rps K W L H ds xs → xs = is.map V.int
  | [], is, xs, e, h => by
    simp [intsOf] at e
    subst e
    rw [Rps_nil h]; rfl
  | d :: ds, is, xs, e, h => by
    cases d with
    | int i =>
      simp only [intsOf] at e
      cases q : intsOf ds with
      | none => rw [q] at e; cases e
      | some js =>
        rw [q] at e
        simp at e
        subst e
        obtain ⟨y, ys, rfl, h1, h2⟩ := Rps_cons h
        rw [rInt h1, intsOf_vals q h2]
        rfl
    | _ => simp [intsOf] at e
theorem blsOf_vals : ∀ {ds : List D} {is : List Bool} {xs : List V}, blsOf ds = some is → Rps K W L H ds xs → xs = is.map V.bl
  | [], is, xs, e, h => by
    simp [blsOf] at e
    subst e
    rw [Rps_nil h]; rfl
  | d :: ds, is, xs, e, h => by
    cases d with
    | bl i =>
      simp only [blsOf] at e
      cases q : blsOf ds with
      | none => rw [q] at e; cases e
      | some js =>
        rw [q] at e
        simp at e
        subst e
        obtain ⟨y, ys, rfl, h1, h2⟩ := Rps_cons h
        rw [rBl h1, blsOf_vals q h2]
        rfl
    | _ => simp [blsOf] at e
end

section
variable {X : Cx}
theorem big_ok {i : Int} (h : big i = true) : -(2 ^ 64) < i ∧ i < 2 ^ 64 := by simpa [big] using h
theorem op_bin (op : Operator) : OpR X (binaryOp op) (rP2 X.K (.bin op)) := by
  intro pins s σ H x y v u Q I rx ry h
  obtain ⟨W, L, st, a, b, d, st', S, ra, rb, e, k⟩ := h
  simp only [primD] at e
  cases eb : binD st op a b with
  | none => rw [eb] at e; cases e
  | some d' =>
    rw [eb] at e
    simp at e
    obtain ⟨rfl, rfl⟩ := e
    unfold binD at eb
    split at eb
    · cases eb; cases rInt ra; cases rInt rb
      exact op_add pins s σ H _ _ v u Q I rx ry ⟨_, _, rfl, rfl, k.same S mkInt⟩
    · cases eb; cases rInt ra; cases rInt rb
      exact op_sub pins s σ H _ _ v u Q I rx ry ⟨_, _, rfl, rfl, k.same S mkInt⟩
    · split at eb
      · rename_i hb
        cases eb; cases rInt ra; cases rInt rb
        simp only [Bool.or_eq_true] at hb
        exact op_mul pins s σ H _ _ v u Q I rx ry ⟨_, _, rfl, rfl, hb.imp big_ok big_ok, k.same S mkInt⟩
      · cases eb
    · split at eb
      · rename_i hb
        cases eb; cases rInt ra; cases rInt rb
        exact op_fdiv pins s σ H _ _ v u Q I rx ry ⟨_, _, rfl, rfl, hb, k.same S mkInt⟩
      · cases eb
    · split at eb
      · rename_i hb
        cases eb; cases rInt ra; cases rInt rb
        exact op_mod pins s σ H _ _ v u Q I rx ry ⟨_, _, rfl, rfl, hb, k.same S mkInt⟩
      · cases eb
    · split at eb
      · rename_i hb
        cases eb; cases rInt ra; cases rInt rb
        exact op_pow pins s σ H _ _ v u Q I rx ry ⟨_, _, rfl, rfl, hb, k.same S mkInt⟩
      · cases eb
    · split at eb
      · rename_i hb
        cases eb
        obtain ⟨p, xs, rfl, h1, h2, h3⟩ := rTup ra
        obtain ⟨q, ys, rfl, g1, g2, g3⟩ := rTup rb
        have z : xs.length + ys.length ≤ sizeLine := by rw [← h3.length, ← g3.length]; exact hb
        refine op_catA pins s σ H _ _ v u Q I rx ry ⟨p, q, xs, ys, rfl, rfl, SqT.of h1, SqT.of g1, z, fun e => ?_, fun _ e => ?_, fun _ _ r hr => ?_⟩
        · subst e
          refine k.same S ?_
          simp only [Rp]
          refine ⟨q, ys, rfl, g1, g2, ?_⟩
          have := h3.append g3
          simpa using this
        · subst e
          refine k.same S ?_
          simp only [Rp]
          refine ⟨p, xs, rfl, h1, h2, ?_⟩
          have := h3.append g3
          simpa using this
        · exact k.tup S (h3.append g3) (by rw [List.length_append]; exact z) hr
      · cases eb
    · split at eb
      · rename_i l1 l2 e1 e2
        split at eb
        · rename_i hb
          cases eb
          obtain ⟨p, xs, rfl, h1, h2, h3⟩ := S.derefL ra e1
          obtain ⟨q, ys, rfl, g1, g2, g3⟩ := S.derefL rb e2
          have z : xs.length + ys.length ≤ sizeLine := by rw [← h3.length, ← g3.length]; exact hb
          refine op_cat pins s σ H _ _ v u Q I rx ry ⟨p, q, xs, ys, rfl, rfl, h1, g1, z, fun r hr => ?_⟩
          exact k.lst S (h3.append g3) (by rw [List.length_append]; exact z) hr
        · cases eb
      · cases eb
    · cases eb
/-- two lists put together, a list that is written later -/
theorem op_catm : OpR X (binaryOp .Add) (rP2 X.K .cat) := by
  intro pins s σ H x y v u Q I rx ry h
  obtain ⟨W, L, st, a, b, d, st', S, ra, rb, e, k⟩ := h
  simp only [primD] at e
  split at e
  · rename_i l1 l2 e1 e2
    split at e
    · rename_i hb
      obtain ⟨p, xs, rfl, h1, h2, h3⟩ := S.derefL ra e1
      obtain ⟨q, ys, rfl, g1, g2, g3⟩ := S.derefL rb e2
      have z : xs.length + ys.length ≤ sizeLine := by rw [← h3.length, ← g3.length]; exact hb
      refine op_cat pins s σ H _ _ v u Q I rx ry ⟨p, q, xs, ys, rfl, rfl, h1, g1, z, fun r hr => ?_⟩
      exact k.newL e S (h3.append g3) (by rw [List.length_append]; exact z) hr
    · cases e
  · cases e
end
end Ro
end
section
set_option Elab.async false
set_option linter.all false
set_option autoImplicit false
set_option maxHeartbeats 4000000
namespace Ro
open PySem PySem.Spec PyProof.Rows L2
/-! ## Comparisons -/
section
variable {X : Cx} {pins : List (Addr × Obj)} {σ : L2.St} {s : Shared} {W : Addr → Prop} {L : List Addr} {H : Hp}
def plainTop : D → Bool
  | .non => true | .bl _ => true | .int _ => true | .str _ => true | .tup _ => true | .lst _ => true
  | _ => false
theorem plain_of {f : D → D → Option Bool} {d e : D} {b : Bool} (h : eqN f d e = some b) : plainTop d = true ∧ plainTop e = true := by
  cases d <;> cases e <;> simp only [eqN] at h <;> first | (cases h; done) | exact ⟨rfl, rfl⟩
theorem uniqTop (I : Inv X pins σ H s) {d d' : D} {x : V} (p : plainTop d = true) (p' : plainTop d' = true) (h : Rn X.K W L H d x) (h' : Rn X.K W L H d' x) :
    d = d' ∨ (∃ ds ds' xs, d = .tup ds ∧ d' = .tup ds' ∧ Rps X.K W L H ds xs ∧ Rps X.K W L H ds' xs) ∨ ∃ ds ds' xs, d = .lst ds ∧ d' = .lst ds' ∧ Rps X.K W L H ds xs ∧ Rps X.K W L H ds' xs := by
  cases d <;> (first | (cases p; done) | skip) <;> cases d' <;> (first | (cases p'; done) | skip) <;> simp only [Rn, Rp] at h h' <;> first
    | (subst h; cases h' <;> exact .inl rfl)
    | (subst h; obtain ⟨_, _, q, _⟩ := h'; cases q)
    | (subst h'; obtain ⟨_, _, q, _⟩ := h; cases q)
    | skip
  · obtain ⟨a, xs, rfl, p1, r1⟩ := h
    obtain ⟨b, ys, q, p2, r2⟩ := h'
    cases q
    cases I.tuple_inj p1 p2
    exact .inr (.inl ⟨_, _, xs, rfl, rfl, r1, r2⟩)
  · obtain ⟨a, xs, rfl, p1, _⟩ := h
    obtain ⟨b, ys, q, p2, _⟩ := h'
    cases q
    exact (tup_lst I p1 p2).elim
  · obtain ⟨a, xs, rfl, p1, _⟩ := h
    obtain ⟨b, ys, q, p2, _⟩ := h'
    cases q
    exact (tup_lst I p2 p1).elim
  · obtain ⟨a, xs, rfl, p1, r1⟩ := h
    obtain ⟨b, ys, q, p2, r2⟩ := h'
    cases q
    rw [p1] at p2; cases p2
    exact .inr (.inr ⟨_, _, xs, rfl, rfl, r1, r2⟩)
theorem eqL_cong {f : D → D → Option Bool} (ih : ∀ d d' e e' x y b b', Rp X.K W L H d x → Rp X.K W L H d' x → Rp X.K W L H e y → Rp X.K W L H e' y → f d e = some b → f d' e' = some b' → b = b') :
    ∀ ds ds' es es' xs ys b b', Rps X.K W L H ds xs → Rps X.K W L H ds' xs → Rps X.K W L H es ys → Rps X.K W L H es' ys → eqL f ds es = some b → eqL f ds' es' = some b' → b = b' := by
  intro ds
  induction ds with
  | nil =>
    intro ds' es es' xs ys b b' h1 h2 h3 h4 e1 e2
    have z := Rps_nil h1
    subst z
    have z1 := h2.length
    have z2 := h3.length.trans h4.length.symm
    cases ds' with
    | cons _ _ => simp at z1
    | nil =>
      cases es <;> cases es' <;> simp [eqL] at e1 e2 z2 <;> (subst e1 e2; rfl)
  | cons d ds ihl =>
    intro ds' es es' xs ys b b' h1 h2 h3 h4 e1 e2
    obtain ⟨x, xr, rfl, p1, p2⟩ := Rps_cons h1
    cases ds' with
    | nil => cases Rps_nil h2
    | cons d' ds' =>
      obtain ⟨x', xr', q, p3, p4⟩ := Rps_cons h2
      cases q
      cases es with
      | nil =>
        have z := Rps_nil h3
        subst z
        cases es' with
        | cons _ _ => obtain ⟨_, _, q, _⟩ := Rps_cons h4; cases q
        | nil => simp [eqL] at e1 e2; subst e1 e2; rfl
      | cons e es =>
        obtain ⟨y, yr, rfl, q1, q2⟩ := Rps_cons h3
        cases es' with
        | nil => cases Rps_nil h4
        | cons e' es' =>
          obtain ⟨y', yr', q, q3, q4⟩ := Rps_cons h4
          cases q
          unfold eqL at e1 e2
          split at e1
          · rename_i a1 b1 ha1 hb1
            split at e2
            · rename_i a2 b2 ha2 hb2
              have z1 := ih _ _ _ _ _ _ _ _ p1 p3 q1 q3 ha1 ha2
              have z2 := ihl _ _ _ _ _ _ _ p2 p4 q2 q4 hb1 hb2
              subst z1 z2
              rw [e1] at e2
              exact Option.some.inj e2
            · cases e2
          · cases e1
theorem eqN_cong (I : Inv X pins σ H s) {f : D → D → Option Bool} (ihf : ∀ d d' e e' x y b b', Rp X.K W L H d x → Rp X.K W L H d' x → Rp X.K W L H e y → Rp X.K W L H e' y → f d e = some b → f d' e' = some b' → b = b')
    (d d' e e' : D) (x y : V) (b b' : Bool) (h1 : Rn X.K W L H d x) (h2 : Rn X.K W L H d' x) (h3 : Rn X.K W L H e y) (h4 : Rn X.K W L H e' y) (e1 : eqN f d e = some b) (e2 : eqN f d' e' = some b') : b = b' := by
  have ih := eqL_cong ihf
  obtain ⟨p1, p3⟩ := plain_of e1
  obtain ⟨p2, p4⟩ := plain_of e2
  rcases uniqTop I p1 p2 h1 h2 with rfl | ⟨ds, ds', xs, rfl, rfl, r1, r2⟩ | ⟨ds, ds', xs, rfl, rfl, r1, r2⟩ <;>
    rcases uniqTop I p3 p4 h3 h4 with rfl | ⟨es, es', ys, rfl, rfl, q1, q2⟩ | ⟨es, es', ys, rfl, rfl, q1, q2⟩
  · rw [e1] at e2; exact Option.some.inj e2
  · cases d <;> simp only [eqN] at e1 e2 <;> first
      | (cases e1; done)
      | (cases e1; cases e2; rfl)
      | skip
    obtain ⟨_, xs, _, _, r⟩ := h1
    exact ih _ _ _ _ _ _ _ _ r r q1 q2 e1 e2
  · cases d <;> simp only [eqN] at e1 e2 <;> first
      | (cases e1; done)
      | (cases e1; cases e2; rfl)
      | skip
    obtain ⟨_, xs, _, _, r⟩ := h1
    rw [q1.length.trans q2.length.symm] at e1
    split at e1
    · rename_i hl
      rw [if_pos hl] at e2
      exact ih _ _ _ _ _ _ _ _ r r q1 q2 e1 e2
    · rename_i hl
      rw [if_neg hl] at e2
      cases e1; cases e2; rfl
  · cases e <;> simp only [eqN] at e1 e2 <;> first
      | (cases e1; done)
      | (cases e1; cases e2; rfl)
      | skip
    obtain ⟨_, xs, _, _, r⟩ := h3
    exact ih _ _ _ _ _ _ _ _ r1 r2 r r e1 e2
  · exact ih _ _ _ _ _ _ _ _ r1 r2 q1 q2 e1 e2
  · simp only [eqN] at e1 e2
    cases e1; cases e2; rfl
  · cases e <;> simp only [eqN] at e1 e2 <;> first
      | (cases e1; done)
      | (cases e1; cases e2; rfl)
      | skip
    obtain ⟨_, xs, _, _, r⟩ := h3
    rw [r1.length.trans r2.length.symm] at e1
    split at e1
    · rename_i hl
      rw [if_pos hl] at e2
      exact ih _ _ _ _ _ _ _ _ r1 r2 r r e1 e2
    · rename_i hl
      rw [if_neg hl] at e2
      cases e1; cases e2; rfl
  · simp only [eqN] at e1 e2
    cases e1; cases e2; rfl
  · simp only [eqN] at e1 e2
    rw [r1.length.trans r2.length.symm, q1.length.trans q2.length.symm] at e1
    split at e1
    · rename_i hl
      rw [if_pos hl] at e2
      exact ih _ _ _ _ _ _ _ _ r1 r2 q1 q2 e1 e2
    · rename_i hl
      rw [if_neg hl] at e2
      cases e1; cases e2; rfl
theorem eqD_cong (I : Inv X pins σ H s) : ∀ (n : Nat) (d d' e e' : D) (x y : V) (b b' : Bool), Rp X.K W L H d x → Rp X.K W L H d' x → Rp X.K W L H e y → Rp X.K W L H e' y → eqD n d e = some b → eqD n d' e' = some b' → b = b'
  | 0, _, _, _, _, _, _, _, _, _, _, _, _, h, _ => by simp [eqD] at h
  | n + 1, d, d', e, e', x, y, b, b', h1, h2, h3, h4, e1, e2 => eqN_cong I (eqD_cong I n) _ _ _ _ x y b b' (.of h1) (.of h2) (.of h3) (.of h4) e1 e2
end
/-! ### in -/
theorem inL_spec {d : D} : ∀ {ds : List D} {r : Bool}, inL d ds = some r → (∀ (j : Nat) (c : D), ds[j]? = some c → ∃ b, eqD dp c d = some b) ∧ (r = true ↔ ∃ (j : Nat) (c : D), ds[j]? = some c ∧ eqD dp c d = some true)
  | [], r, h => by
    simp [inL] at h
    subst h
    exact ⟨fun j c e => by simp at e, by simp⟩
  | c :: ds, r, h => by
    unfold inL at h
    split at h
    · rename_i a b ha hb
      obtain ⟨i1, i2⟩ := inL_spec hb
      have hr := Option.some.inj h
      subst hr
      refine ⟨fun j c' e => ?_, ?_⟩
      · cases j with
        | zero => simp at e; subst e; exact ⟨a, ha⟩
        | succ j => exact i1 j c' (by simpa using e)
      · rw [Bool.or_eq_true]
        constructor
        · rintro (z | z)
          · subst z; exact ⟨0, c, rfl, ha⟩
          · obtain ⟨j, c', e1, e2⟩ := i2.mp z
            exact ⟨j + 1, c', by simpa using e1, e2⟩
        · rintro ⟨j, c', e1, e2⟩
          cases j with
          | zero => simp at e1; subst e1; rw [ha] at e2; exact .inl (Option.some.inj e2)
          | succ j => exact .inr (i2.mpr ⟨j, c', by simpa using e1, e2⟩)
    · cases h
section
variable {X : Cx} {pins : List (Addr × Obj)} {σ : L2.St} {H : Hp} {s : Shared} {K : PySem.W.Frag} {W : Addr → Prop} {L : List Addr} {st : Sto}
open Classical in
theorem inL_at (I : Inv X pins σ H s) {A : Around} {d : D} {ds : List D} {y : V} {v : Value} {xs : List V} {us : List Value} {r : Bool} (h : inL d ds = some r) (rs : Rps X.K W L H ds xs) (vs : Vals xs us) (rd : Rp X.K W L H d y) (rv : RelV y v) (hu : A.units + 1 + dp < cLine) :
    ∃ e : Value → Bool, (∀ u, u ∈ us.toArray → SeqAt.EqAt A.in1 s u v (e u)) ∧ us.toArray.any e = r := by
  obtain ⟨h1, h2⟩ := inL_spec h
  have at_ : ∀ (j : Nat) (u : Value), us[j]? = some u → ∃ c x, ds[j]? = some c ∧ xs[j]? = some x ∧ Rp X.K W L H c x ∧ RelV x u := fun j u hj => by
    have hj' := (List.getElem?_eq_some_iff.mp hj).1
    have hx : j < xs.length := by rw [vs.length]; exact hj'
    have hd : j < ds.length := by rw [rs.length]; exact hx
    obtain ⟨x, e1, e2⟩ := rs.get (List.getElem?_eq_getElem hd)
    obtain ⟨u', e3, e4⟩ := vs.get e1
    rw [hj] at e3; cases e3
    exact ⟨_, x, List.getElem?_eq_getElem hd, e1, e2, e4⟩
  refine ⟨fun u => decide (∃ (j : Nat) (c : D), us[j]? = some u ∧ ds[j]? = some c ∧ eqD dp c d = some true), fun u hm => ?_, ?_⟩
  · have hm' : u ∈ us := by simpa using hm
    obtain ⟨j, hj⟩ := List.getElem?_of_mem hm'
    obtain ⟨c, x, c1, c2, c3, c4⟩ := at_ j u hj
    obtain ⟨b, hb⟩ := h1 j c c1
    have q := eqD_at I dp A.in1 c d x y u v b hb c3 rd c4 rv hu
    have e : decide (∃ (j : Nat) (c : D), us[j]? = some u ∧ ds[j]? = some c ∧ eqD dp c d = some true) = b := by
      cases b with
      | true => exact decide_eq_true ⟨j, c, hj, c1, hb⟩
      | false =>
        refine decide_eq_false fun ⟨j', c', g1, g2, g3⟩ => ?_
        obtain ⟨c'', x', k1, k2, k3, k4⟩ := at_ j' u g1
        rw [g2] at k1; cases k1
        have ex : x = x' := c4.inj k4
        subst ex
        have := eqD_cong I dp c c' d d x y false true c3 k3 rd rd hb g3
        cases this
    have q' : SeqAt.EqAt A.in1 s u v (decide (∃ (j : Nat) (c : D), us[j]? = some u ∧ ds[j]? = some c ∧ eqD dp c d = some true)) := by rw [e]; exact q
    exact q'
  · rw [Bool.eq_iff_iff, h2]
    simp only [List.any_toArray, List.any_eq_true, decide_eq_true_eq]
    constructor
    · rintro ⟨u, _, j, c, _, g2, g3⟩
      exact ⟨j, c, g2, g3⟩
    · rintro ⟨j, c, g2, g3⟩
      have hj : j < us.length := by
        rw [← vs.length, ← rs.length]
        exact (List.getElem?_eq_some_iff.mp g2).1
      exact ⟨us[j], List.getElem_mem hj, j, c, List.getElem?_eq_getElem hj, g2, g3⟩

/-! ### dicts -/
theorem lookK_val {κ : Type} [DecidableEq κ] (k : κ) : ∀ {kvs : List (κ × D)} {us : List (κ × V)}, us.map (·.1) = kvs.map (·.1) → Rps K W L H (kvs.map (·.2)) (us.map (·.2)) →
    (∀ d, lookK k kvs = some d → ∃ v, valV us k = some v ∧ Rp K W L H d v) ∧ (lookK k kvs = none → valV us k = none)
  | [], [], _, _ => ⟨fun d e => by simp [lookK] at e, fun _ => valV_nil⟩
  | [], _ :: _, e, _ => by simp at e
  | _ :: _, [], e, _ => by simp at e
  | (j, d) :: kvs, (j', v) :: us, e, r => by
    simp only [List.map_cons, List.cons.injEq] at e
    obtain ⟨e1, e2⟩ := e
    subst e1
    obtain ⟨y, ys, q, r1, r2⟩ := Rps_cons r
    simp only [List.map_cons, List.cons.injEq] at q
    obtain ⟨q1, q2⟩ := q
    subst q1 q2
    obtain ⟨i1, i2⟩ := lookK_val k e2 r2
    unfold lookK
    by_cases hk : j' = k
    · rw [if_pos hk, valV_pos (by exact hk)]
      exact ⟨fun d' e => ⟨v, rfl, by cases e; exact r1⟩, fun e => by cases e⟩
    · rw [if_neg hk, valV_neg (by exact hk)]
      exact ⟨i1, i2⟩
theorem zip_fst {α β : Type} : ∀ {l : List α} {m : List β}, l.length = m.length → (l.zip m).map (·.1) = l ∧ (l.zip m).map (·.2) = m
  | [], [], _ => ⟨rfl, rfl⟩
  | _ :: l, _ :: m, h => by
    obtain ⟨a, b⟩ := zip_fst (l := l) (m := m) (by simpa using h)
    simp [a, b]
  | [], _ :: _, h => by simp at h
  | _ :: _, [], h => by simp at h
theorem Sim.dk (S : Sim K W L H st) {d : D} {x : V} {kvs : List (Key × D)} (h : Rp K W L H d x) (e : dkOf st d = some kvs) :
    ∃ a us, x = .ref a ∧ Rd H a (.dK us) ∧ us.map (·.1) = kvs.map (·.1) ∧ Rps K W L H (kvs.map (·.2)) (us.map (·.2)) := by
  cases d with
  | loc n =>
    simp only [dkOf] at e
    split at e
    · rename_i q
      cases e
      obtain ⟨a, rfl, hL⟩ := rLoc h
      obtain ⟨b, hb, us, e1, e2, e3⟩ := S.at_ q
      rw [hL] at hb; cases hb
      exact ⟨a, us, rfl, .inl e1, e2, e3⟩
    · cases e
  | dk ks vs =>
    simp only [dkOf] at e
    cases e
    simp only [Rp] at h
    obtain ⟨a, us, rfl, h1, _, h2, h3⟩ := h
    have hl : ks.length = vs.length := by
      have := h3.length
      rw [← h2, List.length_map, this, List.length_map]
    obtain ⟨z1, z2⟩ := zip_fst hl
    exact ⟨a, us, rfl, h1, by rw [z1, h2], by rw [z2]; exact h3⟩
  | _ => simp only [dkOf] at e; cases e
theorem Sim.dt (S : Sim K W L H st) {d : D} {x : V} {kvs : List (List Key × D)} (h : Rp K W L H d x) (e : dtOf st d = some kvs) :
    ∃ a us, x = .ref a ∧ Rd H a (.dT us) ∧ us.map (·.1) = kvs.map (·.1) ∧ Rps K W L H (kvs.map (·.2)) (us.map (·.2)) := by
  cases d with
  | loc n =>
    simp only [dtOf] at e
    split at e
    · rename_i q
      cases e
      obtain ⟨a, rfl, hL⟩ := rLoc h
      obtain ⟨b, hb, us, e1, e2, e3⟩ := S.at_ q
      rw [hL] at hb; cases hb
      exact ⟨a, us, rfl, .inl e1, e2, e3⟩
    · cases e
  | dt ks vs =>
    simp only [dtOf] at e
    cases e
    simp only [Rp] at h
    obtain ⟨a, us, rfl, h1, _, h2, h3⟩ := h
    have hl : ks.length = vs.length := by
      have := h3.length
      rw [← h2, List.length_map, this, List.length_map]
    obtain ⟨z1, z2⟩ := zip_fst hl
    exact ⟨a, us, rfl, h1, by rw [z1, h2], by rw [z2]; exact h3⟩
  | _ => simp only [dtOf] at e; cases e
theorem keyOf_v {d : D} {k : Key} {x : V} (h : Rp K W L H d x) (e : keyOf d = some k) : x = kV k := by
  cases d <;> simp only [keyOf] at e <;> first
    | (cases e; done)
    | (cases e; simp only [Rp] at h; exact h)
theorem keysOf_v : ∀ {ds : List D} {ks : List Key} {xs : List V}, Rps K W L H ds xs → keysOf ds = some ks → xs = ks.map kV
  | [], ks, xs, h, e => by simp [keysOf] at e; subst e; rw [Rps_nil h]; rfl
  | d :: ds, ks, xs, h, e => by
    obtain ⟨y, ys, rfl, h1, h2⟩ := Rps_cons h
    unfold keysOf at e
    split at e
    · rename_i k ks' e1 e2
      cases e
      rw [keyOf_v h1 e1, keysOf_v h2 e2]; rfl
    · cases e
theorem tupKey_v {d : D} {ks : List Key} {x : V} (h : Rp K W L H d x) (e : tupKey d = some ks) : ∃ b, x = .ref b ∧ H b = some (.tup (ks.map kV)) := by
  cases d with
  | tup ds =>
    obtain ⟨a, xs, rfl, h1, _, h2⟩ := rTup h
    rw [keysOf_v h2 e] at h1
    exact ⟨a, rfl, h1⟩
  | _ => cases e
/-- what a dict holds -/
theorem lookD_get (S : Sim K W L H st) {d k : D} {x y : V} {o : Option D} (h : Rp K W L H d x) (hk : Rp K W L H k y) (e : lookD st d k = some o) :
    ∃ a r, x = .ref a ∧ DGet H a y r ∧ (∀ c, o = some c → ∃ v, r = some v ∧ Rp K W L H c v) ∧ (o = none → r = none) := by
  unfold lookD at e
  split at e
  · rename_i kvs q
    obtain ⟨a, us, rfl, h1, h2, h3⟩ := S.dk h q
    cases e1 : keyOf k with
    | none => rw [e1] at e; cases e
    | some key =>
      rw [e1] at e
      simp at e
      have ey := keyOf_v hk e1
      obtain ⟨l1, l2⟩ := lookK_val key h2 h3
      exact ⟨a, valV us key, rfl, .inl ⟨us, key, h1, ey, rfl⟩, fun c hc => l1 c (by rw [e, hc]), fun hn => l2 (by rw [e, hn])⟩
  · split at e
    · rename_i kvs q
      obtain ⟨a, us, rfl, h1, h2, h3⟩ := S.dt h q
      cases e1 : tupKey k with
      | none => rw [e1] at e; cases e
      | some key =>
        rw [e1] at e
        simp at e
        obtain ⟨b, eb, hb⟩ := tupKey_v hk e1
        obtain ⟨l1, l2⟩ := lookK_val key h2 h3
        exact ⟨a, valV us key, rfl, .inr ⟨us, key, b, h1, eb, hb, rfl⟩, fun c hc => l1 c (by rw [e, hc]), fun hn => l2 (by rw [e, hn])⟩
    · cases e

/-! ### the operators of comparison -/
theorem rp_isnon {a : D} {x : V} (h : Rp K W L H a x) : decide (x = V.non) = isNon a := by
  cases a with
  | kt b xs =>
    cases b with
    | true => simp only [Rp] at h; obtain ⟨_, _, _, rfl, _⟩ := h; rfl
    | false => simp only [Rp] at h; obtain ⟨_, _, rfl, _⟩ := h; rfl
  | kl xs => simp only [Rp] at h; obtain ⟨_, _, rfl, _⟩ := h; rfl
  | loc n => simp only [Rp] at h; obtain ⟨_, rfl, _⟩ := h; rfl
  | tup _ => simp only [Rp] at h; obtain ⟨_, _, rfl, _⟩ := h; rfl
  | lst _ => simp only [Rp] at h; obtain ⟨_, _, rfl, _⟩ := h; rfl
  | dk _ _ => simp only [Rp] at h; obtain ⟨_, _, rfl, _⟩ := h; rfl
  | dt _ _ => simp only [Rp] at h; obtain ⟨_, _, rfl, _⟩ := h; rfl
  | _ => simp only [Rp] at h; subst h; rfl
theorem op_cmp (op : CmpOp) (hu : X.A.units + 64 < cLine) : OpR X (compareOp op) (rP2 X.K (.cmp op)) := by
  intro pins s σ H x y v u Q I rx ry h
  obtain ⟨W, L, st, a, b, d, st', S, ra, rb, e, k⟩ := h
  simp only [primD] at e
  cases eb : cmpD st op a b with
  | none => rw [eb] at e; cases e
  | some r =>
    rw [eb] at e
    simp at e
    obtain ⟨rfl, rfl⟩ := e
    have fin : ∀ s', Inv X pins σ H s' → EP X pins σ Q (.bool r) s' := fun s' I' => ⟨.bl r, H, I', rfl, k.same S mkBl⟩
    have hd : X.A.units + dp < cLine := Nat.lt_of_le_of_lt (Nat.add_le_add_left (by decide) _) hu
    have hd1 : X.A.units + 1 + dp < cLine := by
      have : dp = 40 := rfl
      omega
    unfold cmpD at eb
    split at eb
    · exact rcD_at S I dp X.A _ _ x y v u r eb ra rb rx ry hd _ _ _ _ (fin s I)
    · cases e1 : eqD dp (deref st a) (deref st b) with
      | none => rw [e1] at eb; cases eb
      | some c =>
        rw [e1] at eb
        have eb' : (!c) = r := Option.some.inj eb
        subst eb'
        exact rnD_at S I dp X.A _ _ x y v u c e1 ra rb rx ry hd _ _ _ _ (fin s I)
    · exact ltD_at (W := W) (L := L) I dp X.A a b x y v u r eb ra rb rx ry hd _ _ _ _ (fin s I)
    · split at eb
      · cases eb; cases rInt ra; cases rInt rb
        exact op_gt pins s σ H _ _ v u Q I rx ry ⟨_, _, rfl, rfl, k.same S mkBl⟩
      · cases eb
    · split at eb
      · cases eb; cases rInt ra; cases rInt rb
        exact op_le pins s σ H _ _ v u Q I rx ry ⟨_, _, rfl, rfl, k.same S mkBl⟩
      · cases eb
    · split at eb
      · cases eb; cases rInt ra; cases rInt rb
        exact op_ge pins s σ H _ _ v u Q I rx ry ⟨_, _, rfl, rfl, k.same S mkBl⟩
      · cases eb
    · split at eb
      · cases rNon rb
        refine op_isN pins s σ H _ _ v u Q I rx ry ⟨rfl, ?_⟩
        have er : decide (x = V.non) = r := by
          rw [rp_isnon ra]
          exact Option.some.inj eb
        rw [er]
        exact k.same S mkBl
      · cases eb
    · split at eb
      · cases rNon rb
        refine op_notN pins s σ H _ _ v u Q I rx ry ⟨rfl, ?_⟩
        have er : (!decide (x = V.non)) = r := by
          rw [rp_isnon ra]
          exact Option.some.inj eb
        rw [er]
        exact k.same S mkBl
      · cases eb
    · split at eb
      · rename_i xs q
        obtain ⟨p, ys, rfl, h1, _, h2⟩ := S.seq rb q
        cases vRef ry
        rcases h1 with h1 | h1
        · obtain ⟨its, rv, pl, _⟩ := I.list h1
          obtain ⟨ee, e1, e2⟩ := inL_at I (A := X.A) eb h2 rv ra rx hd1
          exact SeqAt.in_listAt ee pl.isList e1 (by rw [e2]; exact fin s I)
        · obtain ⟨its, rv, pt, _⟩ := I.tuple h1
          obtain ⟨ee, e1, e2⟩ := inL_at I (A := X.A) eb h2 rv ra rx hd1
          exact SeqAt.in_tupleAt ee (show s.heap.IsTuple p its.toArray from pt) e1 (by rw [e2]; exact fin s I)
      · unfold hasK at eb
        cases e1 : lookD st b a with
        | none => rw [e1] at eb; cases eb
        | some o =>
          rw [e1] at eb
          simp at eb
          obtain ⟨p, o', rfl, g, g1, g2⟩ := lookD_get S rb ra e1
          cases vRef ry
          refine d_in (by omega) I g rx fun s' I' => ?_
          have er : o'.isSome = r := by
            rw [← eb]
            cases o with
            | none => rw [g2 rfl]; rfl
            | some c => obtain ⟨v', e2, _⟩ := g1 c rfl; rw [e2]; rfl
          rw [er]
          exact fin s' I'
    · split at eb
      · rename_i xs q
        cases e0 : inL a xs with
        | none => rw [e0] at eb; cases eb
        | some c =>
          rw [e0] at eb
          have eb' : (!c) = r := Option.some.inj eb
          subst eb'
          obtain ⟨p, ys, rfl, h1, _, h2⟩ := S.seq rb q
          cases vRef ry
          rcases h1 with h1 | h1
          · obtain ⟨its, rv, pl, _⟩ := I.list h1
            obtain ⟨ee, e1, e2⟩ := inL_at I (A := X.A) e0 h2 rv ra rx hd1
            exact SeqAt.notIn_listAt ee pl.isList e1 (by rw [e2]; exact fin s I)
          · obtain ⟨its, rv, pt, _⟩ := I.tuple h1
            obtain ⟨ee, e1, e2⟩ := inL_at I (A := X.A) e0 h2 rv ra rx hd1
            exact SeqAt.notIn_tupleAt ee (show s.heap.IsTuple p its.toArray from pt) e1 (by rw [e2]; exact fin s I)
      · unfold hasK at eb
        cases e1 : lookD st b a with
        | none => rw [e1] at eb; cases eb
        | some o =>
          rw [e1] at eb
          simp at eb
          obtain ⟨p, o', rfl, g, g1, g2⟩ := lookD_get S rb ra e1
          cases vRef ry
          refine d_notIn (by omega) I g rx fun s' I' => ?_
          have er : (!o'.isSome) = r := by
            rw [← eb]
            cases o with
            | none => rw [g2 rfl]; rfl
            | some c => obtain ⟨v', e2, _⟩ := g1 c rfl; rw [e2]; rfl
          rw [er]
          exact fin s' I'
end
end Ro
end
section
set_option Elab.async false
set_option linter.all false
set_option autoImplicit false
set_option maxHeartbeats 4000000
namespace Ro
open PySem PySem.Spec PyProof.Rows L2
/-! ## sorted: tuples of ints -/
theorem lexLt_asym : ∀ x y : List Int, HT.lexLt x y = true → HT.lexLt y x = false
  | [], [], h => by simp [HT.lexLt] at h
  | [], _ :: _, _ => rfl
  | _ :: _, [], h => by simp [HT.lexLt] at h
  | a :: x, b :: y, h => by
    rw [HT.lexLt_cons] at h ⊢
    by_cases e : a = b
    · rw [if_pos e] at h
      rw [if_pos e.symm]
      exact lexLt_asym x y h
    · rw [if_neg e] at h
      rw [if_neg (Ne.symm e)]
      simp at h ⊢
      omega
/-- none of both: the same -/
theorem lexLt_tri : ∀ x y : List Int, HT.lexLt x y = false → HT.lexLt y x = false → x = y
  | [], [], _, _ => rfl
  | [], _ :: _, h, _ => by simp [HT.lexLt] at h
  | _ :: _, [], _, h => by simp [HT.lexLt] at h
  | a :: x, b :: y, h, h' => by
    rw [HT.lexLt_cons] at h h'
    by_cases e : a = b
    · rw [if_pos e] at h
      rw [if_pos e.symm] at h'
      rw [e, lexLt_tri x y h h']
    · rw [if_neg e] at h
      rw [if_neg (Ne.symm e)] at h'
      simp at h h'
      omega
theorem lexLt_trans : ∀ x y z : List Int, HT.lexLt x y = true → HT.lexLt y z = true → HT.lexLt x z = true
  | [], y, z, h1, h2 => by
    cases y with
    | nil => simp [HT.lexLt] at h1
    | cons b y => cases z with
      | nil => simp [HT.lexLt] at h2
      | cons c z => rfl
  | a :: x, [], z, h1, _ => by simp [HT.lexLt] at h1
  | a :: x, b :: y, [], _, h2 => by simp [HT.lexLt] at h2
  | a :: x, b :: y, c :: z, h1, h2 => by
    rw [HT.lexLt_cons] at h1 h2 ⊢
    by_cases e1 : a = b
    · subst e1
      rw [if_pos rfl] at h1
      by_cases e2 : a = c
      · rw [if_pos e2] at h2 ⊢
        exact lexLt_trans x y z h1 h2
      · rw [if_neg e2] at h2 ⊢
        exact h2
    · rw [if_neg e1] at h1
      by_cases e2 : b = c
      · subst e2
        rw [if_neg e1]
        exact h1
      · rw [if_neg e2] at h2
        simp at h1 h2
        have e3 : a ≠ c := by omega
        rw [if_neg e3]
        simp
        omega
theorem lexLt_irr (x : List Int) : HT.lexLt x x = false := by
  cases h : HT.lexLt x x with
  | false => rfl
  | true => exact h.symm.trans (lexLt_asym x x h)
theorem lexLt_ge {x y z : List Int} (h1 : HT.lexLt y x = false) (h2 : HT.lexLt z y = false) : HT.lexLt z x = false := by
  cases h : HT.lexLt z x with
  | false => rfl
  | true =>
    cases h3 : HT.lexLt x y with
    | true => rw [lexLt_trans z x y h h3] at h2; cases h2
    | false =>
      have := lexLt_tri x y h3 h1
      subst this
      rw [h] at h2; cases h2
theorem swo_key {α : Type} (k : α → List Int) : SrtO.Swo fun v u => HT.lexLt (k v) (k u) :=
  ⟨fun x y h => lexLt_asym _ _ h, fun x y z h1 h2 => lexLt_ge h1 h2⟩
/-- sorted -/
abbrev Asc (l : List (List Int)) : Prop := l.Pairwise fun x y => HT.lexLt y x = false
theorem insX_perm (x : List Int) : ∀ l, (insX x l).Perm (x :: l)
  | [] => .refl _
  | y :: ys => by
    unfold insX
    split
    · exact ((insX_perm x ys).cons y).trans (.swap x y ys)
    · exact .refl _
theorem sortX_perm : ∀ l, (sortX l).Perm l
  | [] => .refl _
  | x :: l => (insX_perm x (sortX l)).trans ((sortX_perm l).cons x)
theorem insX_asc (x : List Int) : ∀ l, Asc l → Asc (insX x l)
  | [], _ => List.pairwise_singleton _ _
  | y :: ys, h => by
    unfold insX
    obtain ⟨h1, h2⟩ := List.pairwise_cons.mp h
    split
    · rename_i c
      refine List.pairwise_cons.mpr ⟨fun z hz => ?_, insX_asc x ys h2⟩
      rcases List.mem_cons.mp ((insX_perm x ys).mem_iff.mp hz) with rfl | hz
      · exact lexLt_asym _ _ c
      · exact h1 z hz
    · rename_i c
      have c' : HT.lexLt y x = false := by simpa using c
      refine List.pairwise_cons.mpr ⟨fun z hz => ?_, h⟩
      rcases List.mem_cons.mp hz with rfl | hz
      · exact c'
      · exact lexLt_ge c' (h1 z hz)
theorem sortX_asc : ∀ l, Asc (sortX l)
  | [] => List.Pairwise.nil
  | x :: l => insX_asc x _ (sortX_asc l)
theorem asc_uniq : ∀ l m : List (List Int), Asc l → Asc m → l.Perm m → l = m
  | [], m, _, _, p => (List.nil_perm.mp p).symm
  | x :: l, [], _, _, p => absurd p.length_eq (by simp)
  | x :: l, y :: m, h1, h2, p => by
    obtain ⟨a1, a2⟩ := List.pairwise_cons.mp h1
    obtain ⟨b1, b2⟩ := List.pairwise_cons.mp h2
    have exy : x = y := by
      have hx : x ∈ y :: m := p.mem_iff.mp List.mem_cons_self
      have hy : y ∈ x :: l := p.mem_iff.mpr List.mem_cons_self
      rcases List.mem_cons.mp hx with e | hx
      · exact e
      · rcases List.mem_cons.mp hy with e | hy
        · exact e.symm
        · exact lexLt_tri _ _ (b1 x hx) (a1 y hy) |>.symm ▸ rfl
    subst exy
    rw [asc_uniq l m a2 b2 (List.perm_cons x |>.mp p)]
theorem insI_perm (x : Int) : ∀ l, (insI x l).Perm (x :: l)
  | [] => .refl _
  | y :: ys => by
    unfold insI
    split
    · exact ((insI_perm x ys).cons y).trans (.swap x y ys)
    · exact .refl _
theorem sortI_perm : ∀ l, (sortI l).Perm l
  | [] => .refl _
  | x :: l => (insI_perm x (sortI l)).trans ((sortI_perm l).cons x)
theorem insI_asc (x : Int) : ∀ l : List Int, l.Pairwise (· ≤ ·) → (insI x l).Pairwise (· ≤ ·)
  | [], _ => List.pairwise_singleton _ _
  | y :: ys, h => by
    unfold insI
    obtain ⟨h1, h2⟩ := List.pairwise_cons.mp h
    split
    · refine List.pairwise_cons.mpr ⟨fun z hz => ?_, insI_asc x ys h2⟩
      rcases List.mem_cons.mp ((insI_perm x ys).mem_iff.mp hz) with rfl | hz
      · omega
      · exact h1 z hz
    · refine List.pairwise_cons.mpr ⟨fun z hz => ?_, h⟩
      rcases List.mem_cons.mp hz with rfl | hz
      · omega
      · have := h1 z hz; omega
theorem sortI_asc : ∀ l, (sortI l).Pairwise (· ≤ ·)
  | [] => List.Pairwise.nil
  | x :: l => insI_asc x _ (sortI_asc l)
theorem ascI_uniq (l m : List Int) (h1 : l.Pairwise (· ≤ ·)) (h2 : m.Pairwise (· ≤ ·)) (p : l.Perm m) : l = m :=
  p.eq_of_pairwise (fun a b _ _ h h' => by omega) h1 h2
section
variable {prog : Program} {w : World} {A : Around} {s : Shared}
theorem katlex_ints {Q : Bool → Shared → Prop} : ∀ (ns ms : List Int) (us vs : List Value) (i : Nat) (fin : Bool), Vals (ns.map V.int) us → Vals (ms.map V.int) vs → fin = decide (ns.length < ms.length) → Q (HT.lexLt ns ms) s →
    PySem.W.KatLex prog w A true fin Q (us.zip vs) i s
  | [], ms, us, vs, i, fin, r1, r2, hf, q => by
    cases r1
    rw [List.zip_nil_left]
    refine PySem.W.kat_nil ?_
    rw [hf]
    cases ms with
    | nil => exact q
    | cons _ _ => simpa [HT.lexLt] using q
  | a :: ns, [], us, vs, i, fin, r1, r2, hf, q => by
    cases r2
    rw [List.zip_nil_right]
    refine PySem.W.kat_nil ?_
    rw [hf]
    simpa [HT.lexLt] using q
  | a :: ns, b :: ms, us, vs, i, fin, r1, r2, hf, q => by
    cases r1 with
    | cons x1 t1 => cases r2 with
      | cons x2 t2 =>
        obtain ⟨t, rfl⟩ := x1
        obtain ⟨t', rfl⟩ := x2
        rw [List.zip_cons_cons]
        rw [HT.lexLt_cons] at q
        refine PySem.W.kat_cons (SeqAt.EqAt.int_int a t b t' prog w _ _ ?_)
        refine PySem.W.kat_go (fun e1 => ?_) (fun e1 => ?_)
        · have ex : a = b := by simpa using e1
          rw [if_pos ex] at q
          exact PySem.W.kat_yes (katlex_ints ns ms _ _ (i + 1) fin t1 t2 (by rw [hf]; simp) q)
        · have ex : ¬ a = b := by simpa using e1
          rw [if_neg ex] at q
          exact PySem.W.kat_no (TS.oneLt_ints _ q)
end
/-- a real value is a tuple of these ints, and its first is there -/
def TupInts (h : Heap) (v : Value) (ns : List Int) : Prop := ∃ a o us n, v = .ref a ∧ h.get? a = some o ∧ o.cls = .type "tuple" ∧ o.data = .seq us n ∧ Vals (ns.map V.int) us.toList ∧ ns ≠ []
theorem TupInts.keeps {h h' : Heap} {v : Value} {ns : List Int} (x : TupInts h v ns) (k : ∀ b o, h.get? b = some o → o.cls = .type "tuple" → h'.get? b = some o) : TupInts h' v ns := by
  obtain ⟨a, o, us, n, e, ho, hc, r⟩ := x
  exact ⟨a, o, us, n, e, k a o ho hc, hc, r⟩
theorem firstI_of {h : Heap} {k : Value → List Int} : ∀ {vs : List Value}, (∀ v ∈ vs, TupInts h v (k v)) → ∃ fs : List Value, PySem.W.KatTups h vs fs ∧ fs.length = vs.length ∧ ∀ f ∈ fs, ∃ x t, f = Value.int x t
  | [], _ => ⟨[], PySem.W.KatTups.nil, rfl, fun _ hm => by simp at hm⟩
  | v :: vs, hp => by
    obtain ⟨fs, h1, h2, h3⟩ := firstI_of (vs := vs) fun v' hm => hp v' (List.mem_cons_of_mem _ hm)
    obtain ⟨a, o, us, n, e, ho, hc, hd, r, ne⟩ := hp v List.mem_cons_self
    subst e
    obtain ⟨x, ns, ek⟩ : ∃ x ns, k (.ref a) = x :: ns := by
      cases q : k (.ref a) with
      | nil => exact absurd q ne
      | cons x ns => exact ⟨x, ns, rfl⟩
    rw [ek] at r
    obtain ⟨u, e1, t, e2⟩ := r.get (i := 0) (x := .int x) rfl
    subst e2
    refine ⟨.int x t :: fs, PySem.W.KatTups.cons ho hc hd (by simpa using e1) h1, by rw [List.length_cons, List.length_cons, h2], fun f hm => ?_⟩
    rcases List.mem_cons.mp hm with rfl | hm
    · exact ⟨x, t, rfl⟩
    · exact h3 f hm
section
variable {prog : Program} {w : World} {A : Around} {E : Value → Shared → Prop} {s : Shared}
theorem tupI_sortable {a : Addr} {vs : List Value} {k : Value → List Int} (h0 : 0 < vs.length) (hp : ∀ v ∈ vs, TupInts s.heap v (k v)) (ha : ∀ o, s.heap.get? a = some o → o.cls ≠ .type "tuple") :
    SrtO.SortableO prog w A s a vs fun v u => HT.lexLt (k v) (k u) := by
  intro h' keep
  have hp' : ∀ v ∈ vs, TupInts h' v (k v) := fun v hm => (hp v hm).keeps fun b o e c => keep b o (fun z => by subst z; exact ha o e c) e
  obtain ⟨fs, h1, h2, h3⟩ := firstI_of hp'
  refine ⟨tuples' true, fun Q E hq => ?_, fun p q hm hm' => ?_⟩
  · refine PySem.W.kat_kind (T := .type "int") h1 (by omega) (fun f hm => ?_) (by rfl) ?_
    · obtain ⟨x, t, rfl⟩ := h3 f hm
      exact PySem.W.Looks.now
    · have e : (Value.type "int" != Value.type "tuple") = true := by first | decide +kernel | rfl | decide
      rw [e]
      exact hq
  · have g1 := hp' _ hm
    have g2 := hp' _ hm'
    show wpAny (model prog w) A (keyLt' (tuples' true) p.1 q.1) (fun r s' => s' = _ ∧ r = HT.lexLt (k p.1) (k q.1)) (fun _ _ => False) _
    generalize k p.1 = ns at g1 ⊢
    generalize k q.1 = ms at g2 ⊢
    obtain ⟨b, o, us, n, e, ho, hc, hd, r, _⟩ := g1
    obtain ⟨b', o', us', n', e', ho', hc', hd', r', _⟩ := g2
    rw [e, e']
    have l1 := r.length
    have l2 := r'.length
    simp only [List.length_map, Array.length_toList] at l1 l2
    refine PySem.W.kat_lt ho hd ho' hd' (katlex_ints ns ms _ _ 0 _ r r' (by rw [l1, l2]) ⟨rfl, rfl⟩)
theorem sorted_tupI {l : Addr} {vs : List Value} {k : Value → List Int} {Q : Value → Shared → Prop} (hl : s.heap.IsList l vs.toArray) (hz : vs.length ≤ sizeLine) (hp : ∀ v ∈ vs, TupInts s.heap v (k v))
    (h : ∀ (h' : Heap) (d : Addr) (out : List Value), out.map k = sortX (vs.map k) → out.Perm vs → (∀ b o, s.heap.get? b = some o → h'.get? b = some o) → s.heap.objs.size ≤ d → (∃ n, h'.get? d = some { cls := .type "list", data := .seq out.toArray n }) → Q (.ref d) { s with heap := h' }) :
    wpAny (model prog w) A (call (.builtin "sorted") [.ref l]) Q E s := by
  refine SrtO.sorted_ord (swo_key k) hl hz (fun h2 h₁ a ha kk => ?_) fun out hs hb => ?_
  · refine tupI_sortable (s := { s with heap := h₁ }) (by omega) (fun v hm => (hp v hm).keeps fun b o e _ => (kk b o e).2) fun o e => ?_
    have e' := e.symm.trans ha
    cases e'
    intro c
    exact absurd (Value.type.inj c) (by decide)
  · refine h _ _ out (asc_uniq _ _ (List.pairwise_map.mpr hs) (sortX_asc _) ((hb.perm.map k).trans (sortX_perm _).symm)) hb.perm (fun b o e => PyProof.Rows.sortedAll_old e) (Nat.le_succ _) (PyProof.Rows.sortedAll_at s.heap vs out.toArray)
end
end Ro
end
section
set_option Elab.async false
set_option linter.all false
set_option autoImplicit false
set_option maxHeartbeats 4000000
namespace Ro
open PySem PySem.Spec PyProof.Rows L2
/-! ## Built-in calls -/
section
variable {K : PySem.W.Frag} {W : Addr → Prop} {L : List Addr} {H : Hp} {st st' : Sto} {d : D} {Q : VK}
theorem Sim.lis (S : Sim K W L H st) {ds : List D} {x : V} (h : Rp K W L H d x) (e : listOf st d = some ds) : ∃ a xs, x = .ref a ∧ SqL K H a xs ∧ xs.length ≤ sizeLine ∧ Rps K W L H ds xs := by
  cases d with
  | lst xs =>
    cases e
    obtain ⟨a, ys, rfl, h1, _, h2, h3⟩ := rLst h
    exact ⟨a, ys, rfl, SqL.of h1, h2, h3⟩
  | kl xs =>
    cases e
    simp only [Rp] at h
    obtain ⟨a, ys, rfl, h1, h2, h3⟩ := h
    exact ⟨a, ys, rfl, h1.sq, h2, h3⟩
  | loc n =>
    simp only [listOf] at e
    split at e
    · rename_i xs q
      cases e
      obtain ⟨a, ys, rfl, _, h1, h2, h3⟩ := S.lst h q
      exact ⟨a, ys, rfl, SqL.of h1, h2, h3⟩
    · cases e
  | _ => cases e
/-- a frozen sequence, or a list of the store, without tuples of the written part -/
theorem Sim.seq' (S : Sim K W L H st) {ds : List D} {x : V} (h : Rp K W L H d x) (e : seqOf st d = some ds) : (∃ b xs, d = .kt b xs) ∨ (∃ a xs, d = .tup ds ∧ x = .ref a ∧ H a = some (.tup xs) ∧ xs.length ≤ sizeLine ∧ Rps K W L H ds xs) ∨
    ∃ a xs, x = .ref a ∧ SqL K H a xs ∧ xs.length ≤ sizeLine ∧ Rps K W L H ds xs ∧ listOf st d = some ds := by
  cases d with
  | tup xs =>
    cases e
    obtain ⟨a, ys, rfl, h1, h2, h3⟩ := rTup h
    exact .inr (.inl ⟨a, ys, rfl, rfl, h1, h2, h3⟩)
  | kt b xs => exact .inl ⟨b, xs, rfl⟩
  | lst xs =>
    have e' : listOf st (.lst xs) = some ds := e
    obtain ⟨a, ys, h0, h1, h2, h3⟩ := S.lis h e'
    exact .inr (.inr ⟨a, ys, h0, h1, h2, h3, e'⟩)
  | kl xs =>
    have e' : listOf st (.kl xs) = some ds := e
    obtain ⟨a, ys, h0, h1, h2, h3⟩ := S.lis h e'
    exact .inr (.inr ⟨a, ys, h0, h1, h2, h3, e'⟩)
  | loc n =>
    have e' : listOf st (.loc n) = some ds := e
    obtain ⟨a, ys, h0, h1, h2, h3⟩ := S.lis h e'
    exact .inr (.inr ⟨a, ys, h0, h1, h2, h3, e'⟩)
  | _ => cases e
theorem minL_spec : ∀ {is : List Int} {m : Int}, minL is = some m → m ∈ is ∧ ∀ y ∈ is, m ≤ y
  | [], _, h => by cases h
  | [x], m, h => by cases h; simp
  | x :: y :: r, m, h => by
    simp only [minL] at h
    cases q : minL (y :: r) with
    | none => simp only [q] at h; cases h
    | some k =>
      simp only [q] at h
      obtain ⟨i1, i2⟩ := minL_spec q
      have hm : (if k < x then k else x) = m := Option.some.inj h
      subst hm
      split
      · rename_i c
        refine ⟨List.mem_cons_of_mem _ i1, fun z hz => ?_⟩
        rcases List.mem_cons.mp hz with rfl | hz
        · omega
        · exact i2 z hz
      · rename_i c
        refine ⟨List.mem_cons_self, fun z hz => ?_⟩
        rcases List.mem_cons.mp hz with rfl | hz
        · omega
        · have := i2 z hz; omega
theorem maxL_spec : ∀ {is : List Int} {m : Int}, maxL is = some m → m ∈ is ∧ ∀ y ∈ is, y ≤ m
  | [], _, h => by cases h
  | [x], m, h => by cases h; simp
  | x :: y :: r, m, h => by
    simp only [maxL] at h
    cases q : maxL (y :: r) with
    | none => simp only [q] at h; cases h
    | some k =>
      simp only [q] at h
      obtain ⟨i1, i2⟩ := maxL_spec q
      have hm : (if x < k then k else x) = m := Option.some.inj h
      subst hm
      split
      · rename_i c
        refine ⟨List.mem_cons_of_mem _ i1, fun z hz => ?_⟩
        rcases List.mem_cons.mp hz with rfl | hz
        · omega
        · exact i2 z hz
      · rename_i c
        refine ⟨List.mem_cons_self, fun z hz => ?_⟩
        rcases List.mem_cons.mp hz with rfl | hz
        · omega
        · have := i2 z hz; omega
theorem firstI_spec {i : Int} : ∀ {is : List Int} {k : Nat}, firstI i is = some k → is[k]? = some i ∧ ∀ m, m < k → ∀ j, is[m]? = some j → j ≠ i
  | [], _, h => by cases h
  | x :: r, k, h => by
    unfold firstI at h
    split at h
    · rename_i c
      cases h
      exact ⟨by simp [c], fun m hm => absurd hm (Nat.not_lt_zero _)⟩
    · rename_i c
      cases q : firstI i r with
      | none => rw [q] at h; cases h
      | some n =>
        rw [q] at h
        have hk : n + 1 = k := Option.some.inj h
        subst hk
        obtain ⟨i1, i2⟩ := firstI_spec q
        refine ⟨by simpa using i1, fun m hm j hj => ?_⟩
        cases m with
        | zero => simp at hj; rw [← hj]; exact c
        | succ m => exact i2 m (by omega) j (by simpa using hj)
theorem tupsOf_vals : ∀ {ds : List D} {nss : List (List Int)} {xs : List V}, tupsOf ds = some nss → Rps K W L H ds xs → Paired (fun (ns : List Int) (x : V) => ns ≠ [] ∧ ∃ a, x = .ref a ∧ H a = some (.tup (ns.map V.int)) ∧ ns.length ≤ sizeLine) nss xs
  | [], nss, xs, e, h => by
    simp [tupsOf] at e
    subst e
    rw [Rps_nil h]; exact .nil
  | d :: ds, nss, xs, e, h => by
    obtain ⟨y, ys, rfl, h1, h2⟩ := Rps_cons h
    cases d with
    | tup es =>
      cases es with
      | nil => simp [tupsOf] at e
      | cons x es =>
        simp only [tupsOf] at e
        split at e
        · rename_i n ns e1 e2
          cases e
          refine .cons ⟨?_, ?_⟩ (tupsOf_vals e2 h2)
          · intro z
            subst z
            cases x <;> simp [intsOf] at e1
          · obtain ⟨a, zs, rfl, p1, p2, p3⟩ := rTup h1
            have ez := intsOf_vals e1 p3
            subst ez
            exact ⟨a, rfl, p1, by simpa using p2⟩
        · cases e
    | _ => simp [tupsOf] at e
end

section
variable {X : Cx}
theorem cr_len : CallR X (.builtin "len") (rPn X.K .len) := by
  intro pins s σ H xs us Q I r h
  obtain ⟨W, L, st, ds, d, st', S, rs, e, k⟩ := h
  match ds, e, rs with
  | [a], e, rs =>
    simp only [primD] at e
    split at e
    · rename_i ys q
      cases e
      obtain ⟨x, rfl, rx⟩ := rs.one
      obtain ⟨p, zs, rfl, h1, _, h2⟩ := S.seq rx q
      refine call_len_seq pins s σ H _ us Q I r ⟨p, zs, rfl, h1, ?_⟩
      rw [← h2.length]
      exact k.same S mkInt
    · cases e
  | [], e, _ => simp [primD] at e
  | _ :: _ :: _, e, _ => simp [primD] at e
theorem cr_allP (hc : X.calm = true) : CallR X (.builtin "all") (rPn X.K .all) := by
  intro pins s σ H xs us Q I r h
  obtain ⟨W, L, st, ds, d, st', S, rs, e, k⟩ := h
  match ds, e, rs with
  | [.lst ys], e, rs =>
    simp only [primD] at e
    cases q : blsOf ys with
    | none => rw [q] at e; cases e
    | some bs =>
      rw [q] at e
      cases e
      obtain ⟨x, rfl, rx⟩ := rs.one
      obtain ⟨p, zs, rfl, h1, _, _, h2⟩ := rLst rx
      have ez := blsOf_vals q h2
      subst ez
      exact cr_all hc pins s σ H _ us Q I r ⟨p, bs, rfl, SqL.of h1, k.same S mkBl⟩
theorem cr_anyP (hc : X.calm = true) : CallR X (.builtin "any") (rPn X.K .any) := by
  intro pins s σ H xs us Q I r h
  obtain ⟨W, L, st, ds, d, st', S, rs, e, k⟩ := h
  match ds, e, rs with
  | [.lst ys], e, rs =>
    simp only [primD] at e
    cases q : blsOf ys with
    | none => rw [q] at e; cases e
    | some bs =>
      rw [q] at e
      cases e
      obtain ⟨x, rfl, rx⟩ := rs.one
      obtain ⟨p, zs, rfl, h1, _, _, h2⟩ := rLst rx
      have ez := blsOf_vals q h2
      subst ez
      exact cr_any hc pins s σ H _ us Q I r ⟨p, bs, rfl, SqL.of h1, k.same S mkBl⟩
theorem cr_list (m : Bool) : CallR X (.type "list") (rPn X.K (.list m)) := by
  intro pins s σ H xs us Q I r h
  obtain ⟨W, L, st, ds, d, st', S, rs, e, k⟩ := h
  match ds, e, rs with
  | [a], e, rs =>
    simp only [primD] at e
    split at e
    · rename_i ys q
      obtain ⟨x, rfl, rx⟩ := rs.one
      obtain ⟨p, zs, rfl, h1, z, h2⟩ := S.seq rx q
      exact call_list_of pins s σ H _ us Q I r ⟨p, zs, rfl, h1, fun l hl => k.newL e S h2 z hl⟩
    · cases e
  | [], e, _ => simp [primD] at e
  | _ :: _ :: _, e, _ => simp [primD] at e
/-- the new tuple with its very object -/
theorem Kt.ktup {K : PySem.W.Frag} {W : Addr → Prop} {L : List Addr} {H : Hp} {st : Sto} {Q : VK} {ds : List D} {xs : List V} {o : Obj} (k : Kt K W L H (.kt true ds) st Q) (S : Sim K W L H st) (r : Rps K W L H ds xs) (z : xs.length ≤ sizeLine) (hd : o.dict = none) {p : Addr} (hp : H p = none) :
    Q (.ref p) (upd H p (.frz o (.tup xs))) :=
  k W L _ _ (S.new hp) (S.newE hp) (by simp only [Rp]; exact ⟨p, o, xs, rfl, upd_same, hd, z, r.mono S (S.newE hp)⟩)
theorem cr_tuple (x : Bool) : CallR X (.type "tuple") (rPn X.K (.tuple x)) := by
  intro pins s σ H xs us Q I r h
  obtain ⟨W, L, st, ds, d, st', S, rs, e, k⟩ := h
  match ds, e, rs with
  | [a], e, rs =>
    obtain ⟨x', rfl, rx⟩ := rs.one
    have old : ∀ ys, (∀ b zs, a ≠ .kt b zs) → (∀ zs, a ≠ .tup zs) → seqOf st a = some ys → primD (.tuple x) st [a] = some (if x then .kt true ys else .tup ys, st) := by
      intro ys h1 h2 h3
      cases a <;> first
        | exact absurd rfl (h1 _ _)
        | exact absurd rfl (h2 _)
        | (simp only [primD, h3]; rfl)
    cases q : seqOf st a with
    | none =>
      cases a <;> simp only [primD, q] at e <;> first | (cases e; done) | (cases q; done)
    | some ys =>
      rcases S.seq' rx q with ⟨b, zs, rfl⟩ | ⟨p, zs, rfl, rfl, h1, z, h2⟩ | ⟨p, zs, rfl, h1, z, h2, hq⟩
      · simp only [primD] at e
        cases e
        obtain ⟨p, zs', rfl, h1, _, h2⟩ := S.seq rx q
        cases b with
        | true =>
          have rx' := rx
          simp only [Rp] at rx'
          obtain ⟨p', o, zs2, e1, e2, _⟩ := rx'
          cases e1
          exact call_tuple_of pins s σ H _ us Q I r ⟨_, zs2, rfl, .inr ⟨.inl (.inr ⟨o, e2⟩), k.same S rx⟩⟩
        | false =>
          have rx' := rx
          simp only [Rp] at rx'
          obtain ⟨p', zs2, e1, e2, _⟩ := rx'
          cases e1
          exact call_tuple_of pins s σ H _ us Q I r ⟨_, zs2, rfl, .inr ⟨e2 H, k.same S rx⟩⟩
      · simp only [primD] at e
        cases e
        exact call_tuple_of pins s σ H _ us Q I r ⟨p, zs, rfl, .inr ⟨SqT.of h1, k.same S rx⟩⟩
      · have n1 : ∀ b zs', a ≠ .kt b zs' := fun b zs' e => by subst e; cases hq
        have n2 : ∀ zs', a ≠ .tup zs' := fun zs' e => by subst e; cases hq
        rw [old ys n1 n2 q] at e
        cases x with
        | false =>
          cases e
          exact call_tuple_of pins s σ H _ us Q I r ⟨p, zs, rfl, .inl ⟨h1, fun l hl => k.tup S h2 z hl⟩⟩
        | true =>
          cases e
          obtain ⟨u, rfl, ru⟩ := vals1 r
          cases vRef ru
          obtain ⟨its, rv, pl, _⟩ := I.list h1
          have hl := rv.length
          refine call_tuple_list pl.isList (fun h' kp => ?_) (by simp only [List.size_toArray] <;> omega)
          have Ia : Inv X pins σ H { s with heap := h' } := I.kept kp (t' := s.toks)
          have Ib := Ia.laid (a := h'.objs.size) (o := .frz { cls := .type "tuple", data := .seq its.toArray } (.tup zs)) (h' := h'.push { cls := .type "tuple", data := .seq its.toArray }) (t' := s.toks) (fun b o q => Heap.get?_push_of_some _ q) (Nat.le_refl _)
            ⟨Heap.get?_push_size _ rfl, z, its, rv, IsTup.new _ _⟩
          exact ⟨.ref h'.objs.size, _, Ib, rfl, k.ktup S h2 z rfl (Ia.hok.fresh (Nat.le_refl _))⟩
  | [], e, _ => simp [primD] at e
  | _ :: _ :: _, e, _ => simp [primD] at e
theorem cr_int : CallR X (.type "int") (rPn X.K .int) := by
  intro pins s σ H xs us Q I r h
  obtain ⟨W, L, st, ds, d, st', S, rs, e, k⟩ := h
  match ds, e, rs with
  | [.int i], e, rs =>
    cases e
    obtain ⟨x, rfl, rx⟩ := rs.one
    cases rInt rx
    exact call_int1 pins s σ H _ us Q I r (.inl ⟨i, rfl, k.same S mkInt⟩)
  | [.bl b], e, rs =>
    cases e
    obtain ⟨x, rfl, rx⟩ := rs.one
    cases rBl rx
    exact call_int1 pins s σ H _ us Q I r (.inr ⟨b, rfl, k.same S mkInt⟩)
theorem cr_abs : CallR X (.builtin "abs") (rPn X.K .abs) := by
  intro pins s σ H xs us Q I r h
  obtain ⟨W, L, st, ds, d, st', S, rs, e, k⟩ := h
  match ds, e, rs with
  | [.int i], e, rs =>
    cases e
    obtain ⟨x, rfl, rx⟩ := rs.one
    cases rInt rx
    exact call_abs pins s σ H _ us Q I r ⟨i, rfl, k.same S mkInt⟩
theorem cr_min2 (hc : X.calm = true) : CallR X (.builtin "min") (rPn X.K .min2) := by
  intro pins s σ H xs us Q I r h
  obtain ⟨W, L, st, ds, d, st', S, rs, e, k⟩ := h
  match ds, e, rs with
  | [.int i, .int j], e, rs =>
    cases e
    obtain ⟨x, y, rfl, rx, ry⟩ := rs.two
    cases rInt rx; cases rInt ry
    exact call_min2 hc pins s σ H _ us Q I r ⟨i, j, rfl, k.same S mkInt⟩
theorem cr_max2 (hc : X.calm = true) : CallR X (.builtin "max") (rPn X.K .max2) := by
  intro pins s σ H xs us Q I r h
  obtain ⟨W, L, st, ds, d, st', S, rs, e, k⟩ := h
  match ds, e, rs with
  | [.int i, .int j], e, rs =>
    cases e
    obtain ⟨x, y, rfl, rx, ry⟩ := rs.two
    cases rInt rx; cases rInt ry
    exact call_max2 hc pins s σ H _ us Q I r ⟨i, j, rfl, k.same S mkInt⟩
theorem cr_min1 (hc : X.calm = true) : CallR X (.builtin "min") (rPn X.K .min1) := by
  intro pins s σ H xs us Q I r h
  obtain ⟨W, L, st, ds, d, st', S, rs, e, k⟩ := h
  match ds, e, rs with
  | [a], e, rs =>
    simp only [primD] at e
    split at e
    · rename_i ys q
      split at e
      · rename_i is q2
        cases q3 : minL is with
        | none => rw [q3] at e; cases e
        | some m =>
          rw [q3] at e
          cases e
          obtain ⟨x, rfl, rx⟩ := rs.one
          obtain ⟨p, zs, rfl, h1, z, h2⟩ := S.lis rx q
          have ez := intsOf_vals q2 h2
          subst ez
          obtain ⟨m1, m2⟩ := minL_spec q3
          refine cr_min hc pins s σ H _ us Q I r ⟨p, is, rfl, h1, List.length_pos_of_mem m1, fun m' k1 k2 => ?_⟩
          have : m' = m := by
            have a1 := k2 m m1
            have a2 := m2 m' k1
            omega
          rw [this]
          exact k.same S mkInt
      · cases e
    · cases e
  | [], e, _ => simp [primD] at e
  | _ :: _ :: _, e, _ => simp [primD] at e
theorem cr_max1 (hc : X.calm = true) : CallR X (.builtin "max") (rPn X.K .max1) := by
  intro pins s σ H xs us Q I r h
  obtain ⟨W, L, st, ds, d, st', S, rs, e, k⟩ := h
  match ds, e, rs with
  | [a], e, rs =>
    simp only [primD] at e
    split at e
    · rename_i ys q
      split at e
      · rename_i is q2
        cases q3 : maxL is with
        | none => rw [q3] at e; cases e
        | some m =>
          rw [q3] at e
          cases e
          obtain ⟨x, rfl, rx⟩ := rs.one
          obtain ⟨p, zs, rfl, h1, z, h2⟩ := S.lis rx q
          have ez := intsOf_vals q2 h2
          subst ez
          obtain ⟨m1, m2⟩ := maxL_spec q3
          refine cr_max hc pins s σ H _ us Q I r ⟨p, is, rfl, h1, List.length_pos_of_mem m1, fun m' k1 k2 => ?_⟩
          have : m' = m := by
            have a1 := k2 m m1
            have a2 := m2 m' k1
            omega
          rw [this]
          exact k.same S mkInt
      · cases e
    · cases e
  | [], e, _ => simp [primD] at e
  | _ :: _ :: _, e, _ => simp [primD] at e
theorem cr_sumP (hc : X.calm = true) : CallR X (.builtin "sum") (rPn X.K .sum) := by
  intro pins s σ H xs us Q I r h
  obtain ⟨W, L, st, ds, d, st', S, rs, e, k⟩ := h
  match ds, e, rs with
  | [a], e, rs =>
    simp only [primD] at e
    split at e
    · rename_i ys q
      cases q2 : intsOf ys with
      | none => rw [q2] at e; cases e
      | some is =>
        rw [q2] at e
        cases e
        obtain ⟨x, rfl, rx⟩ := rs.one
        obtain ⟨p, zs, rfl, h1, z, h2⟩ := S.seq rx q
        have ez := intsOf_vals q2 h2
        subst ez
        rcases h1 with h1 | h1
        · exact cr_sum hc pins s σ H _ us Q I r ⟨p, is, rfl, h1, k.same S mkInt⟩
        · obtain ⟨u, rfl, ru⟩ := vals1 r
          cases vRef ru
          obtain ⟨its, rv, pt, _⟩ := I.tuple h1
          have hi := rv.ints
          obtain ⟨xs, hx⟩ := hi.allInts.items
          have hn := hi.numsOf
          have pt' : s.heap.IsTuple p its.toArray := pt
          rw [hx] at pt'
          have hn' : numsOf (intItems xs).toList = is := by rw [← hx]; exact hn
          rw [nums_intItems] at hn'
          refine PySem.W.ktm_sumG (I.ok.hd hc) pt' fun h' tk t' hk => ?_
          refine ⟨.int is.sum, H, I.kept hk, ⟨t', ?_⟩, k.same S mkInt⟩
          rw [preSum_eq, List.take_of_length_le (by simp), hn']
    · cases e
  | [], e, _ => simp [primD] at e
  | _ :: _ :: _, e, _ => simp [primD] at e
end
end Ro
end
section
set_option Elab.async false
set_option linter.all false
set_option autoImplicit false
set_option maxHeartbeats 4000000
namespace Ro
open PySem PySem.Spec PyProof.Rows L2
/-! ## sorted -/
def intV : V → Option Int
  | .int i => some i
  | _ => none
def keyI (H : Hp) : Value → List Int
  | .ref a => match H a with
    | some (.tup xs) => xs.filterMap intV
    | _ => []
  | _ => []
theorem intV_map (ns : List Int) : (ns.map V.int).filterMap intV = ns := by
  induction ns with
  | nil => rfl
  | cons a r ih => simp [intV, ih]
theorem keyI_of {H : Hp} {a : Addr} {ns : List Int} (h : H a = some (.tup (ns.map V.int))) : keyI H (.ref a) = ns := by
  simp only [keyI, h, intV_map]
def refV' : Value → V
  | .ref a => .ref a
  | _ => .non
section
variable {X : Cx}
theorem paired_key {H : Hp} : ∀ {nss : List (List Int)} {xs : List V} {us : List Value}, Paired (fun (ns : List Int) (x : V) => ns ≠ [] ∧ ∃ a, x = .ref a ∧ H a = some (.tup (ns.map V.int)) ∧ ns.length ≤ sizeLine) nss xs → Vals xs us →
    us.map (keyI H) = nss ∧ ∀ u ∈ us, ∃ a, u = .ref a ∧ H a = some (.tup ((keyI H u).map V.int)) ∧ (keyI H u).length ≤ sizeLine ∧ keyI H u ≠ []
  | _, _, _, .nil, .nil => ⟨rfl, fun u h => by simp at h⟩
  | _, _, _, .cons p t, .cons r q => by
    obtain ⟨ne, a, rfl, h1, h2⟩ := p
    cases vRef r
    obtain ⟨i1, i2⟩ := paired_key t q
    have ek := keyI_of h1
    refine ⟨by rw [List.map_cons, ek, i1], fun u hu => ?_⟩
    rcases List.mem_cons.mp hu with rfl | hu
    · exact ⟨a, rfl, by rw [ek]; exact h1, by rw [ek]; exact h2, by rw [ek]; exact ne⟩
    · exact i2 u hu
theorem vals_refs {us : List Value} (h : ∀ u ∈ us, ∃ a, u = Value.ref a) : Vals (us.map refV') us := by
  induction us with
  | nil => exact .nil
  | cons u r ih =>
    obtain ⟨a, rfl⟩ := h _ List.mem_cons_self
    exact .cons rfl (ih fun v hv => h v (List.mem_cons_of_mem _ hv))
theorem rps_refs {K : PySem.W.Frag} {W : Addr → Prop} {L : List Addr} {H : Hp} {us : List Value} (h : ∀ u ∈ us, ∃ a, u = .ref a ∧ H a = some (.tup ((keyI H u).map V.int)) ∧ (keyI H u).length ≤ sizeLine ∧ keyI H u ≠ []) :
    Rps K W L H ((us.map (keyI H)).map fun n => .tup (n.map .int)) (us.map refV') := by
  induction us with
  | nil => exact .nil
  | cons u r ih =>
    obtain ⟨a, rfl, h1, h2, _⟩ := h _ List.mem_cons_self
    refine .cons ?_ (ih fun v hv => h v (List.mem_cons_of_mem _ hv))
    simp only [Rp]
    refine ⟨a, _, rfl, h1, by simpa using h2, ?_⟩
    generalize keyI H (.ref a) = ns
    clear h h1 h2 ih
    induction ns with
    | nil => exact .nil
    | cons i r ih => exact .cons mkInt ih
theorem rps_ints {K : PySem.W.Frag} {W : Addr → Prop} {L : List Addr} {H : Hp} (ns : List Int) : Rps K W L H (ns.map .int) (ns.map V.int) := by
  induction ns with
  | nil => exact .nil
  | cons i r ih => exact .cons mkInt ih
theorem cr_sortedP (m : Bool) : CallR X (.builtin "sorted") (rPn X.K (.sorted m)) := by
  intro pins s σ H xs us Q I r h
  obtain ⟨W, L, st, ds, d, st', S, rs, e, k⟩ := h
  match ds, e, rs with
  | [a], e, rs =>
    simp only [primD] at e
    split at e
    · rename_i ys q
      split at e
      · rename_i zs q2
        obtain ⟨x, rfl, rx⟩ := rs.one
        obtain ⟨p, vs, rfl, h1, z, h2⟩ := S.lis rx q
        unfold sortD at q2
        split at q2
        · rename_i ns q3
          split at q2
          · rename_i hl
            cases q2
            have ez := intsOf_vals q3 h2
            subst ez
            have hl' : ns.length < 64 := by
              have := h2.length
              rw [List.length_map] at this
              omega
            refine cr_sorted pins s σ H _ us Q I r ⟨p, ns, rfl, h1, hl', fun ns' p' g1 g2 g3 => ?_⟩
            have en : ns' = sortI ns := ascI_uniq _ _ g2 (sortI_asc _) (g1.trans (sortI_perm ns).symm)
            subst en
            refine k.newL e S (rps_ints _) ?_ g3
            rw [List.length_map, (sortI_perm ns).length_eq]
            simpa using z
          · cases q2
        · split at q2
          · rename_i nss q3
            cases q2
            obtain ⟨u, rfl, ru⟩ := vals1 r
            cases vRef ru
            obtain ⟨its, rv, pl, _⟩ := I.list h1
            obtain ⟨m1, m2⟩ := paired_key (tupsOf_vals q3 h2) rv
            have hz : its.length ≤ sizeLine := by rw [← rv.length]; exact z
            refine sorted_tupI (k := keyI H) pl.isList hz (fun v hv => ?_) (fun h' dd out o1 o2 o3 o4 o5 => ?_)
            · obtain ⟨b, rfl, g1, g2, g3⟩ := m2 v hv
              obtain ⟨jts, rj, ⟨o, ho, hc, n, hd⟩, _⟩ := I.tuple (SqT.of g1)
              exact ⟨b, o, jts.toArray, n, rfl, ho, hc, hd, by simpa using rj, g3⟩
            · have mo : ∀ u ∈ out, ∃ a, u = .ref a ∧ H a = some (.tup ((keyI H u).map V.int)) ∧ (keyI H u).length ≤ sizeLine ∧ keyI H u ≠ [] := fun u hu => m2 u (o2.mem_iff.mp hu)
              have vo : Vals (out.map refV') out := vals_refs fun u hu => by obtain ⟨a, e, _⟩ := mo u hu; exact ⟨a, e⟩
              obtain ⟨n5, o5⟩ := o5
              have hlo : (out.map refV').length ≤ sizeLine := by rw [List.length_map, o2.length_eq]; exact hz
              have In := I.laid (a := dd) (o := .lst (out.map refV')) (h' := h') (t' := s.toks) o3 o4 ⟨hlo, out, n5, vo, o5⟩
              refine ⟨.ref dd, _, In, rfl, k.newL e S ?_ hlo (I.hok.fresh o4)⟩
              have := rps_refs (K := X.K) (W := W) (L := L) (H := H) mo
              rw [o1, m1] at this
              exact this
          · cases q2
      · cases e
    · cases e
  | [], e, _ => simp [primD] at e
  | _ :: _ :: _, e, _ => simp [primD] at e

/-! ## isinstance -/
theorem kit_known : ∀ t ∈ ["NoneType", "bool", "int", "str", "tuple", "list"], ∀ u ∈ ["bool", "int", "str", "tuple", "list"], kitB t u = some (decide (t = u) || (decide (t = "bool") && decide (u = "int"))) := by decide +kernel
def knownTy (u : String) : Bool := ["bool", "int", "str", "tuple", "list"].contains u
theorem tyX_of {K : PySem.W.Frag} {W : Addr → Prop} {L : List Addr} {H : Hp} {st : Sto} {d : D} {x : V} {t : String} (S : Sim K W L H st) (h : Rp K W L H d x) (e : tyOf st d = some t) : (TyX K H x (.type t) ∨ ∃ a o, x = .ref a ∧ K.lookup a = some o ∧ o.cls = .type t) ∧ t ∈ ["NoneType", "bool", "int", "str", "tuple", "list"] := by
  cases d with
  | non => cases e; cases rNon h; exact ⟨.inl (.base .non), by decide⟩
  | bl b => cases e; cases rBl h; exact ⟨.inl (.base (.bl b)), by decide⟩
  | int i => cases e; cases rInt h; exact ⟨.inl (.base (.int i)), by decide⟩
  | str z => cases e; cases rStr h; exact ⟨.inl (.base (.str z)), by decide⟩
  | tup ds =>
    cases e
    obtain ⟨a, xs, rfl, h1, _⟩ := rTup h
    exact ⟨.inl (.base (.tup h1)), by decide⟩
  | lst ds =>
    cases e
    obtain ⟨a, xs, rfl, h1, _⟩ := rLst h
    exact ⟨.inl (.base (.lst h1)), by decide⟩
  | kl ds =>
    cases e
    simp only [Rp] at h
    obtain ⟨a, xs, rfl, h1, _⟩ := h
    rcases h1 with ⟨o, h1⟩ | h1
    · exact ⟨.inl (.base (.frz h1)), by decide⟩
    · refine ⟨.inr ?_, by decide⟩
      rcases h1 (fun _ => none) with (z | ⟨o, z⟩) | ⟨o, its, n, q1, q2, _⟩
      · cases z
      · cases z
      · exact ⟨a, o, rfl, q1, q2⟩
  | kt b ds =>
    cases e
    cases b with
    | true =>
      simp only [Rp] at h
      obtain ⟨a, o, xs, rfl, h1, _⟩ := h
      exact ⟨.inl (.fTuple h1), by decide⟩
    | false =>
      simp only [Rp] at h
      obtain ⟨a, xs, rfl, h1, _⟩ := h
      refine ⟨.inr ?_, by decide⟩
      rcases h1 (fun _ => none) with (z | ⟨o, z⟩) | ⟨o, its, n, q1, q2, _⟩
      · cases z
      · cases z
      · exact ⟨a, o, rfl, q1, q2⟩
  | loc n =>
    simp only [tyOf] at e
    split at e
    · rename_i q
      cases e
      obtain ⟨a, ys, rfl, _, h1, _⟩ := S.lst h q
      exact ⟨.inl (.base (.lst h1)), by decide⟩
    · cases e
  | _ => cases e
theorem tyX_of' {K : PySem.W.Frag} {W : Addr → Prop} {L : List Addr} {H : Hp} {st : Sto} {d : D} {x : V} {t : String} (S : Sim K W L H st) (h : Rp K W L H d x) (e : tyOf st d = some t) : TyX K H x (.type t) ∧ t ∈ ["NoneType", "bool", "int", "str", "tuple", "list"] := by
  obtain ⟨h1, h2⟩ := tyX_of S h e
  refine ⟨?_, h2⟩
  rcases h1 with h1 | ⟨a, o, rfl, q1, q2⟩
  · exact h1
  · cases d <;> simp only [tyOf] at e <;> first
      | (cases e; done)
      | skip
    all_goals simp only [Rp] at h
    all_goals first
      | (cases h; done)
      | skip
    · obtain ⟨b, xs, z, g, _⟩ := h
      cases z; cases e
      exact .kTuple q1 q2
    · obtain ⟨b, xs, z, g, _⟩ := h
      cases z; cases e
      exact .kList q1 q2
    · split at e
      · cases e
        exact .kList q1 q2
      · cases e
    · cases e
      exact .kTuple q1 q2
    · cases e
      exact .kList q1 q2
def isiB (t : String) (ts : List String) : Bool := ts.any fun u => decide (t = u) || (decide (t = "bool") && decide (u = "int"))
theorem kitAny_known {K : PySem.W.Frag} {t : String} (ht : t ∈ ["NoneType", "bool", "int", "str", "tuple", "list"]) : ∀ ts : List String, ts.all knownTy = true → PySem.W.kitAny K (.type t) (ts.map Value.type) = some (isiB t ts)
  | [], _ => kitAny_nil
  | u :: ts, h => by
    rw [List.all_cons, Bool.and_eq_true] at h
    have hu : u ∈ ["bool", "int", "str", "tuple", "list"] := by simpa [knownTy] using h.1
    have q := kit_ty (K := K) (kit_known t ht u hu)
    have ih := kitAny_known (K := K) ht ts h.2
    refine kitAny_cons q (fun hb => ?_) (fun hb => ?_)
    · rw [ih]; simp only [isiB, List.any_cons]; rw [hb]; rfl
    · simp only [isiB, List.any_cons]; rw [hb]; rfl
end
end Ro
end
section
set_option Elab.async false
set_option linter.all false
set_option autoImplicit false
set_option maxHeartbeats 4000000
namespace Ro
open PySem PySem.Spec PyProof.Rows L2
/-! ## Items, slices, stores -/
section
variable {K : PySem.W.Frag} {W : Addr → Prop} {L : List Addr} {H : Hp} {st st' : Sto} {d : D} {Q : VK}
theorem rps_atI {ds : List D} {xs : List V} {i : Int} {d : D} (r : Rps K W L H ds xs) (h : ixD ds i = some d) : ∃ v, atI xs i = some v ∧ Rp K W L H d v := by
  unfold ixD atI at h
  rw [r.length] at h
  unfold atI
  cases q : ixN xs.length i with
  | none => rw [q] at h; cases h
  | some j =>
    rw [q] at h
    exact r.get h
theorem rps_cut {ds : List D} {xs : List V} (r : Rps K W L H ds xs) (lo hi : Option Int) : Rps K W L H (cutD ds lo hi) (cutV xs lo hi) := by
  unfold cutD cutV
  rw [r.length]
  exact (r.drop _).take _
theorem cut_whole {α : Type} {xs : List α} {lo hi : Option Int} (h : HT.sIx xs.length 0 lo = 0 ∧ HT.sIx xs.length xs.length hi = xs.length) : (xs.drop (HT.sIx xs.length 0 lo)).take (HT.sIx xs.length xs.length hi - HT.sIx xs.length 0 lo) = xs := by
  rw [h.1, h.2]; simp
end
section
variable {M : Program} {w : World} {A : Around} {E : Value → Shared → Prop} {s : Shared}
/-- the last step of a subscription of a built-in's instance -/
theorem sub_tail {value slice : Expr} {o i : Value} {T id : String} {R : Value → Shared → Prop} (ty : s.TypeIs o T) (look : typeLookup (.type T) "__getitem__" = pure (some (.builtin id)))
    (got : wpAny (model M w) A (getItem o i) R E s) (plain : subscripted slice false o i = operate [o, i] (getItem o i)) : wpAny (model M w) A (subscriptTail value slice o i) R E s := by
  have last : wpAny (model M w) A (subscripted slice false o i) (fun r z => wpAny (model M w) A (letTemporaryGo value o r >>= fun _ => pure r) R E z) E s := by
    rw [plain]
    refine wpAny_operating (wpAny_mono got (fun r z q => ?_) fun _ _ y => y)
    exact wpAny_bind (wpAny_letTemporaryGo (wpAny_pure q))
  unfold subscriptTail
  refine wpAny_bind ?_
  rw [getitemInPython_of_ne ty.not_modules]
  refine wpAny_bind (wpAny_specialOf ty look ?_)
  first
    | exact wpAny_bind last
    | exact wpAny_pure (wpAny_bind last)
    | (refine wpAny_bind (wpAny_pure ?_); exact wpAny_bind last)
end
section
variable {X : Cx}
theorem ix_dict (hu : X.A.units + 1 < cLine) : IxR X (fun x y H Q => ∃ a v, x = .ref a ∧ DGet H a y (some v) ∧ Q v H) := by
  intro value slice pins s σ H x y v u Q I rx ry h hs
  obtain ⟨a, z, rfl, g, q⟩ := h
  cases vRef rx
  have ty := dict_typeIs I g
  have := d_getItem (A := X.A) (E := X.xe) (Q := EP X pins σ Q) hu I g ry fun w' s' I' rw' => ⟨z, H, I', rw', q⟩
  exact sub_tail ty PySem.F.slot_dict_getitem.lookup this hs
theorem ix_sub (hu : X.A.units + 1 < cLine) : IxR X (rP2 X.K .sub) := by
  intro value slice pins s σ H x y v u Q I rx ry h hs
  obtain ⟨W, L, st, a, b, d, st', S, ra, rb, e, k⟩ := h
  simp only [primD] at e
  split at e
  · rename_i ds q
    cases b with
    | int i =>
      simp only at e
      cases e1 : ixD ds i with
      | none => rw [e1] at e; cases e
      | some d' =>
        rw [e1] at e
        cases e
        cases rInt rb
        obtain ⟨p, xs, rfl, h1, _, h2⟩ := S.seq ra q
        obtain ⟨v', e2, r2⟩ := rps_atI h2 e1
        rcases h1 with h1 | h1
        · exact ix_list value slice pins s σ H _ _ v u Q I rx ry ⟨p, xs, i, v', rfl, rfl, h1, e2, k.same S r2⟩ hs
        · exact ix_tup value slice pins s σ H _ _ v u Q I rx ry ⟨p, xs, i, v', rfl, rfl, h1, e2, k.same S r2⟩ hs
    | _ => simp only at e; cases e
  · split at e
    · rename_i d' q
      cases e
      obtain ⟨p, r, rfl, g, g1, _⟩ := lookD_get S ra rb q
      obtain ⟨v', rfl, r2⟩ := g1 _ rfl
      exact ix_dict hu value slice pins s σ H _ _ v u Q I rx ry ⟨p, v', rfl, g, k.same S r2⟩ hs
    · cases e
/-- slices -/
def slD (st : Sto) (x : D) (l h : Option Int) : Option (D × Sto) :=
  match deref st x with
  | .tup xs => some (.tup (cutD xs l h), st)
  | .lst xs => some (.lst (cutD xs l h), st)
  | .kl xs => some (.lst (cutD xs l h), st)
  | .kt true xs => some (.kt true (cutD xs l h), st)
  | _ => none
theorem sl_exact : SlR X (fun x lo hi H Q => ∃ a o xs, x = .ref a ∧ H a = some (.frz o (.tup xs)) ∧ o.dict = none ∧
    ((HT.sIx xs.length 0 lo = 0 ∧ HT.sIx xs.length xs.length hi = xs.length) → Q (.ref a) H) ∧ (¬ (HT.sIx xs.length 0 lo = 0 ∧ HT.sIx xs.length xs.length hi = xs.length) → ∀ o' p, o'.dict = none → H p = none → Q (.ref p) (upd H p (.frz o' (.tup (cutV xs lo hi)))))) := by
  intro pins s σ H x v vl vu lo hi sl Q I rx hs pl pu h
  obtain ⟨a, o, xs, rfl, hx, hd, q1, q2⟩ := h
  cases vRef rx
  obtain ⟨its, r, ht, hz⟩ := I.tuple (show SqT X.K H a xs from .inl (.inr ⟨o, hx⟩))
  have hlen : its.length = xs.length := r.length.symm
  refine ⟨"tuple", _, PyProof.Rows.slot_tuple_getitem.lookup, ht.typeIs, ?_⟩
  by_cases hw : HT.sIx xs.length 0 lo = 0 ∧ HT.sIx xs.length xs.length hi = xs.length
  · refine getItem_tuple_whole ht hs pl pu ?_ ⟨.ref a, H, I, rfl, q1 hw⟩
    rw [List.size_toArray, hlen]; exact hw
  · have hls : its.toArray.size = xs.length := by rw [List.size_toArray, hlen]
    refine HT.getItem_tuple_cut ht hs pl pu (by rw [hls]; exact hw) ?_ (by rw [hls]; exact hz)
    simp only [hls]
    have rc : Vals (cutV xs lo hi) ((its.drop (HT.sIx xs.length 0 lo)).take (HT.sIx xs.length xs.length hi - HT.sIx xs.length 0 lo)) := (r.drop _).take _
    have hl := Nat.le_trans (cutV_length xs lo hi) hz
    have I1 := I.laid (a := s.heap.objs.size) (o := .frz { cls := .type "tuple", data := .seq ((its.drop (HT.sIx xs.length 0 lo)).take (HT.sIx xs.length xs.length hi - HT.sIx xs.length 0 lo)).toArray } (.tup (cutV xs lo hi)))
      (h' := s.heap.push { cls := .type "tuple", data := .seq ((its.drop (HT.sIx xs.length 0 lo)).take (HT.sIx xs.length xs.length hi - HT.sIx xs.length 0 lo)).toArray }) (t' := s.toks) (fun b o q => Heap.get?_push_of_some _ q) (Nat.le_refl _)
      ⟨Heap.get?_push_size _ rfl, hl, _, rc, IsTup.new _ _⟩
    exact ⟨.ref s.heap.objs.size, _, I1, rfl, q2 hw _ _ rfl (I.hok.fresh (Nat.le_refl _))⟩
theorem sl_any : SlR X (fun x lo hi H Q => ∃ W L st a d st', Sim X.K W L H st ∧ Rp X.K W L H a x ∧ slD st a lo hi = some (d, st') ∧ Kt X.K W L H d st' Q) := by
  intro pins s σ H x v vl vu lo hi sl Q I rx hs pl pu h
  obtain ⟨W, L, st, a, d, st', S, ra, e, k⟩ := h
  unfold slD at e
  split at e
  · rename_i ds q
    cases e
    have ra' : Rp X.K W L H (.tup ds) x := by
      cases a <;> simp only [deref] at q <;> first
        | (cases q; done)
        | (cases q; exact ra)
        | (split at q <;> cases q)
    obtain ⟨p, xs, rfl, h1, z, h2⟩ := rTup ra'
    refine sl_tupA pins s σ H _ v vl vu lo hi sl Q I rx hs pl pu ⟨p, xs, rfl, SqT.of h1, fun hw => ?_, fun _ r hr => ?_⟩
    · refine k.same S ?_
      simp only [Rp]
      refine ⟨p, xs, rfl, h1, z, ?_⟩
      have := rps_cut h2 lo hi
      unfold cutV at this
      rw [cut_whole hw] at this
      exact this
    · exact k.tup S (rps_cut h2 lo hi) (Nat.le_trans (cutV_length _ _ _) z) hr
  · rename_i ds q
    cases e
    obtain ⟨p, xs, rfl, h1, z, h2⟩ := S.derefL ra q
    exact sl_list pins s σ H _ v vl vu lo hi sl Q I rx hs pl pu ⟨p, xs, rfl, SqL.of h1, fun r hr => k.lst S (rps_cut h2 lo hi) (Nat.le_trans (cutV_length _ _ _) z) hr⟩
  · rename_i ds q
    cases e
    have ra' : Rp X.K W L H (.kl ds) x := by
      cases a <;> simp only [deref] at q <;> first
        | (cases q; done)
        | (cases q; exact ra)
        | (split at q <;> cases q)
    simp only [Rp] at ra'
    obtain ⟨p, xs, rfl, h1, z, h2⟩ := ra'
    exact sl_list pins s σ H _ v vl vu lo hi sl Q I rx hs pl pu ⟨p, xs, rfl, h1.sq, fun r hr => k.lst S (rps_cut h2 lo hi) (Nat.le_trans (cutV_length _ _ _) z) hr⟩
  · rename_i ds q
    cases e
    have ra' : Rp X.K W L H (.kt true ds) x := by
      cases a <;> simp only [deref] at q <;> first
        | (cases q; done)
        | (cases q; exact ra)
        | (split at q <;> cases q)
    simp only [Rp] at ra'
    obtain ⟨p, o, xs, rfl, h1, hd, z, h2⟩ := ra'
    refine sl_exact pins s σ H _ v vl vu lo hi sl Q I rx hs pl pu ⟨p, o, xs, rfl, h1, hd, fun hw => ?_, fun _ o' r hd' hr => ?_⟩
    · refine k.same S ?_
      simp only [Rp]
      refine ⟨p, o, xs, rfl, h1, hd, z, ?_⟩
      have := rps_cut h2 lo hi
      unfold cutV at this
      rw [cut_whole hw] at this
      exact this
    · exact k.ktup S (rps_cut h2 lo hi) (Nat.le_trans (cutV_length _ _ _) z) hd' hr
  · cases e
/-! ### methods -/
def rMt (K : PySem.W.Frag) (p : Pr) : V → List V → Hp → VK → Prop := fun x xs H Q => ∃ W L st a ds d st', Sim K W L H st ∧ Rp K W L H a x ∧ Rps K W L H ds xs ∧ primD p st (a :: ds) = some (d, st') ∧ Kt K W L H d st' Q
theorem Kt.set {K : PySem.W.Frag} {W : Addr → Prop} {L : List Addr} {H : Hp} {st : Sto} {d : D} {Q : VK} {n : Nat} {ob : Ob} {o : HO} {a : Addr} {v : V} (k : Kt K W L H d (st.set n ob) Q) (S : Sim K W L H st) (hL : L[n]? = some a) (mu : Mut (some o)) (r : RpO K W L H ob (some o)) (rv : Rp K W L H d v) : Q v (upd H a o) :=
  k W L _ _ (S.set hL mu (r.mono S (S.setE hL))) (S.setE hL) (rv.mono S (S.setE hL))
theorem mt_appendP : MtR X "list.append" (rMt X.K .append) := by
  intro pins s σ H x xs v us Q I rx rxs h
  obtain ⟨W, L, st, a, ds, d, st', S, ra, rs, e, k⟩ := h
  match a, ds, e, ra, rs with
  | .loc n, [c], e, ra, rs =>
    simp only [primD] at e
    split at e
    · rename_i ys q
      split at e
      · rename_i hz
        cases e
        obtain ⟨y, rfl, ry⟩ := rs.one
        obtain ⟨p, zs, rfl, hL, h1, z, h2⟩ := S.lst ra q
        have hz' : zs.length < sizeLine := by rw [← h2.length]; exact hz
        refine mt_append pins s σ H _ _ v us Q I rx rxs ⟨p, zs, y, rfl, rfl, h1, hz', ?_⟩
        exact k.set S hL trivial ⟨_, rfl, by rw [List.length_append]; exact hz', h2.append (.cons ry .nil)⟩ mkNon
      · cases e
    · cases e
theorem mt_extendP : MtR X "list.extend" (rMt X.K .extend) := by
  intro pins s σ H x xs v us Q I rx rxs h
  obtain ⟨W, L, st, a, ds, d, st', S, ra, rs, e, k⟩ := h
  match a, ds, e, ra, rs with
  | .loc n, [.lst cs], e, ra, rs =>
    simp only [primD] at e
    split at e
    · rename_i ys q
      split at e
      · rename_i hz
        cases e
        obtain ⟨y, rfl, ry⟩ := rs.one
        obtain ⟨p2, z2, rfl, g1, _, g2, g3⟩ := rLst ry
        obtain ⟨p, zs, rfl, hL, h1, z, h2⟩ := S.lst ra q
        have hz' : zs.length + z2.length ≤ sizeLine := by rw [← h2.length, ← g3.length]; exact hz
        refine mt_extend pins s σ H _ _ v us Q I rx rxs ⟨p, p2, zs, z2, rfl, rfl, h1, g1, hz', ?_⟩
        exact k.set S hL trivial ⟨_, rfl, by rw [List.length_append]; exact hz', h2.append g3⟩ mkNon
      · cases e
    · cases e
theorem mt_popiP : MtR X "list.pop" (rMt X.K .popi) := by
  intro pins s σ H x xs v us Q I rx rxs h
  obtain ⟨W, L, st, a, ds, d, st', S, ra, rs, e, k⟩ := h
  match a, ds, e, ra, rs with
  | .loc n, [.int i], e, ra, rs =>
    simp only [primD] at e
    split at e
    · rename_i ys q
      split at e
      · rename_i hi
        split at e
        · rename_i d' q2
          cases e
          obtain ⟨y, rfl, ry⟩ := rs.one
          cases rInt ry
          obtain ⟨p, zs, rfl, hL, h1, z, h2⟩ := S.lst ra q
          obtain ⟨x', e2, r2⟩ := h2.get q2
          have hj := (List.getElem?_eq_some_iff.mp e2).1
          have hk : ixN zs.length i = some i.toNat := by
            unfold ixN
            rw [if_pos hi.1, if_pos (by omega)]
          refine mt_popAt pins s σ H _ _ v us Q I rx rxs ⟨p, zs, i, i.toNat, x', rfl, rfl, h1, by omega, by omega, (ixN_seq hk).1, e2, ?_⟩
          exact k.set S hL trivial ⟨_, rfl, Nat.le_trans (len_erase _ _) z, h2.erase _⟩ r2
        · cases e
      · cases e
    · cases e
theorem mt_indexP : MtR X "list.index" (rMt X.K .index) := by
  intro pins s σ H x xs v us Q I rx rxs h
  obtain ⟨W, L, st, a, ds, d, st', S, ra, rs, e, k⟩ := h
  match ds, e, rs with
  | [.int i], e, rs =>
    simp only [primD] at e
    split at e
    · rename_i ys q
      split at e
      · rename_i is q2
        cases q3 : firstI i is with
        | none => rw [q3] at e; cases e
        | some j =>
          rw [q3] at e
          cases e
          obtain ⟨y, rfl, ry⟩ := rs.one
          cases rInt ry
          obtain ⟨p, zs, rfl, h1, z, h2⟩ := S.lis ra q
          have ez := intsOf_vals q2 h2
          subst ez
          obtain ⟨f1, f2⟩ := firstI_spec q3
          refine mt_index pins s σ H _ _ v us Q I rx rxs ⟨p, is.map V.int, .int i, j, .int i, rfl, rfl, h1, rfl, by simp [flatV], by simp [f1], by simp [eqV], fun m z' hm hz => ?_, k.same S mkInt⟩
          rw [List.getElem?_map] at hz
          obtain ⟨c, hc, rfl⟩ := Option.map_eq_some_iff.mp hz
          have := f2 m hm c hc
          simpa [eqV] using this
      · cases e
    · cases e
  | [], e, _ => simp [primD] at e
  | _ :: _ :: _, e, _ => simp [primD] at e
/-- t.count(i), t a tuple whose object is known -/
theorem mt_countP {pins : List (Addr × Obj)} {s : Shared} {σ : L2.St} {H : Hp} {x : V} {xs : List V} {v : Value} {us : List Value} {Q : VK} (I : Inv X pins σ H s) (rx : RelV x v) (rxs : Vals xs us) (h : rMt X.K .count x xs H Q) :
    wpAny (model X.prog X.w) X.A (call (.builtin "tuple.count") (v :: us)) (EP X pins σ Q) X.xe s := by
  obtain ⟨W, L, st, a, ds, d, st', S, ra, rs, e, k⟩ := h
  match a, ds, e, ra, rs with
  | .kt true ys, [.int i], e, ra, rs =>
    simp only [primD] at e
    cases q : intsOf ys with
    | none => rw [q] at e; cases e
    | some is =>
      rw [q] at e
      cases e
      obtain ⟨y, rfl, ry⟩ := rs.one
      cases rInt ry
      simp only [Rp] at ra
      obtain ⟨p, o, zs, rfl, h1, hd, z, h2⟩ := ra
      have ez := intsOf_vals q h2
      subst ez
      cases vRef rx
      obtain ⟨u, rfl, ru⟩ := rxs.one
      obtain ⟨t, rfl⟩ := ru
      obtain ⟨its, rv, ⟨⟨cls, dd, data, sl⟩, ho, hc, n, hdt⟩, _⟩ := I.tuple (show SqT X.K H p _ from .inl (.inr ⟨o, h1⟩))
      simp only at hc hdt
      subst hc hdt
      have hi := ints_of_vals rv
      refine call_meets PySem.F.slot_tuple_count ⟨_, ho, rfl⟩ PySem.F.entry_tuple_count (PySem.F.args_tuple_count_2 _ _)
        (SeqAt.tuple_countAt p its.toArray n dd sl (.int i t) (eqk i)) ⟨ho, fun c hc => (eqk_gives hi c (by simpa using hc)).at _ _, ?_⟩
      have ec : its.toArray.toList.countP (eqk i) = is.count i := eqk_count hi
      exact ⟨.int (is.count i : Nat), H, I.tok _, ⟨s.toks, by rw [ec]⟩, k.same S mkInt⟩
/-! ### o[i] = v -/
theorem any_keys {κ α β : Type} [DecidableEq κ] (k : κ) : ∀ {us : List (κ × α)} {kvs : List (κ × β)}, us.map (·.1) = kvs.map (·.1) → (us.any fun p => decide (p.1 = k)) = kvs.any fun p => decide (p.1 = k)
  | [], [], _ => rfl
  | [], _ :: _, e => by simp at e
  | _ :: _, [], e => by simp at e
  | p :: us, q :: kvs, e => by
    simp only [List.map_cons, List.cons.injEq] at e
    rw [List.any_cons, List.any_cons, any_keys k e.2, e.1]
theorem repl_rel {K : PySem.W.Frag} {W : Addr → Prop} {L : List Addr} {H : Hp} {κ : Type} [DecidableEq κ] (k : κ) {d : D} {v : V} (rv : Rp K W L H d v) : ∀ {kvs : List (κ × D)} {us : List (κ × V)}, us.map (·.1) = kvs.map (·.1) → Rps K W L H (kvs.map (·.2)) (us.map (·.2)) →
    (us.map (fun p => if p.1 = k then (p.1, v) else p)).map (·.1) = (kvs.map (fun p => if p.1 = k then (p.1, d) else p)).map (·.1) ∧ Rps K W L H ((kvs.map (fun p => if p.1 = k then (p.1, d) else p)).map (·.2)) ((us.map (fun p => if p.1 = k then (p.1, v) else p)).map (·.2))
  | [], [], _, _ => ⟨rfl, .nil⟩
  | [], _ :: _, e, _ => by simp at e
  | _ :: _, [], e, _ => by simp at e
  | (j, c) :: kvs, (j', u) :: us, e, r => by
    simp only [List.map_cons, List.cons.injEq] at e
    obtain ⟨e1, e2⟩ := e
    subst e1
    obtain ⟨y, ys, z, r1, r2⟩ := Rps_cons r
    simp only [List.map_cons, List.cons.injEq] at z
    obtain ⟨z1, z2⟩ := z
    subst z1 z2
    obtain ⟨i1, i2⟩ := repl_rel k rv e2 r2
    simp only [List.map_cons]
    by_cases hj : j' = k
    · rw [if_pos hj, if_pos hj]
      exact ⟨by rw [i1], .cons rv i2⟩
    · rw [if_neg hj, if_neg hj]
      exact ⟨by rw [i1], .cons r1 i2⟩
theorem put_rel {K : PySem.W.Frag} {W : Addr → Prop} {L : List Addr} {H : Hp} {κ : Type} [DecidableEq κ] (k : κ) {d : D} {v : V} (rv : Rp K W L H d v) {kvs : List (κ × D)} {us : List (κ × V)} (e : us.map (·.1) = kvs.map (·.1)) (r : Rps K W L H (kvs.map (·.2)) (us.map (·.2))) :
    (L2.putK us k v).map (·.1) = (Ro.putK k d kvs).map (·.1) ∧ Rps K W L H ((Ro.putK k d kvs).map (·.2)) ((L2.putK us k v).map (·.2)) := by
  unfold L2.putK Ro.putK
  rw [any_keys k e]
  split
  · exact repl_rel k rv e r
  · simp only [List.map_append, List.map_cons, List.map_nil]
    exact ⟨by rw [e], r.append (.cons rv .nil)⟩
theorem set_any (hu : X.A.units + 1 < cLine) : PSet X (fun o i v H Q => ∃ W L st a b c st', Sim X.K W L H st ∧ Rp X.K W L H a o ∧ Rp X.K W L H b i ∧ Rp X.K W L H c v ∧ setItemD st a b c = some st' ∧ ∀ W' L' H', Sim X.K W' L' H' st' → Ext W L H W' L' H' → Q H') := by
  intro pins s σ H o i v ov iv u Q I ro ri rv h
  obtain ⟨W, L, st, a, b, c, st', S, ra, rb, rc, e, k⟩ := h
  have fin : ∀ {n : Nat} {p : Addr} {ob : Ob} {ho : HO}, L[n]? = some p → Mut (some ho) → RpO X.K W L H ob (some ho) → st' = st.set n ob → Q (upd H p ho) := fun hL mu r es => by
    subst es
    exact k W L _ (S.set hL mu (r.mono S (S.setE hL))) (S.setE hL)
  unfold setItemD at e
  split at e
  · rename_i n
    split at e
    · rename_i ds q
      split at e
      · rename_i j
        cases q2 : ixN ds.length j with
        | none => rw [q2] at e; cases e
        | some m =>
          rw [q2] at e
          have es : st.set n (.lst (ds.set m c)) = st' := Option.some.inj e
          obtain ⟨p, xs, rfl, hL, h1, z, h2⟩ := S.lst ra q
          cases rInt rb
          refine set_list pins s σ H _ _ v ov iv u Q I ro ri rv ⟨p, xs, j, m, rfl, rfl, h1, by rw [← h2.length]; exact q2, ?_⟩
          exact fin (ob := .lst (ds.set m c)) hL trivial ⟨_, rfl, by rw [List.length_set]; exact z, h2.set m rc⟩ es.symm
      · cases e
    · rename_i kvs q
      split at e
      · rename_i key q2
        split at e
        · rename_i hz
          have es := Option.some.inj e
          obtain ⟨p, rfl, hL⟩ := rLoc ra
          obtain ⟨p', hb, us, e1, e2, e3⟩ := S.at_ q
          rw [hL] at hb; cases hb
          cases vRef ro
          have hy := keyOf_v rb q2
          subst hy
          have hz' : us.length < sizeLine := by
            have := congrArg List.length e2
            simp only [List.length_map] at this
            omega
          refine d_setItem hu I (DPut.k e1 hz') ri rv fun s' I' => ⟨_, I', ?_⟩
          obtain ⟨f1, f2⟩ := put_rel key rc e2 e3
          exact fin (ob := .dk (Ro.putK key c kvs)) hL trivial ⟨_, rfl, f1, f2⟩ es.symm
        · cases e
      · cases e
    · rename_i kvs q
      split at e
      · rename_i key
        split at e
        · rename_i ks q2
          split at e
          · rename_i hz
            have es := Option.some.inj e
            obtain ⟨p, rfl, hL⟩ := rLoc ra
            obtain ⟨p', hb, us, e1, e2, e3⟩ := S.at_ q
            rw [hL] at hb; cases hb
            cases vRef ro
            obtain ⟨t, rfl, ht⟩ := tupKey_v rb q2
            have hz' : us.length < sizeLine := by
              have := congrArg List.length e2
              simp only [List.length_map] at this
              omega
            refine d_setItem hu I (DPut.t e1 ht hz') ri rv fun s' I' => ⟨_, I', ?_⟩
            obtain ⟨f1, f2⟩ := put_rel ks rc e2 e3
            exact fin (ob := .dt (Ro.putK ks c kvs)) hL trivial ⟨_, rfl, f1, f2⟩ es.symm
          · cases e
        · cases e
      · cases e
    · cases e
  · cases e
end
end Ro
end
section
set_option Elab.async false
set_option linter.all false
set_option autoImplicit false
set_option maxHeartbeats 4000000
namespace Ro
open PySem PySem.Spec PyProof.Rows L2

/-! ## What is walked: a list or a tuple, by kind -/
/-- true: a list; false: a tuple -/
def Sq (K : PySem.W.Frag) : Bool → Hp → Addr → List V → Prop
  | true => SqL K
  | false => SqT K
def AtI : Bool → Heap → Addr → Addr → Nat → Prop
  | true => Heap.IsListIter
  | false => Heap.IsTupleIter
def AtS : Bool → Heap → Addr → Array Value → Prop
  | true => Heap.IsList
  | false => Heap.IsTuple
/-- the iterator that is laid -/
def itO : Bool → Addr → Obj
  | true, l => { cls := .type "list_iterator", data := .fields #[.ref l, .int 0 0] }
  | false, l => { cls := .type "tuple_iterator", data := .fields #[.ref l, .int 0 0] }
theorem beg {k : Bool} {l : Addr} {items : Array Value} : Begins (.ref l) (itO k l) (fun h => AtS k h l items) := by
  cases k
  · exact begins_tuple l items
  · exact begins_list l items
theorem drw {prog : Program} {w : World} {A : Around} {k : Bool} (hh : A.handled = none) {it l : Addr} (ne : l ≠ it) (items : Array Value) :
    Draws prog w A it [it, l] items.size (fun i v => items[i]? = some v) (fun i h => AtI k h it l i ∧ AtS k h l items) := by
  cases k
  · exact Draws.tuple hh it l ne items
  · exact Draws.list hh it l ne items
section
variable {k : Bool} {h h' : Heap} {it a : Addr} {i : Nat} {items : Array Value}
theorem AtI.obj (q : AtI k h it a i) : ∃ o, h.get? it = some o ∧ ∃ vs, o.data = .fields vs := by
  cases k
  · obtain ⟨o, e, _, d⟩ := q; exact ⟨o, e, _, d⟩
  · obtain ⟨o, e, _, d⟩ := q; exact ⟨o, e, _, d⟩
theorem AtI.via (q : AtI k h it a i) (u : ∀ o, h.get? it = some o → h'.get? it = some o) : AtI k h' it a i := by
  cases k
  · exact Heap.IsTupleIter.at q u
  · exact Heap.IsListIter.at q u
theorem AtI.new {o : Obj} (e : h.get? it = some o) (eo : o = itO k a) : AtI k h it a 0 := by
  subst eo
  cases k
  · exact ⟨_, e, rfl, rfl⟩
  · exact ⟨_, e, rfl, rfl⟩
theorem AtS.obj (q : AtS k h a items) : ∃ o, h.get? a = some o ∧ ∃ n, o.data = .seq items n := by
  cases k
  · obtain ⟨o, e, _, n, d⟩ := q; exact ⟨o, e, n, d⟩
  · obtain ⟨o, e, _, n, d⟩ := q; exact ⟨o, e, n, d⟩
theorem AtS.ne {b : Addr} (q : AtS k h a items) {o : Obj} (e : h.get? b = some o) {vs : Array Value} (d : o.data = .fields vs) : a ≠ b := fun z => by
  obtain ⟨o', e', n, d'⟩ := q.obj
  rw [z, e] at e'
  cases e'
  rw [d] at d'
  cases d'
theorem AtS.neI {b c : Addr} {j : Nat} {k2 : Bool} (q : AtS k h a items) (p : AtI k2 h b c j) : a ≠ b := by
  obtain ⟨o, e, vs, d⟩ := p.obj
  exact q.ne e d
end
section
variable {X : Cx} {pins : List (Addr × Obj)} {σ : L2.St} {H : Hp} {s : Shared} {k : Bool} {a : Addr} {xs : List V}
theorem readSq (I : Inv X pins σ H s) (q : Sq X.K k H a xs) : ∃ its : List Value, Vals xs its ∧ AtS k s.heap a its.toArray ∧ xs.length ≤ sizeLine := by
  cases k
  · obtain ⟨its, r, p, z⟩ := I.tuple q
    exact ⟨its, r, (show s.heap.IsTuple a its.toArray from p), z⟩
  · obtain ⟨its, r, p, z⟩ := I.list q
    exact ⟨its, r, p.isList, z⟩
end

theorem sq_inj {X : Cx} {pins : List (Addr × Obj)} {σ : L2.St} {H : Hp} {s : Shared} {k : Bool} {a : Addr} {xs ys : List V} (I : Inv X pins σ H s) (h : Sq X.K k H a xs) (h' : Sq X.K k H a ys) : xs = ys := by
  cases k
  · exact I.tuple_inj h h'
  · exact I.list_inj h h'

/-! ## enumerate -/
def ItEn (K : PySem.W.Frag) (k : Bool) (a : Addr) : L2.It :=
  ⟨fun i H => ∃ xs, Sq K k H a xs ∧ i < xs.length, fun i H v H' => ∃ T x, v = .ref T ∧ H T = none ∧ H' = upd H T (.tup [.int (i : Nat), x]) ∧ ∀ xs, Sq K k H a xs → xs[i]? = some x, fun i H => ∃ xs, Sq K k H a xs ∧ i = xs.length⟩
theorem vgetT {xs : List V} {its : List Value} (r : Vals xs its) {i : Nat} {u : Value} (h : its.toArray[i]? = some u) : ∃ x, xs[i]? = some x ∧ RelV x u := by
  have hi : i < its.length := by
    have := (Array.getElem?_eq_some_iff.mp h).1
    simpa using this
  have hx : i < xs.length := by rw [r.length]; exact hi
  obtain ⟨v, hv, rv⟩ := r.get (List.getElem?_eq_getElem hx)
  refine ⟨_, List.getElem?_eq_getElem hx, ?_⟩
  have e : u = v := by
    have h2 : its[i]? = some u := by simpa using h
    rw [hv] at h2
    exact (Option.some.inj h2).symm
  rw [e]
  exact rv
theorem turn_en {P : Program} {w : World} {K : PySem.W.Frag} {elts : List Expr} {kk : Nat} {tp : Pos} {k : Bool} (a e it : Addr) :
    Turn P w K (.Tuple elts kk tp) (ItEn K k a) [e, it] e (fun i h => (∃ u, IsEnum h e it ((i : Nat) : Int) u) ∧ AtI k h it a i ∧ e ≠ it) where
  mem := List.mem_cons_self ..
  obj := fun i h st b hb => by
    obtain ⟨⟨u, he⟩, p, _⟩ := st
    rcases List.mem_cons.mp hb with z | z
    · exact ⟨_, by rw [z]; exact he, fun v q => by cases q⟩
    · obtain ⟨o, eo, vs, d⟩ := p.obj
      exact ⟨o, by rw [List.mem_singleton.mp z]; exact eo, fun v q => by rw [d] at q; cases q⟩
  keep := fun i h h' st u => by
    obtain ⟨⟨v, he⟩, p, ne⟩ := st
    exact ⟨⟨v, u e (List.mem_cons_self ..) _ he⟩, p.via (fun o eo => u it (List.mem_cons_of_mem _ (List.mem_cons_self ..)) _ eo), ne⟩
  item := by
    intro X hP hw hK hc i pins s σ H E I hf st hg
    subst hP hw hK
    obtain ⟨⟨u0, he⟩, hit, hne⟩ := st
    obtain ⟨xs, hq, hi⟩ := hg
    obtain ⟨its, rv, p, hz⟩ := readSq I hq
    have hl : i < its.toArray.size := by simp only [List.size_toArray]; rw [← rv.length]; exact hi
    have hae : a ≠ e := p.ne he rfl
    have hai : a ≠ it := p.neI hit
    have hel : e < s.heap.objs.size := Heap.lt_size he
    have hil : it < s.heap.objs.size := by
      obtain ⟨o, eo, _⟩ := hit.obj
      exact Heap.lt_size eo
    refine wpAny_pyNext_enum_itemC (drw (k := k) (show X.A.in1.handled = none from I.ok.hd hc) hai its.toArray) he ⟨hit, p⟩ hl hne (by simp [hne, Ne.symm hae]) ?_
    intro u h1 tk hu ho st1 hT hsz hk
    obtain ⟨x, hx, ru⟩ := vgetT rv hu
    refine ⟨_, rfl, wpAny_letOwnedTupleGo_enum (s := { s with heap := h1, toks := tk + 1 }) ho fun h2 he2 sb => ?_⟩
    have hT2 : h2.get? s.heap.objs.size = some { cls := .type "tuple", data := .seq #[.int i tk, u] } := by
      rw [sb.2 _ (Nat.ne_of_gt hel)]
      exact hT
    have nw : ObjOk X.prog X.w (upd H s.heap.objs.size (.tup [.int (i : Nat), x])) h2 s.heap.objs.size (.tup [.int (i : Nat), x]) :=
      ⟨(by decide : 2 ≤ sizeLine), [.int i tk, u], .cons ⟨_, rfl⟩ (.cons ru .nil), ⟨_, hT2, rfl, _, rfl⟩⟩
    have I1 : Inv X pins σ (upd H s.heap.objs.size (.tup [.int (i : Nat), x])) { s with heap := h2, toks := tk + 1 } := by
      refine I.turnedNew (ch := [e, it]) (fun b ob hb q => ?_) hf (Nat.le_refl _) nw
      simp only [List.mem_cons, List.not_mem_nil, or_false, not_or] at hb
      rw [sb.2 b hb.1]
      exact hk b ob hb.1 hb.2 q
    refine ⟨.ref s.heap.objs.size, _, I1, rfl, ⟨_, x, rfl, I.hok.fresh (Nat.le_refl _), rfl, fun ys hy => by rw [sq_inj I hy hq]; exact hx⟩, ⟨⟨u, ?_⟩, st1.1.via (fun o q => (sb.2 it (Ne.symm hne)).trans q), hne⟩, fun b hb => ?_⟩
    · rw [show ((i + 1 : Nat) : Int) = (i : Int) + 1 by omega]
      exact he2
    · have hb' : b < s.heap.objs.size := by
        rcases List.mem_cons.mp hb with z | z
        · rw [z]; exact hel
        · rw [List.mem_singleton.mp z]; exact hil
      rw [upd_ne (Nat.ne_of_lt hb')]
      exact (hf b hb).1
  done := by
    intro X hP hw hK hc i pins s σ H E I hf st hg
    subst hP hw hK
    obtain ⟨⟨u0, he⟩, hit, hne⟩ := st
    obtain ⟨xs, hq, hi⟩ := hg
    subst hi
    obtain ⟨its, rv, p, hz⟩ := readSq I hq
    have hai : a ≠ it := p.neI hit
    have hl : xs.length = its.toArray.size := by simp only [List.size_toArray]; exact rv.length
    obtain ⟨f0, f1, f2, f3, f4, f5⟩ := hf it (List.mem_cons_of_mem _ (List.mem_cons_self ..))
    refine wpAny_pyNext_enum_endD (drw (k := k) (show X.A.in1.handled = none from I.ok.hd hc) hai its.toArray) he (by rw [← hl]; exact ⟨hit, p⟩) fun h1 eb => ?_
    exact ⟨rfl, I.turned (t' := s.toks) (fun b o hb q => eb b o hb q) f0 f1 f3 f4 f5⟩
  self := fun A i s Q E st q => by
    obtain ⟨⟨u, he⟩, _⟩ := st
    exact wpAny_pyIter_enum he q

set_option maxHeartbeats 1000000 in
theorem meets_en1 {v : Value} {o : Obj} {G : Heap → Prop} (B : Begins v o G) :
    Meets (Builtin.«enumerate.__new__» ⟨[.type "enumerate", v], []⟩) (fun _ R s => G s.heap ∧
      R (.ok (.ret (.ref (s.heap.push o).objs.size))) { s with heap := (s.heap.push o).push { cls := .type "enumerate", data := .fields #[.none, .bool false, .ref s.heap.objs.size, rawInt 0, .none, .none] } }) := by
  refine .of_wp fun prog w A R s g => ?_
  obtain ⟨hp, gn, d, tk, os⟩ := s
  obtain ⟨g1, g⟩ := g
  have hsub := sub_enumerate
  have qi : ∀ {A' : Around} {E Q : Value → Shared → Prop}, Q (.ref hp.objs.size) ⟨hp.push o, gn, d, tk, os⟩ → wpAny (model prog w) A' (pyIter v) Q E ⟨hp, gn, d, tk, os⟩ :=
    fun q => B.iter prog w _ _ ⟨hp, gn, d, tk, os⟩ _ g1 q
  wp_walk using qi
  refine wpAny_stack_any fun st => wpAny_pure ?_
  split
  · rename_i c _ _ _ _ _
    cases (c == Value.type "enumerate")
    · wp_walk using qi
      exact ⟨_, rfl, g⟩
    · wp_walk using qi
      exact ⟨_, rfl, g⟩
  · wp_walk using qi
    exact ⟨_, rfl, g⟩
theorem call_en1 {prog : Program} {w : World} {A : Around} {E : Value → Shared → Prop} {s : Shared} {v : Value} {o : Obj} {G : Heap → Prop} {Q : Value → Shared → Prop} (B : Begins v o G) (g : G s.heap)
    (q : ∀ h1, IsEnum h1 (s.heap.objs.size + 1) s.heap.objs.size 0 .none → h1.get? s.heap.objs.size = some o → (∀ b o, s.heap.get? b = some o → h1.get? b = some o) → Q (.ref (s.heap.objs.size + 1)) { s with heap := h1 }) :
    wpAny (model prog w) A (call (.type "enumerate") [v]) Q E s := by
  refine callType_new F.called_enumerate (by decide) (F.typeCall_enumerate_1 _) (F.newCall_enumerate_1 _) (fun obj => F.args_object_init_2 obj _) F.entry_enumerate_new (meets_en1 B) ⟨g, ?_⟩
  have z1 : (s.heap.push o).objs.size = s.heap.objs.size + 1 := Heap.size_push ..
  have he := Heap.get?_push_size (s.heap.push o) (o := { cls := .type "enumerate", data := .fields #[.none, .bool false, .ref s.heap.objs.size, rawInt 0, .none, .none] }) rfl
  rw [z1] at he
  show _ ∧ _
  rw [z1]
  exact ⟨⟨_, he, rfl⟩, q _ he (Heap.get?_push_of_some _ (Heap.get?_push_size _ B.free)) fun b o u => Heap.get?_push_of_some _ (Heap.get?_push_of_some _ u)⟩
/-- enumerate of a list or a tuple -/
def iEn (K : PySem.W.Frag) (ta : TA) : TI := fun σ H R => ta σ H fun vs H1 => ∃ k a xs, vs = [.ref a] ∧ Sq K k H1 a xs ∧ R (ItEn K k a) H1
theorem pi_en {X : Cx} {e : Expr} {ta : TA} {p pos tp : Pos} {elts : List Expr} {kk : Nat} (hg : Gl X "enumerate") (hm : X.mg "enumerate" = none) (ha : PA X [e] ta) (hs : starEach [e] X.env = [(false, eval e X.env)]) :
    PI X (.Tuple elts kk tp) (.Call (.Name "enumerate" p) [e] [] pos) (iEn X.K ta) := by
  constructor
  intro pins s σ H R I h
  refine Call_ (ld_blt I hg hm boot_enumerate (PyProof.Rows.callWith_type1 (thn (ha.run pos pins s σ H _ I h) ?_) hs rfl))
  rintro us s1 ⟨vs, H1, I1, r1, k, a, xs, rfl, hq, q⟩
  cases r1 with
  | cons r rr =>
    cases rr
    cases r
    obtain ⟨its, rv, p1, hz⟩ := readSq I1 hq
    refine call_en1 (beg (k := k) (items := its.toArray)) p1 fun h1 he ho hk => wpAny_pyIter_enum he ?_
    have I2 : Inv X pins σ H1 { s1 with heap := h1 } := I1.kept (t' := s1.toks) hk
    refine ⟨s1.heap.objs.size + 1, [s1.heap.objs.size + 1, s1.heap.objs.size], _, _, H1, rfl, I2, turn_en (k := k) a (s1.heap.objs.size + 1) s1.heap.objs.size, ⟨⟨.none, he⟩, .new ho rfl, Nat.succ_ne_self _⟩, fun b hb => ?_, q⟩
    have le : s1.heap.objs.size ≤ b := by
      rcases List.mem_cons.mp hb with z | z
      · rw [z]; exact Nat.le_succ _
      · rw [List.mem_singleton.mp z]; exact Nat.le_refl _
    exact I1.fpOk le (I1.hok.fresh le)
theorem walk_en {K : PySem.W.Frag} {k : Bool} {a : Addr} {n : Nat} : Walk (ItEn K k a) n (fun H => ∃ xs, Sq K k H a xs ∧ xs.length = n) (fun i H v H' => ∃ T x, v = .ref T ∧ H T = none ∧ H' = upd H T (.tup [.int (i : Nat), x]) ∧ ∀ xs, Sq K k H a xs → xs[i]? = some x) :=
  ⟨fun _ _ hi ⟨xs, q, e⟩ => ⟨xs, q, by omega⟩, fun _ ⟨xs, q, e⟩ => ⟨xs, q, by omega⟩, fun _ _ _ _ _ _ y => y⟩
end Ro
end
section
set_option Elab.async false
set_option linter.all false
set_option autoImplicit false
set_option maxHeartbeats 4000000
namespace Ro
open PySem PySem.Spec PyProof.Rows L2

/-! ## zip -/
theorem vals_c {x : V} {xs : List V} {us : List Value} (r : Vals (x :: xs) us) : ∃ u us', us = u :: us' ∧ RelV x u ∧ Vals xs us' := by
  cases r with
  | cons a b => exact ⟨_, _, rfl, a, b⟩
theorem ltS {k : Bool} {h : Heap} {a : Addr} {items : Array Value} (q : AtS k h a items) : a < h.objs.size := by
  obtain ⟨o, e, _⟩ := q.obj
  exact Heap.lt_size e

def ItZp2 (K : PySem.W.Frag) (k1 k2 : Bool) (a1 a2 : Addr) : L2.It :=
  ⟨fun i H => ∃ x1 x2, (Sq K k1 H a1 x1 ∧ Sq K k2 H a2 x2) ∧ i < x1.length ∧ i < x2.length, fun i H v H' => ∃ T v1 v2, v = .ref T ∧ H T = none ∧ H' = upd H T (.tup [v1, v2]) ∧ (∀ xs, Sq K k1 H a1 xs → xs[i]? = some v1) ∧ (∀ xs, Sq K k2 H a2 xs → xs[i]? = some v2), fun i H => ∃ x1 x2, (Sq K k1 H a1 x1 ∧ Sq K k2 H a2 x2) ∧ (i ≤ x1.length ∧ i ≤ x2.length) ∧ (i = x1.length ∨ i = x2.length)⟩
theorem turn_zp2O {k1 k2 : Bool} {a1 a2 i1 i2 z TI TO : Addr} {h : Heap} {i : Nat} (st : IsZip h z TI TO .none ∧ IsTupOf2 h TI (.ref i1) (.ref i2) ∧ (∃ u1 u2, IsTupOf2 h TO u1 u2) ∧ AtI k1 h i1 a1 i ∧ AtI k2 h i2 a2 i) : ∀ b ∈ [z, TI, TO, i1, i2], ∃ o, h.get? b = some o ∧ True := by
  obtain ⟨hz, hI, ⟨u1, u2, hO⟩, p1, p2⟩ := st
  intro b hb
  simp only [List.mem_cons, List.not_mem_nil, or_false] at hb
  rcases hb with rfl | rfl | rfl | rfl | rfl
  · exact ⟨_, hz, trivial⟩
  · exact ⟨_, hI, trivial⟩
  · exact ⟨_, hO, trivial⟩
  · obtain ⟨o, eo, _⟩ := p1.obj
    exact ⟨o, eo, trivial⟩
  · obtain ⟨o, eo, _⟩ := p2.obj
    exact ⟨o, eo, trivial⟩
theorem turn_zp2 {P : Program} {w : World} {K : PySem.W.Frag} {elts : List Expr} {kk : Nat} {tp : Pos} {k1 k2 : Bool} (a1 a2 i1 i2 z TI TO : Addr) :
    Turn P w K (.Tuple elts kk tp) (ItZp2 K k1 k2 a1 a2) [z, TI, TO, i1, i2] z (fun i h => IsZip h z TI TO .none ∧ IsTupOf2 h TI (.ref i1) (.ref i2) ∧ (∃ u1 u2, IsTupOf2 h TO u1 u2) ∧ (AtI k1 h i1 a1 i ∧ AtI k2 h i2 a2 i) ∧ (i1 ≠ i2 ∧ i2 ≠ i1) ∧ (z ≠ TI ∧ z ≠ TO ∧ TO ≠ TI) ∧ TI ≠ i1 ∧ TO ≠ i1 ∧ z ≠ i1 ∧ a1 ≠ TO ∧ TI ≠ i2 ∧ TO ≠ i2 ∧ z ≠ i2 ∧ a2 ≠ TO) where
  mem := List.mem_cons_self ..
  obj := fun i h st b hb => by
    obtain ⟨hz, hI, ⟨u1, u2, hO⟩, ⟨p1, p2⟩, _⟩ := st
    simp only [List.mem_cons, List.not_mem_nil, or_false] at hb
    rcases hb with rfl | rfl | rfl | rfl | rfl
    · exact ⟨_, hz, fun v q => by cases q⟩
    · exact ⟨_, hI, fun v q => by cases q⟩
    · exact ⟨_, hO, fun v q => by cases q⟩
    · obtain ⟨o, eo, vs, d⟩ := p1.obj
      exact ⟨o, eo, fun v q => by rw [d] at q; cases q⟩
    · obtain ⟨o, eo, vs, d⟩ := p2.obj
      exact ⟨o, eo, fun v q => by rw [d] at q; cases q⟩
  keep := fun i h h' st u => by
    obtain ⟨hz, hI, ⟨u1, u2, hO⟩, ⟨p1, p2⟩, ne⟩ := st
    exact ⟨u z (by simp) _ hz, u TI (by simp) _ hI, ⟨u1, u2, u TO (by simp) _ hO⟩, ⟨p1.via (fun o e => u i1 (by simp) o e), p2.via (fun o e => u i2 (by simp) o e)⟩, ne⟩
  item := by
    intro X hP hw hK hc i pins s σ H E I hf st hg
    subst hP hw hK
    obtain ⟨hz, hI, ⟨t1, t2, hO⟩, ⟨p1, p2⟩, ⟨n1_2, n2_1⟩, ⟨zI, zO, OI⟩, b1, c1, d1, l1, b2, c2, d2, l2⟩ := st
    obtain ⟨x1, x2, ⟨sa1, sa2⟩, e1, e2⟩ := hg
    obtain ⟨s1, r1, q1, y1⟩ := readSq I sa1
    have g1 : x1.length = s1.toArray.size := by simp only [List.size_toArray]; exact r1.length
    obtain ⟨s2, r2, q2, y2⟩ := readSq I sa2
    have g2 : x2.length = s2.toArray.size := by simp only [List.size_toArray]; exact r2.length
    have S : ZipSep2 z TI TO i1 i2 [i1, a1] [i2, a2] := { TIz := Ne.symm zI, TOz := Ne.symm zO, TITO := Ne.symm OI, TIi1 := b1, mem1 := List.mem_cons_self .., zf1 := by simp [d1, Ne.symm (q1.ne hz rfl)], Tf1 := by simp [c1, Ne.symm l1], TIi2 := b2, mem2 := List.mem_cons_self .., zf2 := by simp [d2, Ne.symm (q2.ne hz rfl)], Tf2 := by simp [c2, Ne.symm l2], sep1_2 := by simp [n1_2, Ne.symm (q2.neI p1)], sep2_1 := by simp [n2_1, Ne.symm (q1.neI p2)] }
    have zl : z < s.heap.objs.size := Heap.lt_size hz
    refine wpAny_pyNext_zipD2_item S (drw (k := k1) (show X.A.in1.handled = none from I.ok.hd hc) (q1.neI p1) s1.toArray) (drw (k := k2) (show X.A.in1.handled = none from I.ok.hd hc) (q2.neI p2) s2.toArray) hz hI hO ⟨p1, q1⟩ ⟨p2, q2⟩ (g1 ▸ e1) (g2 ▸ e2) ?_
    intro u1 u2 h1 tk m1 m2 hz1 hO1 w1 w2 hT hsz hk
    obtain ⟨v1, j1, f1⟩ := vgetT r1 m1
    obtain ⟨v2, j2, f2⟩ := vgetT r2 m2
    refine ⟨_, rfl, wpAny_letOwnedTupleGo_zip (s := { s with heap := h1, toks := tk }) hz1 fun h2 hz2 sb => ?_⟩
    have hT2 : h2.get? s.heap.objs.size = some { cls := .type "tuple", data := .seq #[u1, u2] } := by
      rw [sb.2 _ (Nat.ne_of_gt zl)]
      exact hT
    have nw : ObjOk X.prog X.w (upd H s.heap.objs.size (.tup [v1, v2])) h2 s.heap.objs.size (.tup [v1, v2]) :=
      ⟨(by decide : 2 ≤ sizeLine), [u1, u2], (.cons f1 (.cons f2 .nil)), ⟨_, hT2, rfl, _, rfl⟩⟩
    have I1 : Inv X pins σ (upd H s.heap.objs.size (.tup [v1, v2])) { s with heap := h2, toks := tk } := by
      refine I.turnedNew (ch := [z, TI, TO, i1, i2]) (fun b ob hb q => ?_) hf (Nat.le_refl _) nw
      simp only [List.mem_cons, List.not_mem_nil, or_false, not_or] at hb
      rw [sb.2 b hb.1]
      exact hk b ob hb.1 hb.2.2.1 hb.2.2.2.1 hb.2.2.2.2 q
    refine ⟨.ref s.heap.objs.size, _, I1, rfl, ⟨_, v1, v2, rfl, I.hok.fresh (Nat.le_refl _), rfl, (fun ys hy => by rw [sq_inj I hy sa1]; exact j1), (fun ys hy => by rw [sq_inj I hy sa2]; exact j2)⟩, ⟨hz2, ?_, ⟨u1, u2, ?_⟩, ⟨w1.1.via (fun o q => (sb.2 i1 (Ne.symm d1)).trans q), w2.1.via (fun o q => (sb.2 i2 (Ne.symm d2)).trans q)⟩, ⟨n1_2, n2_1⟩, ⟨zI, zO, OI⟩, b1, c1, d1, l1, b2, c2, d2, l2⟩, fun b hb => ?_⟩
    · refine (sb.2 _ (Ne.symm zI)).trans ?_
      exact hk _ _ (Ne.symm zI) (Ne.symm OI) b1 b2 hI
    · exact (sb.2 _ (Ne.symm zO)).trans hO1
    · have hb' : b < s.heap.objs.size := by
        obtain ⟨ob, eb, _⟩ := (turn_zp2O ⟨hz, hI, ⟨t1, t2, hO⟩, p1, p2⟩ b hb)
        exact Heap.lt_size eb
      rw [upd_ne (Nat.ne_of_lt hb')]
      exact (hf b hb).1
  done := by
    intro X hP hw hK hc i pins s σ H E I hf st hg
    subst hP hw hK
    obtain ⟨hz, hI, ⟨t1, t2, hO⟩, ⟨p1, p2⟩, ⟨n1_2, n2_1⟩, ⟨zI, zO, OI⟩, b1, c1, d1, l1, b2, c2, d2, l2⟩ := st
    obtain ⟨x1, x2, ⟨sa1, sa2⟩, ⟨e1, e2⟩, he⟩ := hg
    obtain ⟨s1, r1, q1, y1⟩ := readSq I sa1
    have g1 : x1.length = s1.toArray.size := by simp only [List.size_toArray]; exact r1.length
    obtain ⟨s2, r2, q2, y2⟩ := readSq I sa2
    have g2 : x2.length = s2.toArray.size := by simp only [List.size_toArray]; exact r2.length
    have S : ZipSep2 z TI TO i1 i2 [i1, a1] [i2, a2] := { TIz := Ne.symm zI, TOz := Ne.symm zO, TITO := Ne.symm OI, TIi1 := b1, mem1 := List.mem_cons_self .., zf1 := by simp [d1, Ne.symm (q1.ne hz rfl)], Tf1 := by simp [c1, Ne.symm l1], TIi2 := b2, mem2 := List.mem_cons_self .., zf2 := by simp [d2, Ne.symm (q2.ne hz rfl)], Tf2 := by simp [c2, Ne.symm l2], sep1_2 := by simp [n1_2, Ne.symm (q2.neI p1)], sep2_1 := by simp [n2_1, Ne.symm (q1.neI p2)] }
    refine wpAny_pyNext_zipD2_end S (drw (k := k1) (show X.A.in1.handled = none from I.ok.hd hc) (q1.neI p1) s1.toArray) (drw (k := k2) (show X.A.in1.handled = none from I.ok.hd hc) (q2.neI p2) s2.toArray) hz hI hO ⟨p1, q1⟩ ⟨p2, q2⟩ (g1 ▸ e1) (g2 ▸ e2) (g1 ▸ g2 ▸ he) fun h1 tk hk => ?_
    refine ⟨rfl, I.turnedL (t' := tk) (ch := [z, TI, TO, i1, i2]) (fun b o hb q => ?_) hf⟩
    simp only [List.mem_cons, List.not_mem_nil, or_false, not_or] at hb
    exact hk b o hb.1 hb.2.2.1 hb.2.2.2.1 hb.2.2.2.2 q
  self := fun A i s Q E st q => wpAny_pyIter_zip st.1 q
def iZp2 (K : PySem.W.Frag) (ta : TA) : TI := fun σ H R => ta σ H fun vs H1 => ∃ k1 k2 a1 a2 x1 x2, vs = [.ref a1, .ref a2] ∧ Sq K k1 H1 a1 x1 ∧ Sq K k2 H1 a2 x2 ∧ R (ItZp2 K k1 k2 a1 a2) H1
theorem pi_zp2 {X : Cx} {e1 e2 : Expr} {ta : TA} {p pos tp : Pos} {elts : List Expr} {kk : Nat} (hg : Gl X "zip") (hm : X.mg "zip" = none) (ha : PA X [e1, e2] ta)
    (hs : starEach [e1, e2] X.env = (false, eval e1 X.env) :: starEach [e2] X.env) (hpl : (backTo pos (starEach [e2] X.env)).any (·.1) = false) :
    PI X (.Tuple elts kk tp) (.Call (.Name "zip" p) [e1, e2] [] pos) (iZp2 X.K ta) := by
  constructor
  intro pins s σ H R I h
  refine Call_ (ld_blt I hg hm PyProof.Rows.boot_zip (PyProof.Rows.callWith_type1 (thn (ha.run pos pins s σ H _ I h) ?_) hs hpl))
  rintro us sh ⟨vs, H1, I1, r, k1, k2, a1, a2, x1, x2, rfl, h1, h2, q⟩
  obtain ⟨c1, us1, rfl, rc1, rr1⟩ := vals_c r
  cases rc1
  obtain ⟨c2, us2, rfl, rc2, rr2⟩ := vals_c rr1
  cases rc2
  cases rr2
  obtain ⟨s1, r1, q1, y1⟩ := readSq I1 h1
  obtain ⟨s2, r2, q2, y2⟩ := readSq I1 h2
  refine zip_begins2 (beg (k := k1) (items := s1.toArray)) (beg (k := k2) (items := s2.toArray)) q1 q2 fun h1 hz hI hO m1 m2 hsz hk => wpAny_pyIter_zip hz ?_
  have I2 : Inv X pins σ H1 { sh with heap := h1 } := I1.kept (t' := sh.toks) hk
  have big : ∀ b ∈ [sh.heap.objs.size + 4, sh.heap.objs.size + 2, sh.heap.objs.size + 3, sh.heap.objs.size, sh.heap.objs.size + 1], FpOk X pins H1 b := fun b hb => by
    have le : sh.heap.objs.size ≤ b := by
      simp only [List.mem_cons, List.not_mem_nil, or_false] at hb
      rcases hb with rfl | rfl | rfl | rfl | rfl <;> first | exact Nat.le_refl _ | exact Nat.le_add_right _ _
    exact I1.fpOk le (I1.hok.fresh le)
  have nb : ∀ a b : Nat, a ≠ b → sh.heap.objs.size + a ≠ sh.heap.objs.size + b := fun a b h e => h (Nat.add_left_cancel e)
  refine ⟨sh.heap.objs.size + 4, [sh.heap.objs.size + 4, sh.heap.objs.size + 2, sh.heap.objs.size + 3, sh.heap.objs.size, sh.heap.objs.size + 1], _, _, H1, rfl, I2,
    turn_zp2 (k1 := k1) (k2 := k2) a1 a2 sh.heap.objs.size (sh.heap.objs.size + 1) (sh.heap.objs.size + 4) (sh.heap.objs.size + 2) (sh.heap.objs.size + 3), ⟨hz, hI, ⟨_, _, hO⟩, ⟨.new m1 rfl, .new m2 rfl⟩, ⟨nb 0 1 (by decide), nb 1 0 (by decide)⟩, ⟨nb 4 2 (by decide), nb 4 3 (by decide), nb 3 2 (by decide)⟩, nb 2 0 (by decide), nb 3 0 (by decide), nb 4 0 (by decide), Nat.ne_of_lt (Nat.lt_of_lt_of_le (ltS q1) (Nat.le_add_right _ _)), nb 2 1 (by decide), nb 3 1 (by decide), nb 4 1 (by decide), Nat.ne_of_lt (Nat.lt_of_lt_of_le (ltS q2) (Nat.le_add_right _ _))⟩, big, q⟩
theorem walk_zp2 {K : PySem.W.Frag} {k1 k2 : Bool} {a1 a2 : Addr} {n1 n2 : Nat} : Walk (ItZp2 K k1 k2 a1 a2) (min n1 n2) (fun H => (∃ xs, Sq K k1 H a1 xs ∧ xs.length = n1) ∧ (∃ xs, Sq K k2 H a2 xs ∧ xs.length = n2)) (fun i H v H' => ∃ T v1 v2, v = .ref T ∧ H T = none ∧ H' = upd H T (.tup [v1, v2]) ∧ (∀ xs, Sq K k1 H a1 xs → xs[i]? = some v1) ∧ (∀ xs, Sq K k2 H a2 xs → xs[i]? = some v2)) :=
  ⟨fun _ _ hi ⟨⟨x1, q1, e1⟩, ⟨x2, q2, e2⟩⟩ => ⟨x1, x2, ⟨q1, q2⟩, by omega, by omega⟩, fun _ ⟨⟨x1, q1, e1⟩, ⟨x2, q2, e2⟩⟩ => ⟨x1, x2, ⟨q1, q2⟩, ⟨by omega, by omega⟩, by omega⟩, fun _ _ _ _ _ _ y => y⟩
def ItZp3 (K : PySem.W.Frag) (k1 k2 k3 : Bool) (a1 a2 a3 : Addr) : L2.It :=
  ⟨fun i H => ∃ x1 x2 x3, (Sq K k1 H a1 x1 ∧ Sq K k2 H a2 x2 ∧ Sq K k3 H a3 x3) ∧ i < x1.length ∧ i < x2.length ∧ i < x3.length, fun i H v H' => ∃ T v1 v2 v3, v = .ref T ∧ H T = none ∧ H' = upd H T (.tup [v1, v2, v3]) ∧ (∀ xs, Sq K k1 H a1 xs → xs[i]? = some v1) ∧ (∀ xs, Sq K k2 H a2 xs → xs[i]? = some v2) ∧ (∀ xs, Sq K k3 H a3 xs → xs[i]? = some v3), fun i H => ∃ x1 x2 x3, (Sq K k1 H a1 x1 ∧ Sq K k2 H a2 x2 ∧ Sq K k3 H a3 x3) ∧ (i ≤ x1.length ∧ i ≤ x2.length ∧ i ≤ x3.length) ∧ (i = x1.length ∨ i = x2.length ∨ i = x3.length)⟩
theorem turn_zp3O {k1 k2 k3 : Bool} {a1 a2 a3 i1 i2 i3 z TI TO : Addr} {h : Heap} {i : Nat} (st : IsZip h z TI TO .none ∧ IsTupOf3 h TI (.ref i1) (.ref i2) (.ref i3) ∧ (∃ u1 u2 u3, IsTupOf3 h TO u1 u2 u3) ∧ AtI k1 h i1 a1 i ∧ AtI k2 h i2 a2 i ∧ AtI k3 h i3 a3 i) : ∀ b ∈ [z, TI, TO, i1, i2, i3], ∃ o, h.get? b = some o ∧ True := by
  obtain ⟨hz, hI, ⟨u1, u2, u3, hO⟩, p1, p2, p3⟩ := st
  intro b hb
  simp only [List.mem_cons, List.not_mem_nil, or_false] at hb
  rcases hb with rfl | rfl | rfl | rfl | rfl | rfl
  · exact ⟨_, hz, trivial⟩
  · exact ⟨_, hI, trivial⟩
  · exact ⟨_, hO, trivial⟩
  · obtain ⟨o, eo, _⟩ := p1.obj
    exact ⟨o, eo, trivial⟩
  · obtain ⟨o, eo, _⟩ := p2.obj
    exact ⟨o, eo, trivial⟩
  · obtain ⟨o, eo, _⟩ := p3.obj
    exact ⟨o, eo, trivial⟩
theorem turn_zp3 {P : Program} {w : World} {K : PySem.W.Frag} {elts : List Expr} {kk : Nat} {tp : Pos} {k1 k2 k3 : Bool} (a1 a2 a3 i1 i2 i3 z TI TO : Addr) :
    Turn P w K (.Tuple elts kk tp) (ItZp3 K k1 k2 k3 a1 a2 a3) [z, TI, TO, i1, i2, i3] z (fun i h => IsZip h z TI TO .none ∧ IsTupOf3 h TI (.ref i1) (.ref i2) (.ref i3) ∧ (∃ u1 u2 u3, IsTupOf3 h TO u1 u2 u3) ∧ (AtI k1 h i1 a1 i ∧ AtI k2 h i2 a2 i ∧ AtI k3 h i3 a3 i) ∧ (i1 ≠ i2 ∧ i1 ≠ i3 ∧ i2 ≠ i1 ∧ i2 ≠ i3 ∧ i3 ≠ i1 ∧ i3 ≠ i2) ∧ (z ≠ TI ∧ z ≠ TO ∧ TO ≠ TI) ∧ TI ≠ i1 ∧ TO ≠ i1 ∧ z ≠ i1 ∧ a1 ≠ TO ∧ TI ≠ i2 ∧ TO ≠ i2 ∧ z ≠ i2 ∧ a2 ≠ TO ∧ TI ≠ i3 ∧ TO ≠ i3 ∧ z ≠ i3 ∧ a3 ≠ TO) where
  mem := List.mem_cons_self ..
  obj := fun i h st b hb => by
    obtain ⟨hz, hI, ⟨u1, u2, u3, hO⟩, ⟨p1, p2, p3⟩, _⟩ := st
    simp only [List.mem_cons, List.not_mem_nil, or_false] at hb
    rcases hb with rfl | rfl | rfl | rfl | rfl | rfl
    · exact ⟨_, hz, fun v q => by cases q⟩
    · exact ⟨_, hI, fun v q => by cases q⟩
    · exact ⟨_, hO, fun v q => by cases q⟩
    · obtain ⟨o, eo, vs, d⟩ := p1.obj
      exact ⟨o, eo, fun v q => by rw [d] at q; cases q⟩
    · obtain ⟨o, eo, vs, d⟩ := p2.obj
      exact ⟨o, eo, fun v q => by rw [d] at q; cases q⟩
    · obtain ⟨o, eo, vs, d⟩ := p3.obj
      exact ⟨o, eo, fun v q => by rw [d] at q; cases q⟩
  keep := fun i h h' st u => by
    obtain ⟨hz, hI, ⟨u1, u2, u3, hO⟩, ⟨p1, p2, p3⟩, ne⟩ := st
    exact ⟨u z (by simp) _ hz, u TI (by simp) _ hI, ⟨u1, u2, u3, u TO (by simp) _ hO⟩, ⟨p1.via (fun o e => u i1 (by simp) o e), p2.via (fun o e => u i2 (by simp) o e), p3.via (fun o e => u i3 (by simp) o e)⟩, ne⟩
  item := by
    intro X hP hw hK hc i pins s σ H E I hf st hg
    subst hP hw hK
    obtain ⟨hz, hI, ⟨t1, t2, t3, hO⟩, ⟨p1, p2, p3⟩, ⟨n1_2, n1_3, n2_1, n2_3, n3_1, n3_2⟩, ⟨zI, zO, OI⟩, b1, c1, d1, l1, b2, c2, d2, l2, b3, c3, d3, l3⟩ := st
    obtain ⟨x1, x2, x3, ⟨sa1, sa2, sa3⟩, e1, e2, e3⟩ := hg
    obtain ⟨s1, r1, q1, y1⟩ := readSq I sa1
    have g1 : x1.length = s1.toArray.size := by simp only [List.size_toArray]; exact r1.length
    obtain ⟨s2, r2, q2, y2⟩ := readSq I sa2
    have g2 : x2.length = s2.toArray.size := by simp only [List.size_toArray]; exact r2.length
    obtain ⟨s3, r3, q3, y3⟩ := readSq I sa3
    have g3 : x3.length = s3.toArray.size := by simp only [List.size_toArray]; exact r3.length
    have S : ZipSep3 z TI TO i1 i2 i3 [i1, a1] [i2, a2] [i3, a3] := { TIz := Ne.symm zI, TOz := Ne.symm zO, TITO := Ne.symm OI, TIi1 := b1, mem1 := List.mem_cons_self .., zf1 := by simp [d1, Ne.symm (q1.ne hz rfl)], Tf1 := by simp [c1, Ne.symm l1], TIi2 := b2, mem2 := List.mem_cons_self .., zf2 := by simp [d2, Ne.symm (q2.ne hz rfl)], Tf2 := by simp [c2, Ne.symm l2], TIi3 := b3, mem3 := List.mem_cons_self .., zf3 := by simp [d3, Ne.symm (q3.ne hz rfl)], Tf3 := by simp [c3, Ne.symm l3], sep1_2 := by simp [n1_2, Ne.symm (q2.neI p1)], sep1_3 := by simp [n1_3, Ne.symm (q3.neI p1)], sep2_1 := by simp [n2_1, Ne.symm (q1.neI p2)], sep2_3 := by simp [n2_3, Ne.symm (q3.neI p2)], sep3_1 := by simp [n3_1, Ne.symm (q1.neI p3)], sep3_2 := by simp [n3_2, Ne.symm (q2.neI p3)] }
    have zl : z < s.heap.objs.size := Heap.lt_size hz
    refine wpAny_pyNext_zipD3_item S (drw (k := k1) (show X.A.in1.handled = none from I.ok.hd hc) (q1.neI p1) s1.toArray) (drw (k := k2) (show X.A.in1.handled = none from I.ok.hd hc) (q2.neI p2) s2.toArray) (drw (k := k3) (show X.A.in1.handled = none from I.ok.hd hc) (q3.neI p3) s3.toArray) hz hI hO ⟨p1, q1⟩ ⟨p2, q2⟩ ⟨p3, q3⟩ (g1 ▸ e1) (g2 ▸ e2) (g3 ▸ e3) ?_
    intro u1 u2 u3 h1 tk m1 m2 m3 hz1 hO1 w1 w2 w3 hT hsz hk
    obtain ⟨v1, j1, f1⟩ := vgetT r1 m1
    obtain ⟨v2, j2, f2⟩ := vgetT r2 m2
    obtain ⟨v3, j3, f3⟩ := vgetT r3 m3
    refine ⟨_, rfl, wpAny_letOwnedTupleGo_zip (s := { s with heap := h1, toks := tk }) hz1 fun h2 hz2 sb => ?_⟩
    have hT2 : h2.get? s.heap.objs.size = some { cls := .type "tuple", data := .seq #[u1, u2, u3] } := by
      rw [sb.2 _ (Nat.ne_of_gt zl)]
      exact hT
    have nw : ObjOk X.prog X.w (upd H s.heap.objs.size (.tup [v1, v2, v3])) h2 s.heap.objs.size (.tup [v1, v2, v3]) :=
      ⟨(by decide : 3 ≤ sizeLine), [u1, u2, u3], (.cons f1 (.cons f2 (.cons f3 .nil))), ⟨_, hT2, rfl, _, rfl⟩⟩
    have I1 : Inv X pins σ (upd H s.heap.objs.size (.tup [v1, v2, v3])) { s with heap := h2, toks := tk } := by
      refine I.turnedNew (ch := [z, TI, TO, i1, i2, i3]) (fun b ob hb q => ?_) hf (Nat.le_refl _) nw
      simp only [List.mem_cons, List.not_mem_nil, or_false, not_or] at hb
      rw [sb.2 b hb.1]
      exact hk b ob hb.1 hb.2.2.1 hb.2.2.2.1 hb.2.2.2.2.1 hb.2.2.2.2.2 q
    refine ⟨.ref s.heap.objs.size, _, I1, rfl, ⟨_, v1, v2, v3, rfl, I.hok.fresh (Nat.le_refl _), rfl, (fun ys hy => by rw [sq_inj I hy sa1]; exact j1), (fun ys hy => by rw [sq_inj I hy sa2]; exact j2), (fun ys hy => by rw [sq_inj I hy sa3]; exact j3)⟩, ⟨hz2, ?_, ⟨u1, u2, u3, ?_⟩, ⟨w1.1.via (fun o q => (sb.2 i1 (Ne.symm d1)).trans q), w2.1.via (fun o q => (sb.2 i2 (Ne.symm d2)).trans q), w3.1.via (fun o q => (sb.2 i3 (Ne.symm d3)).trans q)⟩, ⟨n1_2, n1_3, n2_1, n2_3, n3_1, n3_2⟩, ⟨zI, zO, OI⟩, b1, c1, d1, l1, b2, c2, d2, l2, b3, c3, d3, l3⟩, fun b hb => ?_⟩
    · refine (sb.2 _ (Ne.symm zI)).trans ?_
      exact hk _ _ (Ne.symm zI) (Ne.symm OI) b1 b2 b3 hI
    · exact (sb.2 _ (Ne.symm zO)).trans hO1
    · have hb' : b < s.heap.objs.size := by
        obtain ⟨ob, eb, _⟩ := (turn_zp3O ⟨hz, hI, ⟨t1, t2, t3, hO⟩, p1, p2, p3⟩ b hb)
        exact Heap.lt_size eb
      rw [upd_ne (Nat.ne_of_lt hb')]
      exact (hf b hb).1
  done := by
    intro X hP hw hK hc i pins s σ H E I hf st hg
    subst hP hw hK
    obtain ⟨hz, hI, ⟨t1, t2, t3, hO⟩, ⟨p1, p2, p3⟩, ⟨n1_2, n1_3, n2_1, n2_3, n3_1, n3_2⟩, ⟨zI, zO, OI⟩, b1, c1, d1, l1, b2, c2, d2, l2, b3, c3, d3, l3⟩ := st
    obtain ⟨x1, x2, x3, ⟨sa1, sa2, sa3⟩, ⟨e1, e2, e3⟩, he⟩ := hg
    obtain ⟨s1, r1, q1, y1⟩ := readSq I sa1
    have g1 : x1.length = s1.toArray.size := by simp only [List.size_toArray]; exact r1.length
    obtain ⟨s2, r2, q2, y2⟩ := readSq I sa2
    have g2 : x2.length = s2.toArray.size := by simp only [List.size_toArray]; exact r2.length
    obtain ⟨s3, r3, q3, y3⟩ := readSq I sa3
    have g3 : x3.length = s3.toArray.size := by simp only [List.size_toArray]; exact r3.length
    have S : ZipSep3 z TI TO i1 i2 i3 [i1, a1] [i2, a2] [i3, a3] := { TIz := Ne.symm zI, TOz := Ne.symm zO, TITO := Ne.symm OI, TIi1 := b1, mem1 := List.mem_cons_self .., zf1 := by simp [d1, Ne.symm (q1.ne hz rfl)], Tf1 := by simp [c1, Ne.symm l1], TIi2 := b2, mem2 := List.mem_cons_self .., zf2 := by simp [d2, Ne.symm (q2.ne hz rfl)], Tf2 := by simp [c2, Ne.symm l2], TIi3 := b3, mem3 := List.mem_cons_self .., zf3 := by simp [d3, Ne.symm (q3.ne hz rfl)], Tf3 := by simp [c3, Ne.symm l3], sep1_2 := by simp [n1_2, Ne.symm (q2.neI p1)], sep1_3 := by simp [n1_3, Ne.symm (q3.neI p1)], sep2_1 := by simp [n2_1, Ne.symm (q1.neI p2)], sep2_3 := by simp [n2_3, Ne.symm (q3.neI p2)], sep3_1 := by simp [n3_1, Ne.symm (q1.neI p3)], sep3_2 := by simp [n3_2, Ne.symm (q2.neI p3)] }
    refine wpAny_pyNext_zipD3_end S (drw (k := k1) (show X.A.in1.handled = none from I.ok.hd hc) (q1.neI p1) s1.toArray) (drw (k := k2) (show X.A.in1.handled = none from I.ok.hd hc) (q2.neI p2) s2.toArray) (drw (k := k3) (show X.A.in1.handled = none from I.ok.hd hc) (q3.neI p3) s3.toArray) hz hI hO ⟨p1, q1⟩ ⟨p2, q2⟩ ⟨p3, q3⟩ (g1 ▸ e1) (g2 ▸ e2) (g3 ▸ e3) (g1 ▸ g2 ▸ g3 ▸ he) fun h1 tk hk => ?_
    refine ⟨rfl, I.turnedL (t' := tk) (ch := [z, TI, TO, i1, i2, i3]) (fun b o hb q => ?_) hf⟩
    simp only [List.mem_cons, List.not_mem_nil, or_false, not_or] at hb
    exact hk b o hb.1 hb.2.2.1 hb.2.2.2.1 hb.2.2.2.2.1 hb.2.2.2.2.2 q
  self := fun A i s Q E st q => wpAny_pyIter_zip st.1 q
def iZp3 (K : PySem.W.Frag) (ta : TA) : TI := fun σ H R => ta σ H fun vs H1 => ∃ k1 k2 k3 a1 a2 a3 x1 x2 x3, vs = [.ref a1, .ref a2, .ref a3] ∧ Sq K k1 H1 a1 x1 ∧ Sq K k2 H1 a2 x2 ∧ Sq K k3 H1 a3 x3 ∧ R (ItZp3 K k1 k2 k3 a1 a2 a3) H1
theorem pi_zp3 {X : Cx} {e1 e2 e3 : Expr} {ta : TA} {p pos tp : Pos} {elts : List Expr} {kk : Nat} (hg : Gl X "zip") (hm : X.mg "zip" = none) (ha : PA X [e1, e2, e3] ta)
    (hs : starEach [e1, e2, e3] X.env = (false, eval e1 X.env) :: starEach [e2, e3] X.env) (hpl : (backTo pos (starEach [e2, e3] X.env)).any (·.1) = false) :
    PI X (.Tuple elts kk tp) (.Call (.Name "zip" p) [e1, e2, e3] [] pos) (iZp3 X.K ta) := by
  constructor
  intro pins s σ H R I h
  refine Call_ (ld_blt I hg hm PyProof.Rows.boot_zip (PyProof.Rows.callWith_type1 (thn (ha.run pos pins s σ H _ I h) ?_) hs hpl))
  rintro us sh ⟨vs, H1, I1, r, k1, k2, k3, a1, a2, a3, x1, x2, x3, rfl, h1, h2, h3, q⟩
  obtain ⟨c1, us1, rfl, rc1, rr1⟩ := vals_c r
  cases rc1
  obtain ⟨c2, us2, rfl, rc2, rr2⟩ := vals_c rr1
  cases rc2
  obtain ⟨c3, us3, rfl, rc3, rr3⟩ := vals_c rr2
  cases rc3
  cases rr3
  obtain ⟨s1, r1, q1, y1⟩ := readSq I1 h1
  obtain ⟨s2, r2, q2, y2⟩ := readSq I1 h2
  obtain ⟨s3, r3, q3, y3⟩ := readSq I1 h3
  refine zip_begins3 (beg (k := k1) (items := s1.toArray)) (beg (k := k2) (items := s2.toArray)) (beg (k := k3) (items := s3.toArray)) q1 q2 q3 fun h1 hz hI hO m1 m2 m3 hsz hk => wpAny_pyIter_zip hz ?_
  have I2 : Inv X pins σ H1 { sh with heap := h1 } := I1.kept (t' := sh.toks) hk
  have big : ∀ b ∈ [sh.heap.objs.size + 5, sh.heap.objs.size + 3, sh.heap.objs.size + 4, sh.heap.objs.size, sh.heap.objs.size + 1, sh.heap.objs.size + 2], FpOk X pins H1 b := fun b hb => by
    have le : sh.heap.objs.size ≤ b := by
      simp only [List.mem_cons, List.not_mem_nil, or_false] at hb
      rcases hb with rfl | rfl | rfl | rfl | rfl | rfl <;> first | exact Nat.le_refl _ | exact Nat.le_add_right _ _
    exact I1.fpOk le (I1.hok.fresh le)
  have nb : ∀ a b : Nat, a ≠ b → sh.heap.objs.size + a ≠ sh.heap.objs.size + b := fun a b h e => h (Nat.add_left_cancel e)
  refine ⟨sh.heap.objs.size + 5, [sh.heap.objs.size + 5, sh.heap.objs.size + 3, sh.heap.objs.size + 4, sh.heap.objs.size, sh.heap.objs.size + 1, sh.heap.objs.size + 2], _, _, H1, rfl, I2,
    turn_zp3 (k1 := k1) (k2 := k2) (k3 := k3) a1 a2 a3 sh.heap.objs.size (sh.heap.objs.size + 1) (sh.heap.objs.size + 2) (sh.heap.objs.size + 5) (sh.heap.objs.size + 3) (sh.heap.objs.size + 4), ⟨hz, hI, ⟨_, _, _, hO⟩, ⟨.new m1 rfl, .new m2 rfl, .new m3 rfl⟩, ⟨nb 0 1 (by decide), nb 0 2 (by decide), nb 1 0 (by decide), nb 1 2 (by decide), nb 2 0 (by decide), nb 2 1 (by decide)⟩, ⟨nb 5 3 (by decide), nb 5 4 (by decide), nb 4 3 (by decide)⟩, nb 3 0 (by decide), nb 4 0 (by decide), nb 5 0 (by decide), Nat.ne_of_lt (Nat.lt_of_lt_of_le (ltS q1) (Nat.le_add_right _ _)), nb 3 1 (by decide), nb 4 1 (by decide), nb 5 1 (by decide), Nat.ne_of_lt (Nat.lt_of_lt_of_le (ltS q2) (Nat.le_add_right _ _)), nb 3 2 (by decide), nb 4 2 (by decide), nb 5 2 (by decide), Nat.ne_of_lt (Nat.lt_of_lt_of_le (ltS q3) (Nat.le_add_right _ _))⟩, big, q⟩
theorem walk_zp3 {K : PySem.W.Frag} {k1 k2 k3 : Bool} {a1 a2 a3 : Addr} {n1 n2 n3 : Nat} : Walk (ItZp3 K k1 k2 k3 a1 a2 a3) (min (min n1 n2) n3) (fun H => (∃ xs, Sq K k1 H a1 xs ∧ xs.length = n1) ∧ (∃ xs, Sq K k2 H a2 xs ∧ xs.length = n2) ∧ (∃ xs, Sq K k3 H a3 xs ∧ xs.length = n3)) (fun i H v H' => ∃ T v1 v2 v3, v = .ref T ∧ H T = none ∧ H' = upd H T (.tup [v1, v2, v3]) ∧ (∀ xs, Sq K k1 H a1 xs → xs[i]? = some v1) ∧ (∀ xs, Sq K k2 H a2 xs → xs[i]? = some v2) ∧ (∀ xs, Sq K k3 H a3 xs → xs[i]? = some v3)) :=
  ⟨fun _ _ hi ⟨⟨x1, q1, e1⟩, ⟨x2, q2, e2⟩, ⟨x3, q3, e3⟩⟩ => ⟨x1, x2, x3, ⟨q1, q2, q3⟩, by omega, by omega, by omega⟩, fun _ ⟨⟨x1, q1, e1⟩, ⟨x2, q2, e2⟩, ⟨x3, q3, e3⟩⟩ => ⟨x1, x2, x3, ⟨q1, q2, q3⟩, ⟨by omega, by omega, by omega⟩, by omega⟩, fun _ _ _ _ _ _ y => y⟩
end Ro
end
section
set_option Elab.async false
set_option linter.all false
set_option autoImplicit false
set_option maxHeartbeats 4000000
namespace Ro
open PySem PySem.Spec PyProof.Rows L2

/-! ## States of the walk -/
def RE (K : PySem.W.Frag) (W : Addr → Prop) (L : List Addr) (H : Hp) (ρ : Env) (σ : L2.St) : Prop :=
  ρ.length = σ.length ∧ ∀ (i : Nat) (d : D), ρ[i]? = some (some d) → ∃ v, σ[i]? = some (some v) ∧ Rp K W L H d v
structure Si (K : PySem.W.Frag) (W : Addr → Prop) (L : List Addr) (H : Hp) (st : Sto) (ρ : Env) (σ : L2.St) : Prop where
  s : Sim K W L H st
  e : RE K W L H ρ σ
section
variable {K : PySem.W.Frag} {W W' W2 : Addr → Prop} {L L' L2' : List Addr} {H H' H2 : Hp} {st st' : Sto} {ρ : Env} {σ : L2.St}
theorem RE.mono (S : Sim K W L H st) (E : Ext W L H W' L' H') (r : RE K W L H ρ σ) : RE K W' L' H' ρ σ :=
  ⟨r.1, fun i d h => by
    obtain ⟨v, e, q⟩ := r.2 i d h
    exact ⟨v, e, q.mono S E⟩⟩
theorem Si.mono (S : Si K W L H st ρ σ) (S' : Sim K W' L' H' st') (E : Ext W L H W' L' H') : Si K W' L' H' st' ρ σ := ⟨S', S.e.mono S.s E⟩
theorem RE.set (r : RE K W L H ρ σ) {i : Nat} {d : D} {v : V} (q : Rp K W L H d v) : RE K W L H (ρ.set i (some d)) (σ.set i (some v)) := by
  refine ⟨by rw [List.length_set, List.length_set]; exact r.1, fun j e h => ?_⟩
  by_cases z : i = j
  · subst z
    have hl : i < ρ.length := by
      have := (List.getElem?_eq_some_iff.mp h).1
      rwa [List.length_set] at this
    rw [List.getElem?_set_self hl] at h
    cases h
    exact ⟨v, List.getElem?_set_self (by rw [← r.1]; exact hl), q⟩
  · rw [List.getElem?_set_ne z] at h ⊢
    exact r.2 j e h
theorem RE.wipe (r : RE K W L H ρ σ) : ∀ vs : List Nat, RE K W L H (wipeE ρ vs) (wipe σ vs)
  | [] => r
  | v :: vs => by
    have q := r.wipe vs
    unfold wipeE L2.wipe
    refine ⟨by rw [List.length_set, List.length_set]; exact q.1, fun j e h => ?_⟩
    by_cases z : v = j
    · subst z
      have hl : v < (wipeE ρ vs).length := by
        have := (List.getElem?_eq_some_iff.mp h).1
        rwa [List.length_set] at this
      rw [List.getElem?_set_self hl] at h
      cases h
    · rw [List.getElem?_set_ne z] at h ⊢
      exact q.2 j e h
end

/-! ## The readings -/
section
variable (K : PySem.W.Frag) (C : CallF)
def tE (c : Ex) : TE := fun σ H Q => ∃ W L st ρ d st', Si K W L H st ρ σ ∧ ev C c ρ st = some (d, st') ∧ Kt K W L H d st' Q
def tT (c : Ex) : TT := fun σ H Q => ∃ W L st ρ d st' b, Si K W L H st ρ σ ∧ ev C c ρ st = some (d, st') ∧ truth st' d = some b ∧ ∀ W' L' H', Sim K W' L' H' st' → Ext W L H W' L' H' → Q b H'
def KtL (W : Addr → Prop) (L : List Addr) (H : Hp) (ds : List D) (st' : Sto) (Q : List V → Hp → Prop) : Prop :=
  ∀ W' L' H' vs, Sim K W' L' H' st' → Ext W L H W' L' H' → Rps K W' L' H' ds vs → Q vs H'
def tA (es : Exs) : TA := fun σ H Q => ∃ W L st ρ ds st', Si K W L H st ρ σ ∧ evs C es ρ st = some (ds, st') ∧ KtL K W L H ds st' Q
def spF (f : Nat) (n : Nat) : Sp := fun vs H Q _ => vs.length = n ∧ ∃ W L st ds d st', Sim K W L H st ∧ Rps K W L H ds vs ∧ C f ds st = some (d, st') ∧ Kt K W L H d st' Q
end
section
variable {X : Cx} {e : Expr} {es : List Expr}
theorem pe_imp {t t' : TE} (p : PE X e t') (h : ∀ σ H Q, t σ H Q → t' σ H Q) : PE X e t := ⟨fun pins s σ H Q I q => p.run pins s σ H Q I (h σ H Q q)⟩
theorem pt_imp {t t' : TT} (p : PT X e t') (h : ∀ σ H Q, t σ H Q → t' σ H Q) : PT X e t := ⟨fun pins s σ H Q I q => p.run pins s σ H Q I (h σ H Q q)⟩
theorem pw_imp {t t' : TT} (p : PW X e t') (h : ∀ σ H Q, t σ H Q → t' σ H Q) : PW X e t := ⟨fun wh pins s σ H Q I q => p.run wh pins s σ H Q I (h σ H Q q)⟩
theorem pa_imp {t t' : TA} (p : PA X es t') (h : ∀ σ H Q, t σ H Q → t' σ H Q) : PA X es t := ⟨fun pos pins s σ H Q I q => p.run pos pins s σ H Q I (h σ H Q q)⟩
end
section
variable {K : PySem.W.Frag} {C : CallF} {W : Addr → Prop} {L : List Addr} {H : Hp} {st st' : Sto} {ρ : Env} {σ : L2.St} {d : D}
theorem tE.mk {c : Ex} {Q : VK} (S : Si K W L H st ρ σ) (h : ev C c ρ st = some (d, st')) (k : ∀ W' L' H' v, Si K W' L' H' st' ρ σ → Ext W L H W' L' H' → Rp K W' L' H' d v → Q v H') : tE K C c σ H Q :=
  ⟨W, L, st, ρ, d, st', S, h, fun W' L' H' v S' E r => k W' L' H' v (S.mono S' E) E r⟩
theorem tA.mk {c : Exs} {ds : List D} {Q : List V → Hp → Prop} (S : Si K W L H st ρ σ) (h : evs C c ρ st = some (ds, st')) (k : ∀ W' L' H' vs, Si K W' L' H' st' ρ σ → Ext W L H W' L' H' → Rps K W' L' H' ds vs → Q vs H') : tA K C c σ H Q :=
  ⟨W, L, st, ρ, ds, st', S, h, fun W' L' H' v S' E r => k W' L' H' v (S.mono S' E) E r⟩
theorem tT.mk {c : Ex} {b : Bool} {Q : Bool → Hp → Prop} (S : Si K W L H st ρ σ) (h : ev C c ρ st = some (d, st')) (t : truth st' d = some b) (k : ∀ W' L' H', Si K W' L' H' st' ρ σ → Ext W L H W' L' H' → Q b H') : tT K C c σ H Q :=
  ⟨W, L, st, ρ, d, st', b, S, h, t, fun W' L' H' S' E => k W' L' H' (S.mono S' E) E⟩
theorem Kt.ext {W' : Addr → Prop} {L' : List Addr} {H' : Hp} {Q : VK} (k : Kt K W L H d st' Q) (E : Ext W L H W' L' H') : Kt K W' L' H' d st' Q := fun W2 L2 H2 v S2 E2 r => k W2 L2 H2 v S2 (E.trans E2) r
end

/-! ## Leaves -/
section
variable {X : Cx} {C : CallF}
theorem se_var {i : Nat} {x : Str} {p : Pos} (hN : X.N[i]? = some x) (hv : Vis X.env.scope x) (hd : (x == ("__debug__" : Str)) = false) (hcd : (x == ("__classdict__" : Str)) = false) : PE X (.Name x p) (tE X.K C (.var i)) := by
  refine pe_imp (pe_var hN hv hd hcd) fun σ H Q h => ?_
  obtain ⟨W, L, st, ρ, d, st', S, e, k⟩ := h
  unfold ev at e
  split at e
  · rename_i d0 q
    cases e
    obtain ⟨v, hv, r⟩ := S.e.2 _ _ q
    exact ⟨v, hv, k.same S.s r⟩
  · cases e
theorem se_const {e : Expr} {v : V} {d : D} (p : PE X e (tC v)) (r : ∀ W L H, Rp X.K W L H d v) {c : Ex} (hc : ∀ ρ st, ev C c ρ st = some (d, st)) : PE X e (tE X.K C c) := by
  refine pe_imp p fun σ H Q h => ?_
  obtain ⟨W, L, st, ρ, d', st', S, e, k⟩ := h
  rw [hc] at e
  cases e
  exact k.same S.s (r W L H)
end

/-! ## Truth -/
theorem tru_of {K : PySem.W.Frag} {W : Addr → Prop} {L : List Addr} {H : Hp} {st : Sto} {d : D} {v : V} {b : Bool} (S : Sim K W L H st) (r : Rp K W L H d v) (t : truth st d = some b) : TruV K v H b := by
  cases d with
  | non => rw [rNon r]; simp only [truth, Option.some.injEq] at t; exact t.symm
  | bl c => rw [rBl r]; simp only [truth, Option.some.injEq] at t; exact t.symm
  | int i => rw [rInt r]; simp only [truth, Option.some.injEq] at t; exact t.symm
  | tup xs =>
    simp only [truth, Option.some.injEq] at t
    obtain ⟨a, ys, rfl, h1, h2, h3⟩ := rTup r
    refine .inr (.inl ⟨ys, .of h1, ?_⟩)
    rw [← t]
    have := h3.length
    cases xs <;> cases ys <;> simp_all
  | kt c xs =>
    simp only [truth, Option.some.injEq] at t
    obtain ⟨a, ys, rfl, h1, h2, h3⟩ := S.seq r (show seqOf st (.kt c xs) = some xs from rfl)
    have el := h3.length
    have eb : b = !ys.isEmpty := by
      rw [← t]
      cases xs <;> cases ys <;> simp_all
    rcases h1 with h1 | h1
    · exact .inl ⟨ys, h1, eb⟩
    · exact .inr (.inl ⟨ys, h1, eb⟩)
  | kl xs =>
    simp only [truth, Option.some.injEq] at t
    obtain ⟨a, ys, rfl, h1, h2, h3⟩ := S.seq r (show seqOf st (.kl xs) = some xs from rfl)
    have el := h3.length
    have eb : b = !ys.isEmpty := by
      rw [← t]
      cases xs <;> cases ys <;> simp_all
    rcases h1 with h1 | h1
    · exact .inl ⟨ys, h1, eb⟩
    · exact .inr (.inl ⟨ys, h1, eb⟩)
  | lst xs =>
    simp only [truth, Option.some.injEq] at t
    obtain ⟨a, ys, rfl, h1, _, h2, h3⟩ := rLst r
    refine .inl ⟨ys, .of h1, ?_⟩
    rw [← t]
    have := h3.length
    cases xs <;> cases ys <;> simp_all
  | loc n =>
    simp only [truth] at t
    split at t
    · rename_i xs q
      simp only [Option.some.injEq] at t
      obtain ⟨a, ys, rfl, _, h1, h2, h3⟩ := S.lst r q
      refine .inl ⟨ys, .of h1, ?_⟩
      rw [← t]
      have := h3.length
      cases xs <;> cases ys <;> simp_all
    · cases t
  | _ => simp [truth] at t
section
variable {X : Cx} {C : CallF} {a : Expr} {c : Ex}
/-- a test of any plain form -/
theorem st_plain (p : PE X a (tE X.K C c)) (he : ∀ whole, isTrue a X.env whole = (do let v ← whole; standAt a.pos; holding [v] (truthy v))) : PT X a (tT X.K C c) := by
  refine pt_imp (pt_truth p he) fun σ H Q h => ?_
  obtain ⟨W, L, st, ρ, d, st', b, S, e, t, k⟩ := h
  exact .mk S e fun W' L' H' v S' E r => ⟨b, tru_of S'.s r t, k W' L' H' S'.s E⟩
end
end Ro
end
section
set_option Elab.async false
set_option linter.all false
set_option autoImplicit false
set_option maxHeartbeats 4000000
namespace Ro
open PySem PySem.Spec PyProof.Rows L2

/-! ## Operators -/
section
variable {C : CallF} {ρ : Env} {st st' : Sto} {d : D}
theorem evs_nil {ds : List D} (h : evs C .nil ρ st = some (ds, st')) : ds = [] ∧ st' = st := by
  unfold evs at h
  cases h
  exact ⟨rfl, rfl⟩
theorem evs_cons {e : Ex} {es : Exs} {ds : List D} (h : evs C (.cons e es) ρ st = some (ds, st')) : ∃ x xs st1, ev C e ρ st = some (x, st1) ∧ evs C es ρ st1 = some (xs, st') ∧ ds = x :: xs := by
  unfold evs at h
  split at h
  · rename_i x st1 q
    split at h
    · rename_i xs st2 q2
      cases h
      exact ⟨x, xs, st1, q, q2, rfl⟩
    · cases h
  · cases h
theorem evs_one {e : Ex} {ds : List D} (h : evs C (.cons e .nil) ρ st = some (ds, st')) : ∃ x, ev C e ρ st = some (x, st') ∧ ds = [x] := by
  obtain ⟨x, xs, st1, q, q2, rfl⟩ := evs_cons h
  obtain ⟨rfl, rfl⟩ := evs_nil q2
  exact ⟨x, q, rfl⟩
theorem evs_two {a b : Ex} {ds : List D} (h : evs C (.cons a (.cons b .nil)) ρ st = some (ds, st')) : ∃ x y st1, ev C a ρ st = some (x, st1) ∧ ev C b ρ st1 = some (y, st') ∧ ds = [x, y] := by
  obtain ⟨x, xs, st1, q, q2, rfl⟩ := evs_cons h
  obtain ⟨y, q3, rfl⟩ := evs_one q2
  exact ⟨x, y, st1, q, q3, rfl⟩
theorem ev_op {p : Pr} {es : Exs} (h : ev C (.op p es) ρ st = some (d, st')) : ∃ ds st1, evs C es ρ st = some (ds, st1) ∧ primD p st1 ds = some (d, st') := by
  unfold ev at h
  split at h
  · rename_i ds st1 q
    exact ⟨ds, st1, q, h⟩
  · cases h
end
section
variable {X : Cx} {C : CallF} {a b : Expr} {ca cb : Ex} {p : Pr}
theorem t_op2 : ∀ σ H Q, tE X.K C (.op p (.cons ca (.cons cb .nil))) σ H Q → tOp (rP2 X.K p) (tE X.K C ca) (tE X.K C cb) σ H Q := by
  intro σ H Q h
  obtain ⟨W, L, st, ρ, d, st', S, e, k⟩ := h
  obtain ⟨ds, st1, q, pr⟩ := ev_op e
  obtain ⟨x, y, st2, q1, q2, rfl⟩ := evs_two q
  refine .mk S q1 fun W1 L1 H1 v1 S1 E1 r1 => .mk S1 q2 fun W2 L2 H2 v2 S2 E2 r2 => ?_
  exact ⟨W2, L2, st1, x, y, d, st', S2.s, r1.mono S1.s E2, r2, pr, k.ext (E1.trans E2)⟩
theorem t_op1 {r : List V → Hp → VK → Prop} (hr : r = rPn X.K p) : ∀ σ H Q, tE X.K C (.op p (.cons ca .nil)) σ H Q → tE X.K C ca σ H fun x H1 => r [x] H1 Q := by
  intro σ H Q h
  subst hr
  obtain ⟨W, L, st, ρ, d, st', S, e, k⟩ := h
  obtain ⟨ds, st1, q, pr⟩ := ev_op e
  obtain ⟨x, q1, rfl⟩ := evs_one q
  exact .mk S q1 fun W1 L1 H1 v1 S1 E1 r1 => ⟨W1, L1, st1, [x], d, st', S1.s, .cons r1 .nil, pr, k.ext E1⟩
theorem t_opn {es : Exs} : ∀ σ H Q, tE X.K C (.op p es) σ H Q → tCB (rPn X.K p) (tA X.K C es) σ H Q := by
  intro σ H Q h
  obtain ⟨W, L, st, ρ, d, st', S, e, k⟩ := h
  obtain ⟨ds, st1, q, pr⟩ := ev_op e
  exact tA.mk S q fun W1 L1 H1 v1 S1 E1 r1 => ⟨W1, L1, st1, ds, d, st', S1.s, r1, pr, k.ext E1⟩
theorem se_bin {op : Operator} {pos : Pos} (pa : PE X a (tE X.K C ca)) (pb : PE X b (tE X.K C cb)) : PE X (.BinOp a op b pos) (tE X.K C (.op (.bin op) (.cons ca (.cons cb .nil)))) :=
  pe_imp (pe_op (op_bin op) pa pb) t_op2
theorem se_cat {pos : Pos} (pa : PE X a (tE X.K C ca)) (pb : PE X b (tE X.K C cb)) : PE X (.BinOp a .Add b pos) (tE X.K C (.op .cat (.cons ca (.cons cb .nil)))) :=
  pe_imp (pe_op op_catm pa pb) t_op2
theorem se_cmp {op : CmpOp} {pos : Pos} (hu : X.A.units + 64 < cLine) (pa : PE X a (tE X.K C ca)) (pb : PE X b (tE X.K C cb)) (hm : behindInMarks op b = false) : PE X (.Compare a [op] [b] pos) (tE X.K C (.op (.cmp op) (.cons ca (.cons cb .nil)))) :=
  pe_imp (pe_cmpR (op_cmp op hu) pa pb hm) t_op2
theorem cmp_bl {op : CmpOp} {st st' : Sto} {x y d : D} (h : primD (.cmp op) st [x, y] = some (d, st')) : ∃ b, d = .bl b := by
  simp only [primD, Option.map_eq_some_iff] at h
  obtain ⟨b, _, h⟩ := h
  cases h
  exact ⟨b, rfl⟩
theorem st_cmp {op : CmpOp} {pos : Pos} (hu : X.A.units + 64 < cLine) (pa : PE X a (tE X.K C ca)) (pb : PE X b (tE X.K C cb)) (hm : behindInMarks op b = false) : PT X (.Compare a [op] [b] pos) (tT X.K C (.op (.cmp op) (.cons ca (.cons cb .nil)))) := by
  refine pt_imp (pt_cmpR (op_cmp op hu) pa pb hm) fun σ H Q h => ?_
  obtain ⟨W, L, st, ρ, d, st', b, S, e, t, k⟩ := h
  have w : tE X.K C (.op (.cmp op) (.cons ca (.cons cb .nil))) σ H fun x H' => ∃ k, x = .bl k ∧ Q k H' := by
    refine .mk S e fun W1 L1 H1 v1 S1 E1 r1 => ?_
    obtain ⟨ds, st1, q, pr⟩ := ev_op e
    obtain ⟨x, y, st2, _, _, rfl⟩ := evs_two q
    obtain ⟨c, rfl⟩ := cmp_bl pr
    simp only [truth, Option.some.injEq] at t
    subst t
    exact ⟨c, rBl r1, k W1 L1 H1 S1.s E1⟩
  exact t_op2 _ _ _ w
theorem se_neg {pos : Pos} (pa : PE X a (tE X.K C ca)) : PE X (.UnaryOp .USub a pos) (tE X.K C (.op .neg (.cons ca .nil))) := by
  refine pe_imp (pe_un un_neg pa) fun σ H Q h => ?_
  obtain ⟨W, L, st, ρ, d, st', S, e, k⟩ := h
  obtain ⟨ds, st1, q, pr⟩ := ev_op e
  obtain ⟨x, q1, rfl⟩ := evs_one q
  refine .mk S q1 fun W1 L1 H1 v1 S1 E1 r1 => ?_
  cases x with
  | int i =>
    simp only [primD, Option.some.injEq, Prod.mk.injEq] at pr
    obtain ⟨rfl, rfl⟩ := pr
    exact ⟨i, rInt r1, (k.ext E1).same S1.s mkInt⟩
  | _ => simp [primD] at pr
/-! ## Chains, and, or, not, if-else -/
theorem se_not {pos : Pos} (pa : PE X a (tE X.K C ca)) : PE X (.UnaryOp .Not a pos) (tE X.K C (.not ca)) := by
  refine pe_imp (pe_notT pa) fun σ H Q h => ?_
  obtain ⟨W, L, st, ρ, d, st', S, e, k⟩ := h
  unfold ev at e
  split at e
  · rename_i x st1 q
    simp only [Option.map_eq_some_iff] at e
    obtain ⟨b, t, e⟩ := e
    cases e
    refine .mk S q fun W1 L1 H1 v1 S1 E1 r1 => ⟨b, tru_of S1.s r1 t, ?_⟩
    exact (k.ext E1).same S1.s mkBl
  · cases e
theorem st_not {pos : Pos} (pa : PT X a (tT X.K C ca)) : PT X (.UnaryOp .Not a pos) (tT X.K C (.not ca)) := by
  refine pt_imp (pt_not pa) fun σ H Q h => ?_
  obtain ⟨W, L, st, ρ, d, st', b, S, e, t, k⟩ := h
  unfold ev at e
  split at e
  · rename_i x st1 q
    simp only [Option.map_eq_some_iff] at e
    obtain ⟨b1, t1, e⟩ := e
    cases e
    simp only [truth, Option.some.injEq] at t
    subst t
    exact .mk S q t1 fun W1 L1 H1 S1 E1 => k W1 L1 H1 S1.s E1
  · cases e
theorem se_ite {c : Expr} {cc : Ex} {pos : Pos} (pc : PT X c (tT X.K C cc)) (pa : PE X a (tE X.K C ca)) (pb : PE X b (tE X.K C cb)) : PE X (.IfExp c a b pos) (tE X.K C (.ite cc ca cb)) := by
  refine pe_imp (pe_ifExp pc pa pb) fun σ H Q h => ?_
  obtain ⟨W, L, st, ρ, d, st', S, e, k⟩ := h
  unfold ev at e
  split at e
  · rename_i x st1 q
    split at e
    · rename_i t
      refine .mk S q t fun W1 L1 H1 S1 E1 => ?_
      simp only [if_true]
      exact ⟨W1, L1, st1, ρ, d, st', S1, e, k.ext E1⟩
    · rename_i t
      refine .mk S q t fun W1 L1 H1 S1 E1 => ?_
      simp only [Bool.false_eq_true, if_false]
      exact ⟨W1, L1, st1, ρ, d, st', S1, e, k.ext E1⟩
    · cases e
  · cases e
theorem st_ite {c : Expr} {cc : Ex} {pos : Pos} (pc : PT X c (tT X.K C cc)) (pa : PT X a (tT X.K C ca)) (pb : PT X b (tT X.K C cb)) : PT X (.IfExp c a b pos) (tT X.K C (.ite cc ca cb)) := by
  refine ⟨fun pins s σ H Q I h => ?_⟩
  obtain ⟨W, L, st, ρ, d, st', b0, S, e, t0, k⟩ := h
  refine PyProof.Rows.isTrue_IfExp ?_
  unfold ev at e
  split at e
  · rename_i x st1 q
    split at e
    · rename_i t
      refine thn (pc.run pins s σ H (fun b1 H1 => b1 = true ∧ tT X.K C ca σ H1 Q) I (.mk S q t fun W1 L1 H1 S1 E1 => ⟨rfl, W1, L1, st1, ρ, d, st', b0, S1, e, t0, fun W2 L2 H2 S2 E2 => k W2 L2 H2 S2 (E1.trans E2)⟩)) ?_
      rintro b1 s1 ⟨H1, I1, rfl, q1⟩
      exact pa.run pins s1 σ H1 Q I1 q1
    · rename_i t
      refine thn (pc.run pins s σ H (fun b1 H1 => b1 = false ∧ tT X.K C cb σ H1 Q) I (.mk S q t fun W1 L1 H1 S1 E1 => ⟨rfl, W1, L1, st1, ρ, d, st', b0, S1, e, t0, fun W2 L2 H2 S2 E2 => k W2 L2 H2 S2 (E1.trans E2)⟩)) ?_
      rintro b1 s1 ⟨H1, I1, rfl, q1⟩
      exact pb.run pins s1 σ H1 Q I1 q1
    · cases e
  · cases e
section
variable {rest : List Expr} {pos : Pos}
theorem t_and : ∀ σ H Q, tE X.K C (.and ca cb) σ H Q → tAndT X.K (tE X.K C ca) (tE X.K C cb) σ H Q := by
  intro σ H Q h
  obtain ⟨W, L, st, ρ, d, st', S, e, k⟩ := h
  unfold ev at e
  split at e
  · rename_i x st1 q
    split at e
    · rename_i t
      refine .mk S q fun W1 L1 H1 v1 S1 E1 r1 => ⟨true, tru_of S1.s r1 t, ?_⟩
      simp only [if_true]
      exact ⟨W1, L1, st1, ρ, d, st', S1, e, k.ext E1⟩
    · rename_i t
      cases e
      refine .mk S q fun W1 L1 H1 v1 S1 E1 r1 => ⟨false, tru_of S1.s r1 t, ?_⟩
      simp only [Bool.false_eq_true, if_false]
      exact (k.ext E1).same S1.s r1
    · cases e
  · cases e
theorem t_or : ∀ σ H Q, tE X.K C (.or ca cb) σ H Q → tOrT X.K (tE X.K C ca) (tE X.K C cb) σ H Q := by
  intro σ H Q h
  obtain ⟨W, L, st, ρ, d, st', S, e, k⟩ := h
  unfold ev at e
  split at e
  · rename_i x st1 q
    split at e
    · rename_i t
      cases e
      refine .mk S q fun W1 L1 H1 v1 S1 E1 r1 => ⟨true, tru_of S1.s r1 t, ?_⟩
      simp only [if_true]
      exact (k.ext E1).same S1.s r1
    · rename_i t
      refine .mk S q fun W1 L1 H1 v1 S1 E1 r1 => ⟨false, tru_of S1.s r1 t, ?_⟩
      simp only [Bool.false_eq_true, if_false]
      exact ⟨W1, L1, st1, ρ, d, st', S1, e, k.ext E1⟩
    · cases e
  · cases e
theorem u_and : ∀ σ H Q, tT X.K C (.and ca cb) σ H Q → tAnd (tT X.K C ca) (tT X.K C cb) σ H Q := by
  intro σ H Q h
  obtain ⟨W, L, st, ρ, d, st', b, S, e, t0, k⟩ := h
  unfold ev at e
  split at e
  · rename_i x st1 q
    split at e
    · rename_i t
      refine .mk S q t fun W1 L1 H1 S1 E1 => ?_
      simp only [if_true]
      exact ⟨W1, L1, st1, ρ, d, st', b, S1, e, t0, fun W2 L2 H2 S2 E2 => k W2 L2 H2 S2 (E1.trans E2)⟩
    · rename_i t
      cases e
      rw [t] at t0
      cases t0
      refine .mk S q t fun W1 L1 H1 S1 E1 => ?_
      simp only [Bool.false_eq_true, if_false]
      exact k W1 L1 H1 S1.s E1
    · cases e
  · cases e
theorem u_or : ∀ σ H Q, tT X.K C (.or ca cb) σ H Q → tOr (tT X.K C ca) (tT X.K C cb) σ H Q := by
  intro σ H Q h
  obtain ⟨W, L, st, ρ, d, st', b, S, e, t0, k⟩ := h
  unfold ev at e
  split at e
  · rename_i x st1 q
    split at e
    · rename_i t
      cases e
      rw [t] at t0
      cases t0
      refine .mk S q t fun W1 L1 H1 S1 E1 => ?_
      simp only [if_true]
      exact k W1 L1 H1 S1.s E1
    · rename_i t
      refine .mk S q t fun W1 L1 H1 S1 E1 => ?_
      simp only [Bool.false_eq_true, if_false]
      exact ⟨W1, L1, st1, ρ, d, st', b, S1, e, t0, fun W2 L2 H2 S2 E2 => k W2 L2 H2 S2 (E1.trans E2)⟩
    · cases e
  · cases e
theorem se_and (pa : PE X a (tE X.K C ca)) (pb : PE X (.BoolOp .And (b :: rest) pos) (tE X.K C cb)) : PE X (.BoolOp .And (a :: b :: rest) pos) (tE X.K C (.and ca cb)) := pe_imp (pe_andT pa pb) t_and
theorem se_or (pa : PE X a (tE X.K C ca)) (pb : PE X (.BoolOp .Or (b :: rest) pos) (tE X.K C cb)) : PE X (.BoolOp .Or (a :: b :: rest) pos) (tE X.K C (.or ca cb)) := pe_imp (pe_orT pa pb) t_or
theorem sw_and (pa : PT X a (tT X.K C ca)) (pb : PW X (.BoolOp .And (b :: rest) pos) (tT X.K C cb)) : PW X (.BoolOp .And (a :: b :: rest) pos) (tT X.K C (.and ca cb)) := pw_imp (pw_and pa pb) u_and
theorem sw_or (pa : PT X a (tT X.K C ca)) (pb : PW X (.BoolOp .Or (b :: rest) pos) (tT X.K C cb)) : PW X (.BoolOp .Or (a :: b :: rest) pos) (tT X.K C (.or ca cb)) := pw_imp (pw_or pa pb) u_or
end
theorem t_chain {o1 o2 : CmpOp} {cc : Ex} : ∀ σ H Q, tE X.K C (.chain o1 o2 ca cb cc) σ H Q → tChain (rP2 X.K (.cmp o1)) (rP2 X.K (.cmp o2)) (tE X.K C ca) (tE X.K C cb) (tE X.K C cc) σ H Q := by
  intro σ H Q h
  obtain ⟨W, L, st, ρ, d, st', S, e, k⟩ := h
  unfold ev at e
  split at e
  · rename_i x st1 q1
    split at e
    · rename_i y st2 q2
      refine .mk S q1 fun W1 L1 H1 v1 S1 E1 r1 => .mk S1 q2 fun W2 L2 H2 v2 S2 E2 r2 => ?_
      split at e
      · rename_i t
        split at e
        · rename_i z st3 q3
          simp only [Option.map_eq_some_iff] at e
          obtain ⟨w, e1, e⟩ := e
          cases e
          refine ⟨W2, L2, st2, x, y, .bl true, st2, S2.s, r1.mono S1.s E2, r2, by simp only [primD, t, Option.map_some], fun W3 L3 H3 v3 S3 E3 r3 => ⟨true, rBl r3, ?_⟩⟩
          simp only [if_true]
          have S3' := S2.mono S3 E3
          refine .mk S3' q3 fun W4 L4 H4 v4 S4 E4 r4 => ?_
          exact ⟨W4, L4, st', y, z, .bl w, st', S4.s, (r2.mono S2.s E3).mono S3'.s E4, r4, by simp only [primD, e1, Option.map_some], k.ext (E1.trans (E2.trans (E3.trans E4)))⟩
        · cases e
      · rename_i t
        cases e
        refine ⟨W2, L2, st', x, y, .bl false, st', S2.s, r1.mono S1.s E2, r2, by simp only [primD, t, Option.map_some], fun W3 L3 H3 v3 S3 E3 r3 => ⟨false, rBl r3, ?_⟩⟩
        simp only [Bool.false_eq_true, if_false]
        exact (k.ext (E1.trans (E2.trans E3))).same S3 mkBl
      · cases e
    · cases e
  · cases e
theorem se_chain {o1 o2 : CmpOp} {c : Expr} {cc : Ex} {pos : Pos} (hu : X.A.units + 64 < cLine) (pa : PE X a (tE X.K C ca)) (pb : PE X b (tE X.K C cb)) (pc : PE X c (tE X.K C cc)) (hm : lastMarks [o1, o2] [b, c] = false) :
    PE X (.Compare a [o1, o2] [b, c] pos) (tE X.K C (.chain o1 o2 ca cb cc)) := pe_imp (pe_chain (op_cmp o1 hu) (op_cmp o2 hu) pa pb pc hm) t_chain
theorem chain_bl {o1 o2 : CmpOp} {cc : Ex} {ρ : Env} {st st' : Sto} {d : D} (h : ev C (.chain o1 o2 ca cb cc) ρ st = some (d, st')) : ∃ b, d = .bl b := by
  unfold ev at h
  split at h
  · split at h
    · split at h
      · split at h
        · simp only [Option.map_eq_some_iff] at h
          obtain ⟨b, _, h⟩ := h
          cases h
          exact ⟨b, rfl⟩
        · cases h
      · cases h
        exact ⟨false, rfl⟩
      · cases h
    · cases h
  · cases h
end
end Ro
end
section
set_option Elab.async false
set_option linter.all false
set_option autoImplicit false
set_option maxHeartbeats 4000000
namespace Ro
open PySem PySem.Spec PyProof.Rows L2

/-! ## Argument lists -/
def PEs (X : Cx) (C : CallF) : Exs → List Expr → Prop
  | .nil, [] => True
  | .cons c cs, e :: es => PE X e (tE X.K C c) ∧ PEs X C cs es
  | .nil, _ :: _ => False
  | .cons _ _, [] => False
/-- no star -/
def nst : Expr → Bool
  | .Starred _ _ => false
  | _ => true
theorem nst_at {e : Expr} {es : List Expr} {env : PySem.Env} (h : nst e = true) : starEach (e :: es) env = (false, eval e env) :: starEach es env := by
  cases e <;> first
    | rfl
    | cases h
theorem nst_any {env : PySem.Env} {pos : Pos} : ∀ {es : List Expr}, es.all nst = true → (backTo pos (starEach es env)).any (·.1) = false
  | [], _ => rfl
  | e :: es, h => by
    rw [List.all_cons, Bool.and_eq_true] at h
    rw [nst_at h.1]
    show (false || (backTo pos (starEach es env)).any (·.1)) = false
    rw [nst_any h.2]
    rfl
theorem nst_few {env : PySem.Env} {pos : Pos} : ∀ {es : List Expr}, es.all nst = true → (backTo pos (starEach es env)).all (fun x => !x.1) = true
  | [], _ => rfl
  | e :: es, h => by
    rw [List.all_cons, Bool.and_eq_true] at h
    rw [nst_at h.1]
    show (true && (backTo pos (starEach es env)).all (fun x => !x.1)) = true
    rw [nst_few h.2]
    rfl
section
variable {X : Cx} {C : CallF} {pos : Pos}
theorem sa_of : ∀ {cs : Exs} {es : List Expr}, PEs X C cs es → es.all nst = true → PA X es (tA X.K C cs)
  | .nil, [], _, _ => by
    refine pa_imp pa_nil fun σ H Q h => ?_
    obtain ⟨W, L, st, ρ, ds, st', S, e, k⟩ := h
    obtain ⟨rfl, rfl⟩ := evs_nil e
    exact k W L H [] S.s .refl .nil
  | .cons c cs, e :: es, p, h => by
    rw [List.all_cons, Bool.and_eq_true] at h
    refine pa_imp (pa_cons p.1 (sa_of p.2 h.2) (nst_at h.1)) fun σ H Q q => ?_
    obtain ⟨W, L, st, ρ, ds, st', S, ev1, k⟩ := q
    obtain ⟨x, xs, st1, q1, q2, rfl⟩ := evs_cons ev1
    refine .mk S q1 fun W1 L1 H1 v1 S1 E1 r1 => .mk S1 q2 fun W2 L2 H2 vs S2 E2 r2 => ?_
    exact k W2 L2 H2 (v1 :: vs) S2.s (E1.trans E2) (.cons (r1.mono S1.s E2) r2)
  | .nil, _ :: _, p, _ => p.elim
  | .cons _ _, [], p, _ => p.elim

/-! ## Displays -/
theorem se_tup {cs : Exs} {es : List Expr} {k : Nat} (pa : PA X es (tA X.K C cs)) : PE X (.Tuple es k pos) (tE X.K C (.op .tup cs)) := by
  refine pe_imp (pe_tup pa) fun σ H Q h => ?_
  obtain ⟨W, L, st, ρ, d, st', S, e, kt⟩ := h
  obtain ⟨ds, st1, q, pr⟩ := ev_op e
  refine .mk S q fun W1 L1 H1 vs S1 E1 r1 => ?_
  simp only [primD] at pr
  split at pr
  · rename_i z
    simp only [Option.some.injEq, Prod.mk.injEq] at pr
    obtain ⟨rfl, rfl⟩ := pr
    rw [r1.length] at z
    exact ⟨z, fun p hp => (kt.ext E1).tup S1.s r1 z hp⟩
  · cases pr
theorem se_lst {cs : Exs} {es : List Expr} {m : Bool} (pa : PA X es (tA X.K C cs)) : PE X (.List es pos) (tE X.K C (.op (.lst m) cs)) := by
  refine pe_imp (pe_lst pa) fun σ H Q h => ?_
  obtain ⟨W, L, st, ρ, d, st', S, e, kt⟩ := h
  obtain ⟨ds, st1, q, pr⟩ := ev_op e
  refine .mk S q fun W1 L1 H1 vs S1 E1 r1 => ?_
  simp only [primD] at pr
  split at pr
  · rename_i z
    rw [r1.length] at z
    exact ⟨z, fun p hp => Kt.newL pr (kt.ext E1) S1.s r1 z hp⟩
  · cases pr
theorem se_dnk : PE X (.Dict [] [] pos) (tE X.K C (.op .dnk .nil)) := by
  refine pe_imp pe_dnewK fun σ H Q h => ?_
  obtain ⟨W, L, st, ρ, d, st', S, e, kt⟩ := h
  obtain ⟨ds, st1, q, pr⟩ := ev_op e
  obtain ⟨rfl, rfl⟩ := evs_nil q
  simp only [primD, Option.some.injEq, Prod.mk.injEq] at pr
  obtain ⟨rfl, rfl⟩ := pr
  intro p hp
  refine kt _ _ _ _ (S.s.push hp trivial ⟨[], rfl, rfl, .nil⟩) (S.s.pushE hp) ?_
  simp only [Rp]
  exact ⟨p, rfl, by rw [← S.s.len, List.getElem?_append_right (Nat.le_refl _), Nat.sub_self]; rfl⟩
theorem se_dnt : PE X (.Dict [] [] pos) (tE X.K C (.op .dnt .nil)) := by
  refine pe_imp pe_dnewT fun σ H Q h => ?_
  obtain ⟨W, L, st, ρ, d, st', S, e, kt⟩ := h
  obtain ⟨ds, st1, q, pr⟩ := ev_op e
  obtain ⟨rfl, rfl⟩ := evs_nil q
  simp only [primD, Option.some.injEq, Prod.mk.injEq] at pr
  obtain ⟨rfl, rfl⟩ := pr
  intro p hp
  refine kt _ _ _ _ (S.s.push hp trivial ⟨[], rfl, rfl, .nil⟩) (S.s.pushE hp) ?_
  simp only [Rp]
  exact ⟨p, rfl, by rw [← S.s.len, List.getElem?_append_right (Nat.le_refl _), Nat.sub_self]; rfl⟩

/-! ## Subscripts -/
def nsl : Expr → Bool
  | .Slice _ _ _ _ => false
  | _ => true
theorem nsl_plain {b : Expr} (h : nsl b = true) : PlainIx b := by
  intro o i
  cases b <;> first
    | rfl
    | cases h
theorem se_sub {a b : Expr} {ca cb : Ex} (hu : X.A.units + 1 < cLine) (pa : PE X a (tE X.K C ca)) (pb : PE X b (tE X.K C cb)) (h : nsl b = true) : PE X (.Subscript a b pos) (tE X.K C (.op .sub (.cons ca (.cons cb .nil)))) :=
  pe_imp (pe_ix (ix_sub hu) pa pb (nsl_plain h)) t_op2
/-- a slice's part -/
def PEo (X : Cx) (C : CallF) : Exs → Option Expr → Prop
  | .nil, none => True
  | .cons c .nil, some e => PE X e (tE X.K C c)
  | _, _ => False
def tO (K : PySem.W.Frag) (C : CallF) (cs : Exs) : TO := fun σ H Q => ∃ W L st ρ ds st' o, Si K W L H st ρ σ ∧ evs C cs ρ st = some (ds, st') ∧ partD ds = some o ∧ ∀ W' L' H', Si K W' L' H' st' ρ σ → Ext W L H W' L' H' → Q o H'
theorem so_of {cs : Exs} {e : Option Expr} (p : PEo X C cs e) : PO X e (tO X.K C cs) := by
  match cs, e, p with
  | .nil, none, _ =>
    refine ⟨fun pins s σ H Q I h => po_none.run pins s σ H Q I ?_⟩
    obtain ⟨W, L, st, ρ, ds, st', o, S, ev1, pd, k⟩ := h
    obtain ⟨rfl, rfl⟩ := evs_nil ev1
    simp only [partD, Option.some.injEq] at pd
    subst pd
    exact k W L H S .refl
  | .cons c .nil, some e, p =>
    refine ⟨fun pins s σ H Q I h => (po_some p).run pins s σ H Q I ?_⟩
    obtain ⟨W, L, st, ρ, ds, st', o, S, ev1, pd, k⟩ := h
    obtain ⟨x, q, rfl⟩ := evs_one ev1
    refine .mk S q fun W1 L1 H1 v S1 E1 r => ?_
    cases x with
    | int i =>
      simp only [partD, Option.some.injEq] at pd
      subst pd
      exact ⟨i, rInt r, k W1 L1 H1 S1 E1⟩
    | _ => simp [partD] at pd
theorem se_slice {a : Expr} {ca : Ex} {lo hi : Option Expr} {cl ch : Exs} {p2 : Pos} (pa : PE X a (tE X.K C ca)) (pl : PEo X C cl lo) (ph : PEo X C ch hi) : PE X (.Subscript a (.Slice lo hi none p2) pos) (tE X.K C (.slice ca cl ch)) := by
  refine pe_imp (pe_slice sl_any pa (so_of pl) (so_of ph)) fun σ H Q h => ?_
  obtain ⟨W, L, st, ρ, d, st', S, e, k⟩ := h
  unfold ev at e
  split at e
  · rename_i x st1 q1
    split at e
    · rename_i l st2 q2
      split at e
      · rename_i hh st3 q3
        split at e
        · rename_i lo1 hi1 g1 g2
          refine .mk S q1 fun W1 L1 H1 v1 S1 E1 r1 => ⟨W1, L1, st1, ρ, l, st2, lo1, S1, q2, g1, fun W2 L2 H2 S2 E2 => ⟨W2, L2, st2, ρ, hh, st3, hi1, S2, q3, g2, fun W3 L3 H3 S3 E3 => ?_⟩⟩
          exact ⟨W3, L3, st3, x, d, st', S3.s, (r1.mono S1.s E2).mono S2.s E3, e, k.ext (E1.trans (E2.trans E3))⟩
        · cases e
      · cases e
    · cases e
  · cases e

/-! ## Calls of built-in functions -/
theorem se_blt {p : Pr} {x : Str} {id : String} {e : Expr} {es : List Expr} {cs : Exs} {q : Pos} (hc : CallR X (.builtin id) (rPn X.K p)) (hg : Gl X x) (hm : X.mg x = none) (hv : bootBuiltins x = some (.builtin id)) (hn : x ≠ "__name__") (hd : (x == ("__debug__" : Str)) = false)
    (pa : PA X (e :: es) (tA X.K C cs)) (h : (e :: es).all nst = true) : PE X (.Call (.Name x q) (e :: es) [] pos) (tE X.K C (.op p cs)) := by
  rw [List.all_cons, Bool.and_eq_true] at h
  exact pe_imp (pe_callB hc hg hm hv pa hn hd (nst_at h.1) (nst_any h.2)) t_opn
theorem se_typ {p : Pr} {x : Str} {id : String} {e : Expr} {es : List Expr} {cs : Exs} {q : Pos} (hc : CallR X (.type id) (rPn X.K p)) (hg : Gl X x) (hm : X.mg x = none) (hv : bootBuiltins x = some (.type id)) (hn : x ≠ "__name__") (hd : (x == ("__debug__" : Str)) = false)
    (pa : PA X (e :: es) (tA X.K C cs)) (h : (e :: es).all nst = true) : PE X (.Call (.Name x q) (e :: es) [] pos) (tE X.K C (.op p cs)) := by
  rw [List.all_cons, Bool.and_eq_true] at h
  exact pe_imp (pe_callTy hc hg hm hv pa hn hd (nst_at h.1) (nst_any h.2)) t_opn

/-! ## Calls of defs -/
def cxz : CXT := fun _ _ _ _ _ _ => False
theorem passz {X : Cx} {E : XK} : Passes cxz X E := fun _ _ _ _ _ _ _ h => h.elim
theorem t_call {cs : Exs} {f n : Nat} (hl : ∀ ds st d st', C f ds st = some (d, st') → ds.length = n) : ∀ σ H Q, tE X.K C (.call f cs) σ H Q → tCall (spF X.K C f n) [] (fun _ _ _ => False) (tA X.K C cs) σ H Q := by
  intro σ H Q h
  obtain ⟨W, L, st, ρ, d, st', S, e, k⟩ := h
  unfold ev at e
  split at e
  · rename_i ds st1 q
    refine tA.mk S q fun W1 L1 H1 v1 S1 E1 r1 => ?_
    rw [List.append_nil]
    exact ⟨by rw [← r1.length]; exact hl _ _ _ _ e, W1, L1, st1, ds, d, st', S1.s, r1, e, k.ext E1⟩
  · cases e
theorem se_call {cs : Exs} {f n k : Nat} {x : Str} {a : Addr} {fd : FuncData} {ps : List Str} {es : List Expr} {q : Pos} (hl : ∀ ds st d st', C f ds st = some (d, st') → ds.length = n)
    (F : FnOk X.prog X.w X.K X.mg X.base cxz k a fd ps (spF X.K C f n)) (hr : Room k X.A) (hg : Gl X x) (hm : X.mg x = some (.ref a)) (hk : PySem.W.keepIn X.K (.ref a) = true) (hb : Binds X.K fd ps []) (hd : (x == ("__debug__" : Str)) = false)
    (pe : PEs X C cs es) (h : es.all nst = true) : PE X (.Call (.Name x q) es [] pos) (tE X.K C (.call f cs)) := by
  match es, cs, pe, h with
  | [], .nil, _, _ =>
    refine pe_imp (pe_call0 (E := fun _ _ _ => False) F hr hg hm hk hb .nil passz hd) fun σ H Q hh => ?_
    have w := t_call hl σ H Q hh
    obtain ⟨W, L, st, ρ, ds, st', S, e, kk⟩ := w
    obtain ⟨rfl, rfl⟩ := evs_nil e
    exact kk W L H [] S.s .refl .nil
  | e :: es, cs, pe, h =>
    have pa := sa_of pe h
    rw [List.all_cons, Bool.and_eq_true] at h
    exact pe_imp (pe_call F hr hg hm hk hb .nil passz pa hd (nst_at h.1) (nst_any h.2)) (t_call hl)
  | [], .cons _ _, pe, _ => exact pe.elim

/-! ## Methods -/
def nca : Expr → Bool
  | .Call _ _ _ _ => false
  | _ => true
theorem nca_base {o : Expr} {nm : Str} {env : PySem.Env} (h : nca o = true) : attributeBase o nm env (eval o env) = eval o env := by
  cases o <;> first
    | rfl
    | cases h
theorem lis_sq {K : PySem.W.Frag} {W : Addr → Prop} {L : List Addr} {H : Hp} {st : Sto} {x : D} {v : V} (S : Sim K W L H st) (r : Rp K W L H x v) (h : (listOf st x).isSome = true) : tyV K "list" v H := by
  cases q : listOf st x with
  | none => rw [q] at h; cases h
  | some ds =>
    obtain ⟨a, xs, rfl, h1, _⟩ := S.lis r q
    exact .inl ⟨rfl, xs, h1⟩
theorem t_meth {p : Pr} {co : Ex} {cs : Exs} (ht : ∀ st x, methTy p st x = true → (listOf st x).isSome = true) : ∀ σ H Q, tE X.K C (.meth p co cs) σ H Q → tBM X.K "list" (rMt X.K p) (tE X.K C co) (tA X.K C cs) σ H Q := by
  intro σ H Q h
  obtain ⟨W, L, st, ρ, d, st', S, e, k⟩ := h
  unfold ev at e
  split at e
  · rename_i x st1 q1
    split at e
    · rename_i hm
      split at e
      · rename_i ds st2 q2
        refine .mk S q1 fun W1 L1 H1 v1 S1 E1 r1 => ⟨lis_sq S1.s r1 (ht _ _ hm), ?_⟩
        refine .mk S1 q2 fun W2 L2 H2 vs S2 E2 r2 => ?_
        exact ⟨W2, L2, st2, x, ds, d, st', S2.s, r1.mono S1.s E2, r2, e, k.ext (E1.trans E2)⟩
      · cases e
    · cases e
  · cases e
theorem se_meth {p : Pr} {o e : Expr} {es : List Expr} {co : Ex} {cs : Exs} {nm : Str} {id : String} {apos : Pos} (slot : Slot "list" nm id) (hty : typeOf (.builtin id) = pure (.type "method_descriptor")) (hm : MtR X id (rMt X.K p)) (ht : ∀ st x, methTy p st x = true → (listOf st x).isSome = true)
    (po : PE X o (tE X.K C co)) (pa : PA X (e :: es) (tA X.K C cs)) (h : (e :: es).all nst = true) (hl : decide ((e :: es).length < 30) = true) (ho : nca o = true) (hline : (apos.endLine == pos.line) = true) : PE X (.Call (.Attribute o nm apos) (e :: es) [] pos) (tE X.K C (.meth p co cs)) := by
  have h' := h
  rw [List.all_cons, Bool.and_eq_true] at h'
  refine pe_imp (pe_bm PySem.F.plainAttrs_list slot hty hm po pa (nca_base ho) ?_ hline (nst_at h'.1) (nst_any h'.2)) (t_meth ht)
  rw [nst_few h]
  show (true && true && decide ((e :: es).length < 30)) = true
  rw [hl]
  rfl
theorem se_count {o e : Expr} {es : List Expr} {co : Ex} {cs : Exs} {apos : Pos} (po : PE X o (tE X.K C co)) (pa : PA X (e :: es) (tA X.K C cs)) (h : (e :: es).all nst = true) (hl : decide ((e :: es).length < 30) = true) (ho : nca o = true) (hline : (apos.endLine == pos.line) = true) :
    PE X (.Call (.Attribute o "count" apos) (e :: es) [] pos) (tE X.K C (.meth .count co cs)) := by
  have h' := h
  rw [List.all_cons, Bool.and_eq_true] at h'
  refine ⟨fun pins s σ H Q I hw => ?_⟩
  obtain ⟨W, L, st, ρ, d, st', S, e1, k⟩ := hw
  unfold ev at e1
  split at e1
  · rename_i x st1 q1
    split at e1
    · rename_i hm
      split at e1
      · rename_i ds st2 q2
        have few : ((backTo pos (starEach (e :: es) X.env)).all (fun x => !x.1) && (backToKw pos (keywordEach [] X.env)).all (fun x => x.1.isSome) && decide ((e :: es).length + ([] : List Keyword).length + (if ([] : List Keyword).isEmpty then 0 else 1) < 30)) = true := by
          rw [nst_few h]
          show (true && true && decide ((e :: es).length < 30)) = true
          rw [hl]
          rfl
        refine wpAny_Call_method_late (nca_base ho) few hline rfl (thn (po.run pins s σ H _ I (tE.mk S q1 fun W1 L1 H1 v1 S1 E1 r1 => (⟨S1, E1, r1⟩ : Si X.K W1 L1 H1 st1 ρ σ ∧ Ext W L H W1 L1 H1 ∧ Rp X.K W1 L1 H1 x v1) |> fun z => (⟨W1, L1, z⟩ : ∃ W1 L1, Si X.K W1 L1 H1 st1 ρ σ ∧ Ext W L H W1 L1 H1 ∧ Rp X.K W1 L1 H1 x v1))) ?_)
        rintro v s1 ⟨y, H1, I1, ry, W1, L1, S1, E1, r1⟩
        cases x with
        | kt b xs =>
          cases b with
          | false => simp [methTy] at hm
          | true =>
            have r1' := r1
            simp only [Rp] at r1
            obtain ⟨a, ob, ys, rfl, g1, g2, g3, g4⟩ := r1
            cases vRef ry
            obtain ⟨its, rv, tp, hz⟩ := I1.tuple (show SqT X.K H1 a ys from .inl (.inr ⟨ob, g1⟩))
            obtain ⟨hk1, _⟩ := (show ObjOk X.prog X.w H1 s1.heap a (.frz ob (.tup ys)) from I1.hok a _ g1)
            refine ⟨"tuple", "tuple.count", PySem.F.plainAttrs_tuple, PySem.F.slot_tuple_count, by rw [typeOf]; rfl, tp.typeIs, fun a2 e2 => ?_, ?_⟩
            · cases e2
              exact ⟨ob, hk1, g2⟩
            · have hA := pa.run pos pins s1 σ H1 _ I1 (tA.mk S1 q2 fun W2 L2 H2 vs S2 E2 r2 => (⟨W2, L2, S2, E2, r2⟩ : ∃ W2 L2, Si X.K W2 L2 H2 st2 ρ σ ∧ Ext W1 L1 H1 W2 L2 H2 ∧ Rps X.K W2 L2 H2 ds vs))
              rw [nst_at h'.1] at hA ⊢
              refine Calls.callWith_builtin (by show (false || (backTo pos (starEach es X.env)).any (·.1)) = false; rw [nst_any h'.2] <;> rfl) (Calls.evalArgs_plain ?_)
              refine thn hA ?_
              rintro us s2 ⟨vs, H2, I2, rvs, W2, L2, S2, E2, r2⟩
              exact mt_countP I2 (show RelV (.ref a) (.ref a) from rfl) rvs ⟨W2, L2, st2, .kt true xs, ds, d, st', S2.s, r1'.mono S1.s E2, r2, e1, k.ext (E1.trans E2)⟩
        | _ => simp [methTy] at hm
      · cases e1
    · cases e1
  · cases e1
end
end Ro
end
section
set_option Elab.async false
set_option linter.all false
set_option autoImplicit false
set_option maxHeartbeats 4000000
namespace Ro
open PySem PySem.Spec PyProof.Rows L2

/-! ## Where an expression stands -/
structure Gam where
  N : List Str
  sc : Scope
  fn : Str → Bool
  Tb : List Df
  gl : List (Str × D)
/-- the built-in names that the walk knows -/
def bltNames : List Str := ["len", "all", "any", "tuple", "list", "int", "abs", "min", "max", "sum", "sorted", "range", "enumerate", "zip", "isinstance", "reversed", "bool", "str"]
structure XOk (C : CallF) (k : Nat) (Γ : Gam) (X : Cx) : Prop where
  N : X.N = Γ.N
  sc : X.env.scope = Γ.sc
  fn : X.fn = Γ.fn
  nd : Γ.N.Nodup
  calm : X.calm = true
  hu : X.A.units + 64 < cLine
  room : Room k X.A
  blt : ∀ x ∈ bltNames, X.mg x = none
  len : ∀ f ds st d st', C f ds st = some (d, st') → ∃ q, Γ.Tb[f]? = some q ∧ ds.length = q.np
  call : ∀ f q, Γ.Tb[f]? = some q → ∃ a fd ps, FnOk X.prog X.w X.K X.mg X.base cxz k a fd ps (spF X.K C f q.np) ∧ X.mg q.name = some (.ref a) ∧ PySem.W.keepIn X.K (.ref a) = true ∧ Binds X.K fd ps []
  glo : ∀ p ∈ Γ.gl, ∃ v u, X.mg p.1 = some u ∧ RelV v u ∧ ∀ W L H, Rp X.K W L H p.2 v

/-! ## Targets -/
mutual
def slots : Tg → List Nat
  | .v i => [i]
  | .t ts => slotsL ts
def slotsL : List Tg → List Nat
  | [] => []
  | t :: ts => slots t ++ slotsL ts
end
def storable (Γ : Gam) (x : Str) : Bool := decide (Γ.sc.names.lookup x = some .local) || (decide (Γ.sc.names.lookup x = some .cell) && Γ.fn x)
mutual
def chkG (Γ : Gam) : Tg → Expr → Bool
  | .v i, e => match e with
    | .Name x _ => decide (Γ.N[i]? = some x) && storable Γ x
    | _ => false
  | .t ts, e => match e with
    | .Tuple es _ _ => chkGs Γ ts es
    | _ => false
def chkGs (Γ : Gam) : List Tg → List Expr → Bool
  | [], es => es.isEmpty
  | t :: ts, es => match es with
    | e :: es => chkG Γ t e && chkGs Γ ts es
    | [] => false
end
section
variable (K : PySem.W.Frag)
def Left (σ σ' : L2.St) (is : List Nat) : Prop := ∀ vs : List Nat, (∀ i ∈ is, i ∈ vs) → wipe σ' vs = wipe σ vs
def tG (t : Tg) : TG := fun v σ H Q => ∃ W L ρ d ρ', RE K W L H ρ σ ∧ Rp K W L H d v ∧ bindT t d ρ = some ρ' ∧ ∀ σ', RE K W L H ρ' σ' → Left σ σ' (slots t) → Q σ' H
def tGs (ts : List Tg) : TGs := fun vs σ H Q => ∃ W L ρ ds ρ', RE K W L H ρ σ ∧ Rps K W L H ds vs ∧ ds.length = ts.length ∧ bindTs ts ds ρ = some ρ' ∧ ∀ σ', RE K W L H ρ' σ' → Left σ σ' (slotsL ts) → Q σ' H
end
theorem set_set (σ : L2.St) (x y : Option V) : ∀ {i j : Nat}, i ≠ j → (σ.set i x).set j y = (σ.set j y).set i x := fun h => List.set_comm _ _ h
theorem left_set {σ : L2.St} {i : Nat} {v : Option V} : Left σ (σ.set i v) [i] := by
  intro vs h
  have hm : i ∈ vs := h i (List.mem_singleton.mpr rfl)
  clear h
  induction vs with
  | nil => cases hm
  | cons j vs ih =>
    unfold wipe
    by_cases e : i = j
    · subst e
      by_cases hi : i ∈ vs
      · rw [ih hi]
      · have z : ∀ ws : List Nat, i ∉ ws → wipe (σ.set i v) ws = (wipe σ ws).set i v := fun ws => by
          induction ws with
          | nil => intro _; rfl
          | cons w ws ih2 =>
            intro hn
            rw [List.mem_cons, not_or] at hn
            unfold wipe
            rw [ih2 hn.2, List.set_comm _ _ hn.1]
        rw [z vs hi, List.set_set]
    · rw [ih (by rcases List.mem_cons.mp hm with q | q
                 · exact absurd q e
                 · exact q)]
theorem Left.trans {σ σ' σ2 : L2.St} {is js : List Nat} (a : Left σ σ' is) (b : Left σ' σ2 js) : Left σ σ2 (is ++ js) := fun vs h => by
  rw [b vs fun i hi => h i (List.mem_append_right _ hi), a vs fun i hi => h i (List.mem_append_left _ hi)]
theorem nrm_seq {K : PySem.W.Frag} {W : Addr → Prop} {L : List Addr} {H : Hp} {d : D} {v : V} {ds : List D} (r : Rp K W L H d v) (e : nrm d = .tup ds) : ∃ a xs, v = .ref a ∧ SqT K H a xs ∧ Rps K W L H ds xs := by
  cases d with
  | tup xs =>
    cases e
    obtain ⟨a, ys, rfl, h1, h2, h3⟩ := rTup r
    exact ⟨a, ys, rfl, .of h1, h3⟩
  | kt b xs =>
    cases e
    cases b with
    | true =>
      simp only [Rp] at r
      obtain ⟨a, o, ys, rfl, h1, _, h2, h3⟩ := r
      exact ⟨a, ys, rfl, .inl (.inr ⟨o, h1⟩), h3⟩
    | false =>
      simp only [Rp] at r
      obtain ⟨a, ys, rfl, h1, h2, h3⟩ := r
      exact ⟨a, ys, rfl, h1 H, h3⟩
  | _ => cases e
theorem asg_tg {X : Cx} {e : Expr} {es : List Expr} {t : TG} (p : PG X e t) (hn : nst e = true) : (assignEach (e :: es) X.env) = (false, assign e X.env) :: assignEach es X.env := by
  cases e <;> first
    | rfl
    | cases hn
section
variable {C : CallF} {k : Nat} {Γ : Gam} {X : Cx}
theorem chkG_nst {t : Tg} {e : Expr} (h : chkG Γ t e = true) : nst e = true := by
  cases e with
  | Starred a b => cases t <;> simp [chkG] at h
  | _ => rfl
theorem asg_each : ∀ {ts : List Tg} {es : List Expr}, chkGs Γ ts es = true → (assignEach es X.env).length = ts.length ∧ (assignEach es X.env).findIdx? (·.1) = none
  | [], [], _ => ⟨rfl, rfl⟩
  | [], _ :: _, h => by simp [chkGs] at h
  | _ :: _, [], h => by simp [chkGs] at h
  | t :: ts, e :: es, h => by
    simp only [chkGs, Bool.and_eq_true] at h
    obtain ⟨h1, h2⟩ := asg_each h.2
    have q : assignEach (e :: es) X.env = (false, assign e X.env) :: assignEach es X.env := by
      have hn := chkG_nst h.1
      cases e <;> first
        | rfl
        | cases hn
    rw [q]
    refine ⟨by rw [List.length_cons, List.length_cons, h1], ?_⟩
    rw [List.findIdx?_cons]
    simp [h2]
mutual
theorem sg_of (x : XOk C k Γ X) : ∀ {t : Tg} {e : Expr}, chkG Γ t e = true → PG X e (tG X.K t)
  | .v i, e, h => by
    cases e with
    | Name y p =>
      simp only [chkG, storable, Bool.and_eq_true, Bool.or_eq_true, decide_eq_true_eq] at h
      obtain ⟨h1, h2⟩ := h
      have hi : X.N[i]? = some y := by rw [x.N]; exact h1
      have hx : Loc X.env.scope y := by
        rw [x.sc]
        rcases h2 with q | q
        · exact .inl q
        · exact .inr q.1
      have hf : X.fn y = true ∨ X.env.scope.names.lookup y = some .local := by
        rcases h2 with q | q
        · exact .inr (by rw [x.sc]; exact q)
        · exact .inl (by rw [x.fn]; exact q.2)
      refine ⟨fun pins s σ H v u Q I r w => (pg_name (by rw [x.N]; exact x.nd) hi hx hf).run pins s σ H v u Q I r ?_⟩
      obtain ⟨W, L, ρ, d, ρ', re, rd, b, kq⟩ := w
      unfold bindT at b
      split at b
      · cases b
        exact kq _ (re.set rd) left_set
      · cases b
    | _ => simp [chkG] at h
  | .t ts, e, h => by
    cases e with
    | Tuple es kk p =>
      simp only [chkG] at h
      obtain ⟨g1, g2⟩ := asg_each (X := X) h
      refine ⟨fun pins s σ H v u Q I r w => (pg_tup x.calm (sgs_of x h) g1 g2).run pins s σ H v u Q I r ?_⟩
      obtain ⟨W, L, ρ, d, ρ', re, rd, b, kq⟩ := w
      unfold bindT at b
      split at b
      · rename_i ds q
        split at b
        · rename_i hl
          obtain ⟨a, xs, rfl, sq, rs⟩ := nrm_seq rd q
          refine ⟨a, xs, rfl, sq, by rw [← rs.length, hl], W, L, ρ, ds, ρ', re, rs, hl, b, fun σ' r' l => kq σ' r' ?_⟩
          unfold slots
          exact l
        · cases b
      · cases b
    | _ => simp [chkG] at h
theorem sgs_of (x : XOk C k Γ X) : ∀ {ts : List Tg} {es : List Expr}, chkGs Γ ts es = true → PGs X es (tGs X.K ts)
  | [], [], _ => by
    refine ⟨fun pins s σ H vs us Q I r w => pgs_nil.run pins s σ H vs us Q I r ?_⟩
    obtain ⟨W, L, ρ, ds, ρ', re, rd, hl, b, kq⟩ := w
    have e : ds = [] := List.length_eq_zero_iff.mp hl
    subst e
    unfold bindTs at b
    cases b
    exact ⟨by simpa only [Rps] using rd, kq σ re fun vs _ => rfl⟩
  | [], _ :: _, h => by simp [chkGs] at h
  | _ :: _, [], h => by simp [chkGs] at h
  | t :: ts, e :: es, h => by
    simp only [chkGs, Bool.and_eq_true] at h
    have p1 := sg_of x h.1
    refine ⟨fun pins s σ H vs us Q I r w => (pgs_cons p1 (sgs_of x h.2) (by rw [asg_tg p1 (chkG_nst h.1)]; rfl)).run pins s σ H vs us Q I r ?_⟩
    obtain ⟨W, L, ρ, ds, ρ', re, rd, hl, b, kq⟩ := w
    match ds, rd, hl, b with
    | d :: ds, rd, hl, b =>
      simp only [Rps] at rd
      obtain ⟨y, ys, rfl, r1, r2⟩ := rd
      unfold bindTs at b
      split at b
      · rename_i ρ1 q
        refine ⟨y, ys, rfl, W, L, ρ, d, ρ1, re, r1, q, fun σ1 re1 l1 => ⟨W, L, ρ1, ds, ρ', re1, r2, Nat.succ.inj hl, b, fun σ2 re2 l2 => kq σ2 re2 ?_⟩⟩
        unfold slotsL
        exact l1.trans l2
      · cases b
    | [], _, hl, _ => cases hl
end
end
end Ro
end
section
set_option Elab.async false
set_option linter.all false
set_option autoImplicit false
set_option maxHeartbeats 4000000
namespace Ro
open PySem PySem.Spec PyProof.Rows L2

/-! ## A place that is written but no part of the store -/
section
variable {K : PySem.W.Frag} {W W' W2 : Addr → Prop} {L L' L2' : List Addr} {H H' H2 : Hp} {st st' : Sto}
mutual
theorem Rp.carry (kp : ∀ a o, H a = some o → (¬ W a ∨ ¬ Mut (some o)) → H' a = some o) (nw : ∀ a o, H a = some o → ¬ W a → ¬ W' a) (pre : L <+: L') : ∀ {d : D} {x : V}, Rp K W L H d x → Rp K W' L' H' d x
  | .non, _, h => by simp only [Rp] at h ⊢; exact h
  | .bl _, _, h => by simp only [Rp] at h ⊢; exact h
  | .int _, _, h => by simp only [Rp] at h ⊢; exact h
  | .str _, _, h => by simp only [Rp] at h ⊢; exact h
  | .tup ds, _, h => by
    simp only [Rp] at h ⊢
    obtain ⟨a, xs, e, q, z, r⟩ := h
    exact ⟨a, xs, e, kp a _ q (.inr fun m => m), z, Rps.carry kp nw pre r⟩
  | .kl ds, _, h => by
    simp only [Rp] at h ⊢
    obtain ⟨a, xs, e, q, z, r⟩ := h
    exact ⟨a, xs, e, q.to fun o q => kp a _ q (.inr fun m => m), z, Rps.carry kp nw pre r⟩
  | .kt true ds, _, h => by
    simp only [Rp] at h ⊢
    obtain ⟨a, o, xs, e, q, dn, z, r⟩ := h
    exact ⟨a, o, xs, e, kp a _ q (.inr fun m => m), dn, z, Rps.carry kp nw pre r⟩
  | .kt false ds, _, h => by
    simp only [Rp] at h ⊢
    obtain ⟨a, xs, e, q, z, r⟩ := h
    exact ⟨a, xs, e, q, z, Rps.carry kp nw pre r⟩
  | .lst ds, _, h => by
    simp only [Rp] at h ⊢
    obtain ⟨a, xs, e, q, n, z, r⟩ := h
    exact ⟨a, xs, e, kp a _ q (.inl n), nw a _ q n, z, Rps.carry kp nw pre r⟩
  | .loc n, _, h => by
    simp only [Rp] at h ⊢
    obtain ⟨a, e, q⟩ := h
    exact ⟨a, e, pre_get pre q⟩
  | .dk ks vs, _, h => by
    simp only [Rp] at h ⊢
    obtain ⟨a, kvs, e, q, n, z, r⟩ := h
    obtain ⟨o, ho⟩ := rd_some q
    exact ⟨a, kvs, e, rd_keep (fun o e => kp a o e (.inl n)) q, nw a _ ho n, z, Rps.carry kp nw pre r⟩
  | .dt ks vs, _, h => by
    simp only [Rp] at h ⊢
    obtain ⟨a, kvs, e, q, n, z, r⟩ := h
    obtain ⟨o, ho⟩ := rd_some q
    exact ⟨a, kvs, e, rd_keep (fun o e => kp a o e (.inl n)) q, nw a _ ho n, z, Rps.carry kp nw pre r⟩
theorem Rps.carry (kp : ∀ a o, H a = some o → (¬ W a ∨ ¬ Mut (some o)) → H' a = some o) (nw : ∀ a o, H a = some o → ¬ W a → ¬ W' a) (pre : L <+: L') : ∀ {ds : List D} {xs : List V}, Rps K W L H ds xs → Rps K W' L' H' ds xs
  | [], _, h => by simp only [Rps] at h ⊢; exact h
  | d :: ds, _, h => by
    simp only [Rps] at h ⊢
    obtain ⟨y, ys, e, h1, h2⟩ := h
    exact ⟨y, ys, e, Rp.carry kp nw pre h1, Rps.carry kp nw pre h2⟩
end
theorem RpO.carry (kp : ∀ a o, H a = some o → (¬ W a ∨ ¬ Mut (some o)) → H' a = some o) (nw : ∀ a o, H a = some o → ¬ W a → ¬ W' a) (pre : L <+: L') {o : Ob} {h : Option HO} (r : RpO K W L H o h) : RpO K W' L' H' o h := by
  cases o with
  | lst ds => obtain ⟨xs, e, z, q⟩ := r; exact ⟨xs, e, z, q.carry kp nw pre⟩
  | dk kvs => obtain ⟨xs, e, z, q⟩ := r; exact ⟨xs, e, z, q.carry kp nw pre⟩
  | dt kvs => obtain ⟨xs, e, z, q⟩ := r; exact ⟨xs, e, z, q.carry kp nw pre⟩
  | ins C fs => obtain ⟨Ca, dx, xs, e, z, q⟩ := r; exact ⟨Ca, dx, xs, e, z, q.carry kp nw pre⟩
theorem Sim.sideE (S : Sim K W L H st) {p : Addr} {o : HO} (hp : H p = none) : Ext W L H (putW W p) L (upd H p o) :=
  ⟨(S.newE hp).keep, (S.newE hp (o := o)).grow, fun a h => h.imp id fun e => by rw [e]; exact hp, fun a h => .inl h, fun _ h => .inl h, List.prefix_refl _⟩
theorem Sim.side (S : Sim K W L H st) {p : Addr} {o : HO} (hp : H p = none) (mu : Mut (some o)) : Sim K (putW W p) L (upd H p o) st where
  wm := fun a h => by
    rcases h with h | rfl
    · have ne : a ≠ p := fun e => S.nW hp (by rw [← e]; exact h)
      rw [upd_ne ne]; exact S.wm a h
    · rw [upd_same]; exact mu
  lw := fun a h => .inl (S.lw a h)
  nd := S.nd
  len := S.len
  ob := fun n o' a h1 h2 => by
    have ha : a ≠ p := fun e => S.nW hp (e ▸ S.lw a (List.mem_of_getElem? h2))
    rw [upd_ne ha]
    exact (S.ob n o' a h1 h2).mono S (S.sideE hp)
/-- rewritten where nothing names it -/
theorem hid_kp {p : Addr} {xs : List V} {o : HO} (w : W p) (e : H p = some (.lst xs)) : ∀ a u, H a = some u → (¬ W a ∨ ¬ Mut (some u)) → upd H p o a = some u := fun a u h q => by
  have ne : a ≠ p := fun z => by
    subst z
    rcases q with q | q
    · exact q w
    · rw [e] at h; cases h; exact q trivial
  rw [upd_ne ne]; exact h
theorem Rps.hid {p : Addr} {xs : List V} {o : HO} (w : W p) (e : H p = some (.lst xs)) {ds : List D} {vs : List V} (r : Rps K W L H ds vs) : Rps K W L (upd H p o) ds vs := r.carry (hid_kp w e) (fun _ _ _ h => h) (List.prefix_refl _)
theorem Sim.hid (S : Sim K W L H st) {p : Addr} {xs : List V} {o : HO} (w : W p) (nl : p ∉ L) (e : H p = some (.lst xs)) (mu : Mut (some o)) : Sim K W L (upd H p o) st where
  wm := fun a h => by
    by_cases z : a = p
    · rw [z, upd_same]; exact mu
    · rw [upd_ne z]; exact S.wm a h
  lw := S.lw
  nd := S.nd
  len := S.len
  ob := fun n o' a h1 h2 => by
    have ha : a ≠ p := fun z => nl (z ▸ List.mem_of_getElem? h2)
    rw [upd_ne ha]
    exact (S.ob n o' a h1 h2).carry (hid_kp w e) (fun _ _ _ h => h) (List.prefix_refl _)
theorem Ext.hid (E : Ext W L H W' L' H') {p : Addr} {o : HO} (hp : H p = none) : Ext W L H W' L' (upd H' p o) where
  keep := fun a u h n => by
    rw [upd_ne (ne_of_none h hp)]; exact E.keep a u h n
  grow := fun a h => by
    by_cases z : a = p
    · rw [z]; exact hp
    · rw [upd_ne z] at h; exact E.grow a h
  wsub := E.wsub
  wsup := E.wsup
  lsub := E.lsub
  pre := E.pre
theorem Ext.notin (E : Ext W L H W' L' H') {p : Addr} {o : HO} (e : H p = some o) (n : p ∉ L) : p ∉ L' := fun h => (E.lsub p h).elim n fun z => by rw [e] at z; cases z
/-- it becomes frozen -/
theorem Sim.settle (S : Sim K W L H st) {p : Addr} (nl : p ∉ L) : Sim K (fun a => W a ∧ a ≠ p) L H st where
  wm := fun a h => S.wm a h.1
  lw := fun a h => ⟨S.lw a h, fun z => nl (z ▸ h)⟩
  nd := S.nd
  len := S.len
  ob := fun n o' a h1 h2 => (S.ob n o' a h1 h2).carry (fun _ _ h _ => h) (fun a o _ h z => h z.1) (List.prefix_refl _)
theorem Rps.settle {p : Addr} {ds : List D} {vs : List V} (r : Rps K W L H ds vs) : Rps K (fun a => W a ∧ a ≠ p) L H ds vs := r.carry (fun _ _ h _ => h) (fun a o _ h z => h z.1) (List.prefix_refl _)
theorem Ext.settle (S : Sim K W L H st) (E : Ext W L H W' L' H') {p : Addr} (hp : H p = none) : Ext W L H (fun a => W' a ∧ a ≠ p) L' H' :=
  ⟨E.keep, E.grow, fun a h => E.wsub a h.1, fun a h => ⟨E.wsup a h, fun z => S.nW hp (z ▸ h)⟩, E.lsub, E.pre⟩
/-- it joins the store -/
theorem Sim.join (S : Sim K W L H st) {p : Addr} {ob : Ob} (w : W p) (nl : p ∉ L) (r : RpO K W L H ob (H p)) : Sim K W (L ++ [p]) H (st ++ [ob]) where
  wm := S.wm
  lw := fun a h => by
    rcases List.mem_append.mp h with h | h
    · exact S.lw a h
    · rw [List.mem_singleton.mp h]; exact w
  nd := by
    rw [List.nodup_append]
    refine ⟨S.nd, by simp, fun a ha b hb e => ?_⟩
    rw [List.mem_singleton] at hb
    exact nl (by rw [← hb, ← e]; exact ha)
  len := by rw [List.length_append, List.length_append, S.len]; rfl
  ob := fun n o' a h1 h2 => by
    have cr : ∀ {o : Ob} {h : Option HO}, RpO K W L H o h → RpO K W (L ++ [p]) H o h := fun q => q.carry (fun _ _ h _ => h) (fun _ _ _ h => h) (List.prefix_append _ _)
    by_cases hn : n < st.length
    · rw [List.getElem?_append_left hn] at h1
      rw [List.getElem?_append_left (by rw [S.len]; exact hn)] at h2
      exact cr (S.ob n o' a h1 h2)
    · have hn' : n = st.length := by
        have q := (List.getElem?_eq_some_iff.mp h1).1
        rw [List.length_append, List.length_singleton] at q
        omega
      subst hn'
      rw [List.getElem?_append_right (Nat.le_refl _), Nat.sub_self] at h1
      rw [List.getElem?_append_right (by rw [S.len]; exact Nat.le_refl _), S.len, Nat.sub_self] at h2
      simp at h1 h2
      subst h1 h2
      exact cr r
theorem Ext.join (E : Ext W L H W' L' H') {p : Addr} (hp : H p = none) : Ext W L H W' (L' ++ [p]) H' :=
  ⟨E.keep, E.grow, E.wsub, E.wsup, fun a h => by
    rcases List.mem_append.mp h with h | h
    · exact E.lsub a h
    · exact .inr (by rw [List.mem_singleton.mp h]; exact hp), E.pre.trans (List.prefix_append _ _)⟩
end

/-! ## What is walked -/
theorem keepP_app {m n : List Nat} {st st' : Sto} : keepP (m ++ n) st st' ↔ keepP m st st' ∧ keepP n st st' := by
  induction m with
  | nil => exact ⟨fun h => ⟨trivial, h⟩, fun h => h.2⟩
  | cons a m ih =>
    show (st'[a]? = st[a]? ∧ keepP (m ++ n) st st') ↔ ((st'[a]? = st[a]? ∧ keepP m st st') ∧ keepP n st st')
    rw [ih]
    exact ⟨fun h => ⟨⟨h.1, h.2.1⟩, h.2.2⟩, fun h => ⟨h.1.1, h.1.2, h.2⟩⟩
theorem keepP_refl {st : Sto} : ∀ {n : List Nat}, keepP n st st
  | [] => trivial
  | _ :: _ => ⟨rfl, keepP_refl⟩
structure Wk (K : PySem.W.Frag) (W : Addr → Prop) (L : List Addr) (H : Hp) (xs : List D) (ns : List Nat) (st0 : Sto) (J : L2.It) : Prop where
  z : xs.length ≤ sizeLine
  w : Walk J xs.length (fun H2 => ∃ W2 L2 st2, Sim K W2 L2 H2 st2 ∧ Ext W L H W2 L2 H2 ∧ keepP ns st0 st2) (fun i H2 v H3 => ∀ W2 L2 st2, Sim K W2 L2 H2 st2 → Ext W L H W2 L2 H2 → keepP ns st0 st2 → Sim K W2 L2 H3 st2 ∧ Ext W2 L2 H2 W2 L2 H3 ∧ ∃ d, xs[i]? = some d ∧ Rp K W2 L2 H3 d v)
def tI (K : PySem.W.Frag) (C : CallF) (c : It) : TI := fun σ H R => ∃ W L st ρ xs ns st', Si K W L H st ρ σ ∧ evi C c ρ st = some (xs, ns, st') ∧ ∀ W' L' H' J, Sim K W' L' H' st' → Ext W L H W' L' H' → Wk K W' L' H' xs ns st' J → R J H'
theorem pi_imp {X : Cx} {tg e : Expr} {t t' : TI} (p : PI X tg e t') (h : ∀ σ H R, t σ H R → t' σ H R) : PI X tg e t := ⟨fun pins s σ H R I q => p.run pins s σ H R I (h σ H R q)⟩
/-- what is walked stays as it is while its place in the store does -/
theorem rd_sq {K : PySem.W.Frag} {W : Addr → Prop} {L : List Addr} {H : Hp} {st : Sto} {d : D} {v : V} {ds : List D} {ns : List Nat} (S : Sim K W L H st) (r : Rp K W L H d v) (e : rdL st d = some (ds, ns)) :
    ∃ k a, v = .ref a ∧ ds.length ≤ sizeLine ∧ ∀ W2 L2 H2 st2, Sim K W2 L2 H2 st2 → Ext W L H W2 L2 H2 → keepP ns st st2 → ∃ xs, Sq K k H2 a xs ∧ Rps K W2 L2 H2 ds xs := by
  cases d with
  | tup xs =>
    cases e
    obtain ⟨a, ys, rfl, h1, h2, h3⟩ := rTup r
    exact ⟨false, a, rfl, by rw [h3.length]; exact h2, fun W2 L2 H2 st2 S2 E _ => ⟨ys, .of (E.keep a _ h1 (S.nottup (.inl h1))), h3.mono S E⟩⟩
  | kt b xs =>
    cases e
    cases b with
    | true =>
      simp only [Rp] at r
      obtain ⟨a, o, ys, rfl, h1, _, h2, h3⟩ := r
      refine ⟨false, a, rfl, by rw [h3.length]; exact h2, fun W2 L2 H2 st2 S2 E _ => ⟨ys, .inl (.inr ⟨o, E.keep a _ h1 fun m => ?_⟩), h3.mono S E⟩⟩
      have w := S.wm a (S.lw a m)
      rw [h1] at w; exact w
    | false =>
      simp only [Rp] at r
      obtain ⟨a, ys, rfl, h1, h2, h3⟩ := r
      exact ⟨false, a, rfl, by rw [h3.length]; exact h2, fun W2 L2 H2 st2 S2 E _ => ⟨ys, h1 H2, h3.mono S E⟩⟩
  | lst xs =>
    cases e
    obtain ⟨a, ys, rfl, h1, hn, h2, h3⟩ := rLst r
    exact ⟨true, a, rfl, by rw [h3.length]; exact h2, fun W2 L2 H2 st2 S2 E _ => ⟨ys, .of (E.keep a _ h1 fun m => hn (S.lw a m)), h3.mono S E⟩⟩
  | kl xs =>
    cases e
    simp only [Rp] at r
    obtain ⟨a, ys, rfl, h1, h2, h3⟩ := r
    refine ⟨true, a, rfl, by rw [h3.length]; exact h2, fun W2 L2 H2 st2 S2 E _ => ⟨ys, KL.sq (h1.to fun o h1 => E.keep a _ h1 fun m => ?_), h3.mono S E⟩⟩
    have w := S.wm a (S.lw a m)
    rw [h1] at w; exact w
  | loc n =>
    simp only [rdL] at e
    split at e
    · rename_i xs q
      cases e
      obtain ⟨a, ys, rfl, hL, h1, h2, h3⟩ := S.lst r q
      refine ⟨true, a, rfl, by rw [h3.length]; exact h2, fun W2 L2 H2 st2 S2 E kp => ?_⟩
      have q2 : st2[n]? = some (.lst ds) := by rw [kp.1]; exact q
      obtain ⟨zs, g1, _, g3⟩ := S2.ob n _ a q2 (pre_get E.pre hL)
      exact ⟨zs, .of g1, g3⟩
    · cases e
  | _ => cases e
def ItS (K : PySem.W.Frag) (k : Bool) (a : Addr) : L2.It := match k with
  | true => Itl K a
  | false => Itt K a
def iSq (K : PySem.W.Frag) (tl : TE) : TI := fun σ H R => tl σ H fun x H1 => ∃ k a xs, x = .ref a ∧ Sq K k H1 a xs ∧ R (ItS K k a) H1
theorem pi_sq {X : Cx} {tg l : Expr} {tl : TE} (hl : PE X l tl) : PI X tg l (iSq X.K tl) := by
  refine ⟨fun pins s σ H R I h => ?_⟩
  refine thn (hl.run pins s σ H _ I h) ?_
  rintro v s1 ⟨x, H1, I1, r1, k, a, xs, rfl, hq, q⟩
  cases r1
  obtain ⟨its, rv, p, hz⟩ := readSq I1 hq
  have fr : ∀ b ∈ [s1.heap.objs.size], FpOk X pins H1 b := fun b hb => by
    have e : b = s1.heap.objs.size := List.mem_singleton.mp hb
    subst e
    exact I1.fpOk (Nat.le_refl _) (I1.hok.fresh (Nat.le_refl _))
  have I2 : ∀ o : Obj, Inv X pins σ H1 { s1 with heap := s1.heap.push o } := fun o => I1.kept (t' := s1.toks) fun b ob e => Heap.get?_push_of_some _ e
  cases k with
  | true =>
    refine wpAny_pyIter_list p ?_
    exact ⟨s1.heap.objs.size, [s1.heap.objs.size], _, _, H1, rfl, I2 _, turn_list a _, ⟨_, Heap.get?_push_size _ rfl, rfl, rfl⟩, fr, q⟩
  | false =>
    refine wpAny_pyIter_tuple p ?_
    exact ⟨s1.heap.objs.size, [s1.heap.objs.size], _, _, H1, rfl, I2 _, turn_tuple a _, ⟨_, Heap.get?_push_size _ rfl, rfl, rfl⟩, fr, q⟩
theorem walk_sq {K : PySem.W.Frag} {k : Bool} {a : Addr} {n : Nat} : Walk (ItS K k a) n (fun H => ∃ xs, Sq K k H a xs ∧ xs.length = n) (fun i H x H' => H' = H ∧ ∀ xs, Sq K k H a xs → xs[i]? = some x) := by
  cases k
  · exact ⟨fun i H hi ⟨xs, q, e⟩ => ⟨xs, xs[i]'(by omega), q, by rw [List.getElem?_eq_getElem]⟩, fun H ⟨xs, q, e⟩ => ⟨xs, q, by omega⟩, fun _ _ _ _ _ _ y => y⟩
  · exact ⟨fun i H hi ⟨xs, q, e⟩ => ⟨xs, xs[i]'(by omega), q, by rw [List.getElem?_eq_getElem]⟩, fun H ⟨xs, q, e⟩ => ⟨xs, q, by omega⟩, fun _ _ _ _ _ _ y => y⟩
section
variable {X : Cx} {C : CallF} {tg : Expr}
theorem si_seq {e : Expr} {c : Ex} (p : PE X e (tE X.K C c)) : PI X tg e (tI X.K C (.seq c)) := by
  refine pi_imp (pi_sq p) fun σ H R h => ?_
  obtain ⟨W, L, st, ρ, xs, ns, st', S, e, k⟩ := h
  unfold evi at e
  split at e
  · rename_i d st1 q
    simp only [Option.map_eq_some_iff, Prod.mk.injEq] at e
    obtain ⟨⟨ds, ms⟩, rd, rfl, rfl, rfl⟩ := e
    refine .mk S q fun W1 L1 H1 v S1 E1 r1 => ?_
    obtain ⟨kk, a, rfl, z, sq⟩ := rd_sq S1.s r1 rd
    obtain ⟨ys, sy, ry⟩ := sq _ _ _ _ S1.s .refl keepP_refl
    refine ⟨kk, a, ys, rfl, sy, k W1 L1 H1 _ S1.s E1 ⟨z, ?_⟩⟩
    refine walk_sq.mono (fun H2 ⟨W2, L2, st2, S2, E2, kp⟩ => ?_) ?_
    · obtain ⟨zs, s2, r2⟩ := sq W2 L2 H2 st2 S2 E2 kp
      exact ⟨zs, s2, r2.length.symm⟩
    · rintro i H2 v H3 hi - ⟨rfl, hv⟩ W2 L2 st2 S2 E2 kp
      obtain ⟨zs, s2, r2⟩ := sq W2 L2 _ st2 S2 E2 kp
      obtain ⟨d2, hd, rd⟩ := r2.get' (hv zs s2)
      exact ⟨S2, .refl, d2, hd, rd⟩
  · cases e
theorem si_enum {e : Expr} {c : Ex} {p pos tp : Pos} {elts : List Expr} {kk : Nat} (hg : Gl X "enumerate") (hm : X.mg "enumerate" = none) (hn : nst e = true) (pe : PE X e (tE X.K C c)) : PI X (.Tuple elts kk tp) (.Call (.Name "enumerate" p) [e] [] pos) (tI X.K C (.enum c)) := by
  have pa : PA X [e] (tA X.K C (.cons c .nil)) := sa_of (⟨pe, trivial⟩ : PEs X C (.cons c .nil) [e]) (by simp [hn])
  refine pi_imp (pi_en hg hm pa (nst_at hn)) fun σ H R h => ?_
  obtain ⟨W, L, st, ρ, xs, ns, st', S, e, k⟩ := h
  unfold evi at e
  split at e
  · rename_i d st1 q
    simp only [Option.map_eq_some_iff, Prod.mk.injEq] at e
    obtain ⟨⟨ds, ms⟩, rd, rfl, rfl, rfl⟩ := e
    have q' : evs C (.cons c .nil) ρ st = some ([d], st1) := by simp only [evs, q]
    refine .mk S q' fun W1 L1 H1 vs S1 E1 r1 => ?_
    obtain ⟨v, rfl, g1⟩ := r1.one
    obtain ⟨kk, a, rfl, z, sq⟩ := rd_sq S1.s g1 rd
    obtain ⟨ys, sy, ry⟩ := sq _ _ _ _ S1.s .refl keepP_refl
    have en : ∀ (ds : List D) (n : Nat), (enumL n ds).length = ds.length ∧ ∀ i, (enumL n ds)[i]? = (ds[i]?).map fun d => D.tup [D.int ((n + i : Nat) : Int), d] := by
      intro ds
      induction ds with
      | nil => intro n; exact ⟨rfl, fun i => by simp [enumL]⟩
      | cons d ds ih =>
        intro n
        obtain ⟨i1, i2⟩ := ih (n + 1)
        refine ⟨by simp [enumL, i1], fun i => ?_⟩
        cases i with
        | zero => simp [enumL]
        | succ i =>
          simp only [enumL, List.getElem?_cons_succ, i2]
          rw [show n + 1 + i = n + (i + 1) by omega]
    refine ⟨kk, a, ys, rfl, sy, k W1 L1 H1 _ S1.s E1 ⟨by rw [(en ds 0).1]; exact z, ?_⟩⟩
    rw [(en ds 0).1]
    refine walk_en.mono (fun H2 ⟨W2, L2, st2, S2, E2, kp⟩ => ?_) ?_
    · obtain ⟨zs, s2, r2⟩ := sq W2 L2 H2 st2 S2 E2 kp
      exact ⟨zs, s2, r2.length.symm⟩
    · rintro i H2 v H3 hi - ⟨T, x, rfl, hT, rfl, hx⟩ W2 L2 st2 S2 E2 kp
      obtain ⟨zs, s2, r2⟩ := sq W2 L2 _ st2 S2 E2 kp
      obtain ⟨d2, hd, rd⟩ := r2.get' (hx zs s2)
      refine ⟨S2.new hT, S2.newE hT, .tup [.int (i : Nat), d2], by rw [(en ds 0).2, hd]; simp, ?_⟩
      simp only [Rp]
      refine ⟨T, [.int (i : Nat), x], rfl, upd_same, (by decide : 2 ≤ sizeLine), .cons mkInt (.cons (rd.mono S2 (S2.newE hT)) .nil)⟩
  · cases e
theorem rg_get {a : Int} {n i : Nat} (h : i < n) : (rangeL a n)[i]? = some (.int (a + (i : Nat))) := by
  unfold rangeL
  rw [List.getElem?_map, List.getElem?_range h]
  rfl
theorem rg_len {a : Int} {n : Nat} : (rangeL a n).length = n := by
  unfold rangeL
  rw [List.length_map, List.length_range]
theorem wk_range {K : PySem.W.Frag} {W : Addr → Prop} {L : List Addr} {H : Hp} {a : Int} {n : Nat} {st : Sto} (z : n ≤ sizeLine) : Wk K W L H (rangeL a n) [] st (Itr a n) := by
  refine ⟨by rw [rg_len]; exact z, ?_⟩
  rw [rg_len]
  refine walk_range.mono (fun _ _ => trivial) ?_
  rintro i H2 v H3 hi - ⟨rfl, rfl⟩ W2 L2 st2 S2 E2 _
  exact ⟨S2, .refl, _, rg_get hi, mkInt⟩
theorem si_range1 {a : Expr} {c : Ex} {p pos : Pos} (hg : Gl X "range") (hm : X.mg "range" = none) (hn : nst a = true) (pa : PE X a (tE X.K C c)) : PI X tg (.Call (.Name "range" p) [a] [] pos) (tI X.K C (.range (.cons c .nil))) := by
  have pp : PA X [a] (tA X.K C (.cons c .nil)) := sa_of (⟨pa, trivial⟩ : PEs X C (.cons c .nil) [a]) (by simp [hn])
  refine pi_imp (pi_range1 hg hm pp (nst_at hn)) fun σ H R h => ?_
  obtain ⟨W, L, st, ρ, xs, ns, st', S, e, k⟩ := h
  unfold evi at e
  split at e
  · rename_i ds st1 q
    simp only [Option.map_eq_some_iff, Prod.mk.injEq] at e
    obtain ⟨ys, rg, rfl, rfl, rfl⟩ := e
    refine .mk S q fun W1 L1 H1 vs S1 E1 r1 => ?_
    obtain ⟨d, q1, rfl⟩ := evs_one q
    obtain ⟨v, rfl, g1⟩ := r1.one
    cases d with
    | int j =>
      simp only [rangeD] at rg
      split at rg
      · rename_i b
        cases rg
        exact ⟨j, by rw [rInt g1], b.1, b.2.1, k W1 L1 H1 _ S1.s E1 (wk_range b.2.2)⟩
      · cases rg
    | _ => simp [rangeD] at rg
  · cases e
theorem si_range2 {a b : Expr} {c c2 : Ex} {p pos : Pos} (hg : Gl X "range") (hm : X.mg "range" = none) (hn : nst a = true) (hn2 : nst b = true) (pa : PE X a (tE X.K C c)) (pb : PE X b (tE X.K C c2)) : PI X tg (.Call (.Name "range" p) [a, b] [] pos) (tI X.K C (.range (.cons c (.cons c2 .nil)))) := by
  have pp : PA X [a, b] (tA X.K C (.cons c (.cons c2 .nil))) := sa_of (⟨pa, pb, trivial⟩ : PEs X C (.cons c (.cons c2 .nil)) [a, b]) (by simp [hn, hn2])
  refine pi_imp (pi_range2 hg hm pp (by rw [nst_at hn, nst_at hn2]; rfl) (by rw [nst_at hn2]; rfl)) fun σ H R h => ?_
  obtain ⟨W, L, st, ρ, xs, ns, st', S, e, k⟩ := h
  unfold evi at e
  split at e
  · rename_i ds st1 q
    simp only [Option.map_eq_some_iff, Prod.mk.injEq] at e
    obtain ⟨ys, rg, rfl, rfl, rfl⟩ := e
    refine .mk S q fun W1 L1 H1 vs S1 E1 r1 => ?_
    obtain ⟨d, d2, st2, q1, q2, rfl⟩ := evs_two q
    obtain ⟨v, w, rfl, g1, g2⟩ := r1.two
    cases d with
    | int i =>
      cases d2 with
      | int j =>
        simp only [rangeD] at rg
        split at rg
        · rename_i b
          cases rg
          exact ⟨i, j, by rw [rInt g1, rInt g2], ⟨b.1, b.2.1, b.2.2.1, b.2.2.2.1⟩, k W1 L1 H1 _ S1.s E1 (wk_range b.2.2.2.2)⟩
        · cases rg
      | _ => simp [rangeD] at rg
    | _ => simp [rangeD] at rg
  · cases e
theorem zip_get {xs ys : List D} {i : Nat} {x y : D} (hx : xs[i]? = some x) (hy : ys[i]? = some y) : (zipL xs ys)[i]? = some (.tup [x, y]) := by
  unfold zipL
  have h : (xs.zip ys)[i]? = some (x, y) := by rw [List.getElem?_zip_eq_some]; exact ⟨hx, hy⟩
  rw [List.getElem?_map, h]
  rfl
theorem zip3_get {xs ys zs : List D} {i : Nat} {x y z : D} (hx : xs[i]? = some x) (hy : ys[i]? = some y) (hz : zs[i]? = some z) : (zip3L xs ys zs)[i]? = some (.tup [x, y, z]) := by
  unfold zip3L
  have h : (ys.zip zs)[i]? = some (y, z) := by rw [List.getElem?_zip_eq_some]; exact ⟨hy, hz⟩
  have h2 : (xs.zip (ys.zip zs))[i]? = some (x, y, z) := by rw [List.getElem?_zip_eq_some]; exact ⟨hx, h⟩
  rw [List.getElem?_map, h2]
  rfl
theorem si_zip2 {a b : Expr} {c c2 : Ex} {p pos tp : Pos} {elts : List Expr} {kk : Nat} (hg : Gl X "zip") (hm : X.mg "zip" = none) (hn : nst a = true) (hn2 : nst b = true) (pa : PE X a (tE X.K C c)) (pb : PE X b (tE X.K C c2)) :
    PI X (.Tuple elts kk tp) (.Call (.Name "zip" p) [a, b] [] pos) (tI X.K C (.zip (.cons c (.cons c2 .nil)))) := by
  have pp : PA X [a, b] (tA X.K C (.cons c (.cons c2 .nil))) := sa_of (⟨pa, pb, trivial⟩ : PEs X C (.cons c (.cons c2 .nil)) [a, b]) (by simp [hn, hn2])
  refine pi_imp (pi_zp2 hg hm pp (nst_at hn) (nst_any (by simp [hn2]))) fun σ H R h => ?_
  obtain ⟨W, L, st, ρ, xs, ns, st', S, e, k⟩ := h
  unfold evi at e
  split at e
  · rename_i ds st1 q
    simp only [Option.map_eq_some_iff, Prod.mk.injEq] at e
    obtain ⟨⟨ys, ms⟩, zz, rfl, rfl, rfl⟩ := e
    refine .mk S q fun W1 L1 H1 vs S1 E1 r1 => ?_
    obtain ⟨d, d2, st2, q1, q2, rfl⟩ := evs_two q
    obtain ⟨v, w, rfl, g1, g2⟩ := r1.two
    simp only [zipD] at zz
    split at zz
    · rename_i us m1 ws m2 f1 f2
      cases zz
      obtain ⟨k1, a1, rfl, z1, sq1⟩ := rd_sq S1.s g1 f1
      obtain ⟨k2, a2, rfl, z2, sq2⟩ := rd_sq S1.s g2 f2
      obtain ⟨y1, s1, _⟩ := sq1 _ _ _ _ S1.s .refl keepP_refl
      obtain ⟨y2, s2, _⟩ := sq2 _ _ _ _ S1.s .refl keepP_refl
      have el : (zipL us ws).length = min us.length ws.length := by
        unfold zipL
        rw [List.length_map, List.length_zip]
      refine ⟨k1, k2, a1, a2, y1, y2, rfl, s1, s2, k W1 L1 H1 _ S1.s E1 ⟨by rw [el]; omega, ?_⟩⟩
      rw [el]
      refine walk_zp2.mono (fun H2 ⟨W2, L2, st2, S2, E2, kp⟩ => ?_) ?_
      · obtain ⟨kp1, kp2⟩ := keepP_app.mp kp
        obtain ⟨u1, q1, r1⟩ := sq1 W2 L2 H2 st2 S2 E2 kp1
        obtain ⟨u2, q2, r2⟩ := sq2 W2 L2 H2 st2 S2 E2 kp2
        exact ⟨⟨u1, q1, r1.length.symm⟩, u2, q2, r2.length.symm⟩
      · rintro i H2 v H3 hi - ⟨T, x, y, rfl, hT, rfl, hx, hy⟩ W2 L2 st2 S2 E2 kp
        obtain ⟨kp1, kp2⟩ := keepP_app.mp kp
        obtain ⟨u1, q1, r1⟩ := sq1 W2 L2 _ st2 S2 E2 kp1
        obtain ⟨u2, q2, r2⟩ := sq2 W2 L2 _ st2 S2 E2 kp2
        obtain ⟨dx, hdx, rdx⟩ := r1.get' (hx u1 q1)
        obtain ⟨dy, hdy, rdy⟩ := r2.get' (hy u2 q2)
        refine ⟨S2.new hT, S2.newE hT, .tup [dx, dy], zip_get hdx hdy, ?_⟩
        simp only [Rp]
        exact ⟨T, [x, y], rfl, upd_same, (by decide : 2 ≤ sizeLine), .cons (rdx.mono S2 (S2.newE hT)) (.cons (rdy.mono S2 (S2.newE hT)) .nil)⟩
    · cases zz
  · cases e
theorem si_zip3 {a b g : Expr} {c c2 c3 : Ex} {p pos tp : Pos} {elts : List Expr} {kk : Nat} (hg : Gl X "zip") (hm : X.mg "zip" = none) (hn : nst a = true) (hn2 : nst b = true) (hn3 : nst g = true) (pa : PE X a (tE X.K C c)) (pb : PE X b (tE X.K C c2)) (pg : PE X g (tE X.K C c3)) :
    PI X (.Tuple elts kk tp) (.Call (.Name "zip" p) [a, b, g] [] pos) (tI X.K C (.zip (.cons c (.cons c2 (.cons c3 .nil))))) := by
  have pp : PA X [a, b, g] (tA X.K C (.cons c (.cons c2 (.cons c3 .nil)))) := sa_of (⟨pa, pb, pg, trivial⟩ : PEs X C (.cons c (.cons c2 (.cons c3 .nil))) [a, b, g]) (by simp [hn, hn2, hn3])
  refine pi_imp (pi_zp3 hg hm pp (nst_at hn) (nst_any (by simp [hn2, hn3]))) fun σ H R h => ?_
  obtain ⟨W, L, st, ρ, xs, ns, st', S, e, k⟩ := h
  unfold evi at e
  split at e
  · rename_i ds st1 q
    simp only [Option.map_eq_some_iff, Prod.mk.injEq] at e
    obtain ⟨⟨ys, ms⟩, zz, rfl, rfl, rfl⟩ := e
    refine .mk S q fun W1 L1 H1 vs S1 E1 r1 => ?_
    obtain ⟨d, ds', st2, q1, q2, rfl⟩ := evs_cons q
    obtain ⟨d2, d3, st3, q3, q4, rfl⟩ := evs_two q2
    simp only [Rps] at r1
    obtain ⟨v, vs', rfl, g1, w, ws', rfl, g2, u, us', rfl, g3, rfl⟩ := r1
    simp only [zipD] at zz
    split at zz
    · rename_i us m1 ws m2 ts m3 f1 f2 f3
      cases zz
      obtain ⟨k1, a1, rfl, z1, sq1⟩ := rd_sq S1.s g1 f1
      obtain ⟨k2, a2, rfl, z2, sq2⟩ := rd_sq S1.s g2 f2
      obtain ⟨k3, a3, rfl, z3, sq3⟩ := rd_sq S1.s g3 f3
      obtain ⟨y1, s1, _⟩ := sq1 _ _ _ _ S1.s .refl keepP_refl
      obtain ⟨y2, s2, _⟩ := sq2 _ _ _ _ S1.s .refl keepP_refl
      obtain ⟨y3, s3, _⟩ := sq3 _ _ _ _ S1.s .refl keepP_refl
      have el : (zip3L us ws ts).length = min (min us.length ws.length) ts.length := by
        unfold zip3L
        rw [List.length_map, List.length_zip, List.length_zip]
        omega
      refine ⟨k1, k2, k3, a1, a2, a3, y1, y2, y3, rfl, s1, s2, s3, k W1 L1 H1 _ S1.s E1 ⟨by rw [el]; omega, ?_⟩⟩
      rw [el]
      refine walk_zp3.mono (fun H2 ⟨W2, L2, st2, S2, E2, kp⟩ => ?_) ?_
      · obtain ⟨kp1, kp23⟩ := keepP_app.mp kp
        obtain ⟨kp2, kp3⟩ := keepP_app.mp kp23
        obtain ⟨u1, q1, r1⟩ := sq1 W2 L2 H2 st2 S2 E2 kp1
        obtain ⟨u2, q2, r2⟩ := sq2 W2 L2 H2 st2 S2 E2 kp2
        obtain ⟨u3, q3, r3⟩ := sq3 W2 L2 H2 st2 S2 E2 kp3
        exact ⟨⟨u1, q1, r1.length.symm⟩, ⟨u2, q2, r2.length.symm⟩, u3, q3, r3.length.symm⟩
      · rintro i H2 v H3 hi - ⟨T, x, y, z, rfl, hT, rfl, hx, hy, hz⟩ W2 L2 st2 S2 E2 kp
        obtain ⟨kp1, kp23⟩ := keepP_app.mp kp
        obtain ⟨kp2, kp3⟩ := keepP_app.mp kp23
        obtain ⟨u1, q1, r1⟩ := sq1 W2 L2 _ st2 S2 E2 kp1
        obtain ⟨u2, q2, r2⟩ := sq2 W2 L2 _ st2 S2 E2 kp2
        obtain ⟨u3, q3, r3⟩ := sq3 W2 L2 _ st2 S2 E2 kp3
        obtain ⟨dx, hdx, rdx⟩ := r1.get' (hx u1 q1)
        obtain ⟨dy, hdy, rdy⟩ := r2.get' (hy u2 q2)
        obtain ⟨dz, hdz, rdz⟩ := r3.get' (hz u3 q3)
        refine ⟨S2.new hT, S2.newE hT, .tup [dx, dy, dz], zip3_get hdx hdy hdz, ?_⟩
        simp only [Rp]
        exact ⟨T, [x, y, z], rfl, upd_same, (by decide : 3 ≤ sizeLine), .cons (rdx.mono S2 (S2.newE hT)) (.cons (rdy.mono S2 (S2.newE hT)) (.cons (rdz.mono S2 (S2.newE hT)) .nil))⟩
    · cases zz
  · cases e
end
end Ro
end
section
set_option Elab.async false
set_option linter.all false
set_option autoImplicit false
set_option maxHeartbeats 4000000
namespace Ro
open PySem PySem.Spec PyProof.Rows L2

/-! ## Comprehensions -/
def tTs (K : PySem.W.Frag) (C : CallF) (cs : Exs) : TT := fun σ H Q => ∃ W L st ρ ds st' b, Si K W L H st ρ σ ∧ evs C cs ρ st = some (ds, st') ∧ testD st' ds = some b ∧ ∀ W' L' H', Si K W' L' H' st' ρ σ → Ext W L H W' L' H' → Q b H'
def PTz (X : Cx) (C : CallF) : Exs → List Expr → Prop
  | .nil, [] => True
  | .cons c .nil, [e] => PT X e (tT X.K C c)
  | _, _ => False
section
variable {X : Cx} {C : CallF}
theorem sts_of {cs : Exs} {es : List Expr} (p : PTz X C cs es) : PTs X es (tTs X.K C cs) := by
  match cs, es, p with
  | .nil, [], _ =>
    refine ⟨fun pins s σ H Q I h => pts_nil.run pins s σ H Q I ?_⟩
    obtain ⟨W, L, st, ρ, ds, st', b, S, e, t, k⟩ := h
    obtain ⟨rfl, rfl⟩ := evs_nil e
    simp only [testD, Option.some.injEq] at t
    subst t
    exact k W L H S .refl
  | .cons c .nil, [e], p =>
    refine ⟨fun pins s σ H Q I h => (pts_one p).run pins s σ H Q I ?_⟩
    obtain ⟨W, L, st, ρ, ds, st', b, S, e, t, k⟩ := h
    obtain ⟨x, q, rfl⟩ := evs_one e
    exact .mk S q t k
theorem wipe_get (τ : L2.St) (j : Nat) : ∀ vs : List Nat, (wipe τ vs)[j]? = if j ∈ vs then (τ[j]?).map fun _ => none else τ[j]?
  | [] => by simp [wipe]
  | v :: vs => by
    unfold wipe
    rw [List.getElem?_set, wipe_get τ j vs, wipe_length]
    by_cases e : v = j
    · subst e
      by_cases hl : v < τ.length
      · simp [hl]
      · simp [hl]
    · simp [e, Ne.symm e]
theorem wipe_wipe (τ : L2.St) (vs : List Nat) : wipe (wipe τ vs) vs = wipe τ vs := by
  refine List.ext_getElem? fun j => ?_
  rw [wipe_get, wipe_get]
  by_cases h : j ∈ vs
  · simp [h]
    rfl
  · simp [h]
/-- a comprehension's turn -/
noncomputable def cTurn (C : CallF) (ρ : Env) (own : List Nat) (t : Tg) (ifs : Exs) (e : Ex) (x : D) (st : Sto) : Option (Option D × Sto) :=
  match bindT t x (wipeE ρ own) with
  | none => none
  | some ρ' => match evs C ifs ρ' st with
    | none => none
    | some (ts, st) => match testD st ts with
      | none => none
      | some false => some (none, st)
      | some true => match ev C e ρ' st with
        | none => none
        | some (y, st) => some (some y, st)
theorem ev_comp {m : Bool} {own : List Nat} {t : Tg} {it : It} {ifs : Exs} {e : Ex} {ρ : Env} {st st' : Sto} {d : D} (h : ev C (.comp m own t it ifs e) ρ st = some (d, st')) :
    ∃ xs ns st1 ys st2, evi C it ρ st = some (xs, ns, st1) ∧ cLoop (grdC ns st1 (cTurn C ρ own t ifs e)) xs st1 = some (ys, st2) ∧ newL m ys st2 = some (d, st') := by
  unfold ev at h
  split at h
  · rename_i xs ns st1 q
    split at h
    · rename_i ys st2 q2
      exact ⟨xs, ns, st1, ys, st2, q, q2, h⟩
    · cases h
  · cases h
theorem cLoop_cons {f : D → Sto → Option (Option D × Sto)} {x : D} {xs ys : List D} {st st' : Sto} (h : cLoop f (x :: xs) st = some (ys, st')) :
    ∃ r st1 zs, f x st = some (r, st1) ∧ cLoop f xs st1 = some (zs, st') ∧ ys = (match r with | some y => y :: zs | none => zs) := by
  unfold cLoop at h
  split at h
  · cases h
  · rename_i r st1 q
    split at h
    · cases h
    · rename_i zs st2 q2
      cases h
      exact ⟨r, st1, zs, q, q2, rfl⟩
/-- what holds at a comprehension's turn -/
structure Ci (K : PySem.W.Frag) (W1 : Addr → Prop) (L1 : List Addr) (H1 : Hp) (ns : List Nat) (st1 : Sto) (D0 : Addr) (f : D → Sto → Option (Option D × Sto)) (xs ys : List D) (stE : Sto) (i : Nat) (H : Hp) (W : Addr → Prop) (L : List Addr) (st : Sto) (y1 y2 : List D) (acc : List V) : Prop where
  s : Sim K W L H st
  e : Ext W1 L1 H1 W L H
  w : W D0
  n : D0 ∉ L
  h : H D0 = some (.lst acc)
  r : Rps K W L H y1 acc
  l : cLoop f (xs.drop i) st = some (y2, stE)
  y : y1 ++ y2 = ys
  z : acc.length ≤ i
  kp : keepP ns st1 st
theorem grdC_some {ns : List Nat} {st0 st st' : Sto} {f : D → Sto → Option (Option D × Sto)} {x : D} {r : Option D} (h : grdC ns st0 f x st = some (r, st')) : f x st = some (r, st') ∧ keepP ns st0 st' := by
  unfold grdC at h
  split at h
  · split at h
    · cases h
      exact ⟨by assumption, by assumption⟩
    · cases h
  · cases h
theorem t_comp {m : Bool} {own : List Nat} {t : Tg} {it : It} {ifs : Exs} {e : Ex} (hs : ∀ i ∈ slots t, i ∈ own) : ∀ σ H Q, tE X.K C (.comp m own t it ifs e) σ H Q → tLc (tI X.K C it) (tG X.K t) (tTs X.K C ifs) (tE X.K C e) own σ H Q := by
  intro σ H Q hq
  obtain ⟨W, L, st, ρ, d, st', S, hev, k⟩ := hq
  obtain ⟨xs, ns, st1, ys, st2, q1, q2, q3⟩ := ev_comp hev
  refine ⟨W, L, st, ρ, xs, ns, st1, S, q1, fun W1 L1 H1 J S1 E1 wk D0 hD => ?_⟩
  refine lc_it wk.w (fun i Hc => ∃ W2 L2 st2' y1 y2 acc, Ci X.K W1 L1 H1 ns st1 D0 (grdC ns st1 (cTurn C ρ own t ifs e)) xs ys st2 i Hc W2 L2 st2' y1 y2 acc) ?_ ?_ ?_ ?_
  · exact ⟨putW W1 D0, L1, st1, [], ys, [], S1.side hD trivial, S1.sideE hD, .inr rfl, fun h => S1.nW hD (S1.lw _ h), upd_same, .nil, q2, rfl, Nat.le_refl _, keepP_refl⟩
  · rintro i Hc - ⟨W2, L2, st2', y1, y2, acc, c⟩
    exact ⟨W2, L2, st2', c.s, c.e, c.kp⟩
  · rintro i v Hc H' hi ⟨W2, L2, stc, y1, y2, acc, c⟩ y
    obtain ⟨S2, E2, dx, hdx, rdx⟩ := y W2 L2 stc c.s c.e c.kp
    have hdrop : xs.drop i = dx :: xs.drop (i + 1) := by
      obtain ⟨hl, he⟩ := List.getElem?_eq_some_iff.mp hdx
      rw [← he]
      exact (List.drop_eq_getElem_cons hl)
    have hl := c.l
    rw [hdrop] at hl
    obtain ⟨r, st3, zs, f0, f2, f3⟩ := cLoop_cons hl
    obtain ⟨f1, kp3⟩ := grdC_some f0
    have hD2 : H' D0 = some (.lst acc) := E2.keep _ _ c.h c.n
    have re : RE X.K W2 L2 H' ρ σ := ((S.e.mono S.s E1).mono S1 c.e).mono c.s E2
    unfold cTurn at f1
    split at f1
    · cases f1
    rename_i ρ' b
    split at f1
    · cases f1
    rename_i ts stb q5
    refine ⟨W2, L2, wipeE ρ own, dx, ρ', re.wipe own, rdx, b, fun σ2 re2 left => ?_⟩
    have wl : wipe σ2 own = wipe σ own := by
      have z := left own hs
      rw [z, wipe_wipe]
    refine ⟨wl, ?_⟩
    have hlt : acc.length < sizeLine := Nat.lt_of_le_of_lt c.z (Nat.lt_of_lt_of_le hi wk.z)
    split at f1
    · cases f1
    · rename_i tb
      cases f1
      refine ⟨W2, L2, stc, ρ', ts, st3, false, ⟨S2, re2⟩, q5, tb, fun W3 L3 H3 S3 E3 => ?_⟩
      simp only [Bool.false_eq_true, if_false]
      refine ⟨W3, L3, st3, y1, y2, acc, S3.s, (c.e.trans E2).trans E3, E3.wsup _ c.w, E3.notin hD2 c.n, E3.keep _ _ hD2 c.n, (c.r.mono c.s E2).mono S2 E3, ?_, c.y, Nat.le_succ_of_le c.z, kp3⟩
      rw [f2, f3]
    · rename_i tb
      split at f1
      · cases f1
      rename_i yd st4 q6
      cases f1
      refine ⟨W2, L2, stc, ρ', ts, stb, true, ⟨S2, re2⟩, q5, tb, fun W3 L3 H3 S3 E3 => ?_⟩
      simp only [if_true]
      refine .mk S3 q6 fun W4 L4 H4 vy S4 E4 r4 => ?_
      have n3 : D0 ∉ L3 := E3.notin hD2 c.n
      have hD3 := E3.keep _ _ hD2 c.n
      have hD4 := E4.keep _ _ hD3 n3
      have n4 : D0 ∉ L4 := E4.notin hD3 n3
      have w4 : W4 D0 := E4.wsup _ (E3.wsup _ c.w)
      refine ⟨acc, hD4, hlt, W4, L4, st3, y1 ++ [yd], zs, acc ++ [vy], S4.s.hid w4 n4 hD4 trivial, (((c.e.trans E2).trans E3).trans E4).hid hD, w4, n4, upd_same, ?_, f2, ?_, ?_, kp3⟩
      · exact Rps.hid w4 hD4 ((((c.r.mono c.s E2).mono S2 E3).mono S3.s E4).append (.cons r4 .nil))
      · rw [List.append_assoc, ← c.y, f3]
        rfl
      · rw [List.length_append]
        exact Nat.succ_le_succ c.z
  · rintro Hc ⟨W2, L2, stc, y1, y2, acc, c⟩
    have hl := c.l
    rw [List.drop_length] at hl
    unfold cLoop at hl
    simp only [Option.some.injEq, Prod.mk.injEq] at hl
    obtain ⟨rfl, rfl⟩ := hl
    have ey := c.y
    rw [List.append_nil] at ey
    subst ey
    have hz : acc.length ≤ sizeLine := Nat.le_trans c.z wk.z
    unfold newL at q3
    cases m with
    | false =>
      simp at q3
      obtain ⟨rfl, rfl⟩ := q3
      refine k (fun a => W2 a ∧ a ≠ D0) L2 Hc (.ref D0) (c.s.settle c.n) (E1.trans (c.e.settle S1 hD)) ?_
      simp only [Rp]
      exact ⟨D0, acc, rfl, c.h, fun h => h.2 rfl, hz, c.r.settle⟩
    | true =>
      simp at q3
      obtain ⟨rfl, rfl⟩ := q3
      refine k W2 (L2 ++ [D0]) Hc (.ref D0) (c.s.join c.w c.n ⟨acc, c.h, hz, c.r⟩) (E1.trans (c.e.join hD)) ?_
      simp only [Rp]
      exact ⟨D0, rfl, by rw [← c.s.len, List.getElem?_append_right (Nat.le_refl _), Nat.sub_self]; rfl⟩
end
end Ro
end
section
set_option Elab.async false
set_option linter.all false
set_option autoImplicit false
set_option maxHeartbeats 4000000
namespace Ro
open PySem PySem.Spec PyProof.Rows L2

/-! ## isinstance -/
def tyNames : List String := ["bool", "int", "str", "tuple", "list"]
theorem boot_ty : ∀ u ∈ tyNames, bootBuiltins (Str.ofString u) = some (.type u) ∧ Str.ofString u ≠ "__name__" ∧ (Str.ofString u == ("__debug__" : Str)) = false := by decide +kernel
/-- the names of types, as they are written -/
def isNames (Γ : Gam) : List String → List Expr → Bool
  | [], es => es.isEmpty
  | u :: us, es => match es with
    | .Name x _ :: es => decide (x = Str.ofString u) && decide (u ∈ tyNames) && decide (Γ.sc.names.lookup x = some .globalImplicit) && isNames Γ us es
    | _ => false
section
variable {C : CallF} {k : Nat} {Γ : Gam} {X : Cx}
theorem gl_of (x : XOk C k Γ X) {y : Str} (h : Γ.sc.names.lookup y = some .globalImplicit) : Gl X y := by
  show X.env.scope.names.lookup y = _
  rw [x.sc]
  exact h
theorem pe_ty (x : XOk C k Γ X) (hm : ∀ u ∈ tyNames, X.mg (Str.ofString u) = none) {u : String} (hu : u ∈ tyNames) {p : Pos} (hg : Γ.sc.names.lookup (Str.ofString u) = some .globalImplicit) : PE X (.Name (Str.ofString u) p) (tC (.ty u)) := by
  obtain ⟨b1, b2, b3⟩ := boot_ty u hu
  exact pe_bltn (gl_of x hg) (hm u hu) b1 rfl b2 b3
theorem pa_ty (x : XOk C k Γ X) (hm : ∀ u ∈ tyNames, X.mg (Str.ofString u) = none) : ∀ {us : List String} {es : List Expr}, isNames Γ us es = true → PA X es (fun _ H Q => Q (us.map V.ty) H) ∧ es.all nst = true ∧ ∀ u ∈ us, u ∈ tyNames
  | [], [], _ => ⟨pa_nil, rfl, fun _ h => by cases h⟩
  | [], _ :: _, h => by simp [isNames] at h
  | u :: us, es, h => by
    unfold isNames at h
    split at h
    · rename_i y p es'
      simp only [Bool.and_eq_true, decide_eq_true_eq] at h
      obtain ⟨⟨⟨rfl, hu⟩, hg⟩, h4⟩ := h
      obtain ⟨i1, i2, i3⟩ := pa_ty x hm h4
      refine ⟨pa_imp (pa_cons (pe_ty x hm hu hg) i1 rfl) fun σ H Q q => q, by simp [i2, nst], fun w hw => ?_⟩
      rcases List.mem_cons.mp hw with rfl | hw
      · exact hu
      · exact i3 w hw
    · cases h
theorem known_of {us : List String} (h : ∀ u ∈ us, u ∈ tyNames) : us.all knownTy = true := by
  rw [List.all_eq_true]
  intro u hu
  have := h u hu
  simp only [tyNames, List.mem_cons, List.not_mem_nil, or_false] at this
  rcases this with rfl | rfl | rfl | rfl | rfl <;> decide
theorem cls_tys : ∀ us : List String, Paired ClsV (us.map V.ty) (us.map Value.type)
  | [] => .nil
  | u :: us => .cons (.ty u) (cls_tys us)
theorem kit_one {K : PySem.W.Frag} {t u : String} (ht : t ∈ ["NoneType", "bool", "int", "str", "tuple", "list"]) (hu : u ∈ tyNames) : PySem.W.kitOne K (.type t) (.type u) = some (isiB t [u]) := by
  have q := kit_ty (K := K) (kit_known t ht u hu)
  rw [q]
  simp [isiB]
theorem ev_isi {ts : List String} {c : Ex} {ρ : Env} {st st' : Sto} {d : D} (h : ev C (.op (.isi ts) (.cons c .nil)) ρ st = some (d, st')) : ∃ x t, ev C c ρ st = some (x, st') ∧ tyOf st' x = some t ∧ d = .bl (isiB t ts) := by
  obtain ⟨ds, st1, q, pr⟩ := ev_op h
  obtain ⟨x, q1, rfl⟩ := evs_one q
  simp only [primD, Option.map_eq_some_iff] at pr
  obtain ⟨t, h1, h2⟩ := pr
  cases h2
  exact ⟨x, t, q1, h1, rfl⟩
theorem se_isi1 (x : XOk C k Γ X) (hm : ∀ u ∈ tyNames, X.mg (Str.ofString u) = none) (hi : Γ.sc.names.lookup ("isinstance" : Str) = some .globalImplicit) {u : String} {a : Expr} {ca : Ex} {q p pos : Pos} (pa : PE X a (tE X.K C ca)) (hn : nst a = true)
    (hu : u ∈ tyNames) (hg : Γ.sc.names.lookup (Str.ofString u) = some .globalImplicit) : PE X (.Call (.Name "isinstance" q) [a, .Name (Str.ofString u) p] [] pos) (tE X.K C (.op (.isi [u]) (.cons ca .nil))) := by
  have h2 : PA X [a, .Name (Str.ofString u) p] (tCons (tE X.K C ca) (tCons (tC (.ty u)) tNil)) := pa_cons pa (pa_cons (pe_ty x hm hu hg) pa_nil rfl) (nst_at hn)
  refine pe_imp (pe_callB call_isi (gl_of x hi) (x.blt _ (by decide)) boot_isinstance h2 (by decide) (by decide) (nst_at hn) (nst_any (by simp [nst]))) fun σ H Q h => ?_
  obtain ⟨W, L, st, ρ, d, st', S, e, k⟩ := h
  obtain ⟨y, t, q1, ty, rfl⟩ := ev_isi e
  refine .mk S q1 fun W1 L1 H1 v1 S1 E1 r1 => ?_
  obtain ⟨g1, g2⟩ := tyX_of' S1.s r1 ty
  exact ⟨v1, .ty u, .type t, .type u, isiB t [u], rfl, .ty u, g1, kit_one g2 hu, (k.ext E1).same S1.s mkBl⟩
theorem se_isiT (x : XOk C k Γ X) (hm : ∀ u ∈ tyNames, X.mg (Str.ofString u) = none) (hi : Γ.sc.names.lookup ("isinstance" : Str) = some .globalImplicit) {us : List String} {es : List Expr} {a : Expr} {ca : Ex} {q p pos : Pos} {kk : Nat} (pa : PE X a (tE X.K C ca)) (hn : nst a = true)
    (hu : isNames Γ us es = true) (hz : us.length ≤ 10) : PE X (.Call (.Name "isinstance" q) [a, .Tuple es kk p] [] pos) (tE X.K C (.op (.isi us) (.cons ca .nil))) := by
  obtain ⟨i1, i2, i3⟩ := pa_ty x hm hu
  have h2 : PA X [a, .Tuple es kk p] (tCons (tE X.K C ca) (tCons (tTup (fun _ H Q => Q (us.map V.ty) H)) tNil)) := pa_cons pa (pa_cons (pe_tup i1) pa_nil rfl) (nst_at hn)
  refine pe_imp (pe_callB call_isiT (gl_of x hi) (x.blt _ (by decide)) boot_isinstance h2 (by decide) (by decide) (nst_at hn) (nst_any (by simp [nst]))) fun σ H Q h => ?_
  obtain ⟨W, L, st, ρ, d, st', S, e, k⟩ := h
  obtain ⟨y, t, q1, ty, rfl⟩ := ev_isi e
  refine .mk S q1 fun W1 L1 H1 v1 S1 E1 r1 => ⟨by rw [List.length_map]; exact Nat.le_trans hz (by decide), fun tp hp => ?_⟩
  have r2 := r1.mono S1.s (S1.s.newE (o := .tup (us.map V.ty)) hp)
  obtain ⟨g1, g2⟩ := tyX_of' (S1.s.new hp) r2 ty
  exact ⟨v1, tp, us.map V.ty, .type t, us.map Value.type, isiB t us, rfl, upd_same, cls_tys us, g1, kitAny_known g2 us (known_of i3), (k.ext (E1.trans (S1.s.newE hp))).same (S1.s.new hp) mkBl⟩
end
/-! ## A chain as a test -/
section
variable {X : Cx} {C : CallF} {a b c : Expr} {ca cb cc : Ex} {o1 o2 : CmpOp} {pos : Pos}
theorem st_chain (hu : X.A.units + 64 < cLine) (pa : PE X a (tE X.K C ca)) (pb : PE X b (tE X.K C cb)) (pc : PE X c (tE X.K C cc)) (hm : lastMarks [o1, o2] [b, c] = false) :
    PT X (.Compare a [o1, o2] [b, c] pos) (tT X.K C (.chain o1 o2 ca cb cc)) := by
  refine pt_imp (pt_chain (op_cmp o1 hu) (op_cmp o2 hu) pa pb pc hm) fun σ H Q h => ?_
  obtain ⟨W, L, st, ρ, d, st', b, S, e, t, k⟩ := h
  have w : tE X.K C (.chain o1 o2 ca cb cc) σ H fun x H' => ∃ k, x = .bl k ∧ Q k H' := by
    refine .mk S e fun W1 L1 H1 v1 S1 E1 r1 => ?_
    obtain ⟨c, rfl⟩ := chain_bl e
    simp only [truth, Option.some.injEq] at t
    subst t
    exact ⟨c, rBl r1, k W1 L1 H1 S1.s E1⟩
  exact t_chain _ _ _ w
end
end Ro
end
section
set_option Elab.async false
set_option linter.all false
set_option autoImplicit false
set_option maxHeartbeats 4000000
namespace Ro
open PySem PySem.Spec PyProof.Rows L2

/-! ## The check of an expression -/
def gloB (Γ : Gam) (x : Str) : Bool := decide (Γ.sc.names.lookup x = some .globalImplicit)
def visB (Γ : Gam) (x : Str) : Bool := match Γ.sc.names.lookup x with
  | some .local => true
  | some .cell => true
  | some .free => true
  | _ => false
/-- the name of a built-in function or type, how many arguments (0: any) -/
def bltOf : Pr → Option (Str × Nat)
  | .len => some ("len", 1)
  | .all => some ("all", 1)
  | .any => some ("any", 1)
  | .tuple _ => some ("tuple", 1)
  | .list _ => some ("list", 1)
  | .int => some ("int", 1)
  | .abs => some ("abs", 1)
  | .min2 => some ("min", 2)
  | .max2 => some ("max", 2)
  | .min1 => some ("min", 1)
  | .max1 => some ("max", 1)
  | .sum => some ("sum", 1)
  | .sorted _ => some ("sorted", 1)
  | _ => none
/-- what an operation is applied to -/
def opV (Γ : Gam) (p : Pr) (e : Expr) : Option (List Expr) :=
  match p with
  | .bin o => match e with
    | .BinOp a o' b _ => if o = o' then some [a, b] else none
    | _ => none
  | .cmp o => match e with
    | .Compare a [o'] [b] _ => if o = o' ∧ behindInMarks o' b = false then some [a, b] else none
    | _ => none
  | .cat => match e with
    | .BinOp a .Add b _ => some [a, b]
    | _ => none
  | .neg => match e with
    | .UnaryOp .USub a _ => some [a]
    | _ => none
  | .tup => match e with
    | .Tuple es _ _ => some es
    | _ => none
  | .lst _ => match e with
    | .List es _ => some es
    | _ => none
  | .sub => match e with
    | .Subscript a b _ => if nsl b = true then some [a, b] else none
    | _ => none
  | .dnk => match e with
    | .Dict [] [] _ => some []
    | _ => none
  | .dnt => match e with
    | .Dict [] [] _ => some []
    | _ => none
  | .isi ts => match e with
    | .Call (.Name x _) [a, .Name y q] [] _ => match ts with
      | [u] => if x = ("isinstance" : Str) ∧ gloB Γ x = true ∧ isNames Γ [u] [.Name y q] = true then some [a] else none
      | _ => none
    | .Call (.Name x _) [a, .Tuple es _ _] [] _ => if x = ("isinstance" : Str) ∧ gloB Γ x = true ∧ isNames Γ ts es = true ∧ ts.length ≤ 10 then some [a] else none
    | _ => none
  | p => match e with
    | .Call (.Name x _) (a :: as) [] _ => match bltOf p with
      | some (y, n) => if x = y ∧ gloB Γ x = true ∧ as.length + 1 = n then some (a :: as) else none
      | none => none
    | _ => none
def methOf : Pr → Option Str
  | .append => some "append"
  | .extend => some "extend"
  | .popi => some "pop"
  | .index => some "index"
  | .count => some "count"
  | _ => none
def cstB (d : D) (k : Const) : Bool :=
  match d, k with
  | .non, .none => true
  | .bl b, .bool c => b == c
  | .int i, .int j => decide (i = j)
  | .str s, .str t => decide (s = t)
  | _, _ => false
mutual
def beqD : D → D → Bool
  | .int i, .int j => decide (i = j)
  | .str s, .str t => decide (s = t)
  | .bl b, .bl c => b == c
  | .non, .non => true
  | .kt false xs, .kt false ys => beqDs xs ys
  | _, _ => false
def beqDs : List D → List D → Bool
  | [], [] => true
  | x :: xs, y :: ys => beqD x y && beqDs xs ys
  | _, _ => false
end
def nset : Expr → Bool
  | .Set _ _ _ => false
  | _ => true
def isTup : Expr → Bool
  | .Tuple _ _ _ => true
  | _ => false
def ownP (Γ : Gam) (own : List Nat) : List (Str × Nat) := own.map fun i => ((Γ.N[i]?).getD default, i)
def Gam.blk (Γ : Gam) (scope : Scope) : Gam := { Γ with sc := relS scope Γ.sc, fn := fun x => scope.names.lookup x == some .cell }
mutual
def chkE (Γ : Gam) : Ex → Expr → Bool
  | .cst d, e => match e with
    | .Constant k _ _ => cstB d k
    | _ => false
  | .glob x d, e => match e with
    | .Name y _ => decide (x = y) && gloB Γ y && (!(y == ("__debug__" : Str))) && Γ.gl.any fun p => decide (p.1 = y) && beqD p.2 d
    | _ => false
  | .var i, e => match e with
    | .Name y _ => decide (Γ.N[i]? = some y) && visB Γ y && (!(y == ("__debug__" : Str))) && !(y == ("__classdict__" : Str))
    | _ => false
  | .op p es, e => match opV Γ p e with
    | some as => chkEs Γ es as
    | none => false
  | .chain o1 o2 a b c, e => match e with
    | .Compare x [p1, p2] [y, z] _ => decide (o1 = p1) && decide (o2 = p2) && (!lastMarks [p1, p2] [y, z]) && chkE Γ a x && chkE Γ b y && chkE Γ c z
    | _ => false
  | .and a b, e => match e with
    | .BoolOp .And (x :: y :: r) p => chkE Γ a x && (match r with
      | [] => chkE Γ b y
      | z :: r => chkE Γ b (.BoolOp .And (y :: z :: r) p))
    | _ => false
  | .or a b, e => match e with
    | .BoolOp .Or (x :: y :: r) p => chkE Γ a x && (match r with
      | [] => chkE Γ b y
      | z :: r => chkE Γ b (.BoolOp .Or (y :: z :: r) p))
    | _ => false
  | .not a, e => match e with
    | .UnaryOp .Not x _ => chkE Γ a x
    | _ => false
  | .ite c a b, e => match e with
    | .IfExp z x y _ => chkE Γ c z && chkE Γ a x && chkE Γ b y
    | _ => false
  | .slice a lo hi, e => match e with
    | .Subscript x (.Slice l h none _) _ => chkE Γ a x && chkEs Γ lo l.toList && chkEs Γ hi h.toList
    | _ => false
  | .call f es, e => match e with
    | .Call (.Name x _) as [] _ => decide ((Γ.Tb[f]?).map (·.name) = some x) && gloB Γ x && (!(x == ("__debug__" : Str))) && chkEs Γ es as
    | _ => false
  | .meth p o es, e => match e with
    | .Call (.Attribute x nm apos) (a :: as) [] pos => decide (methOf p = some nm) && nca x && (apos.endLine == pos.line) && decide ((a :: as).length < 30) && chkE Γ o x && chkEs Γ es (a :: as)
    | _ => false
  | .comp m own t it ifs c, e => match e with
    | .ListComp elt [⟨tg, iter, ifs', 0⟩] scope _ => blkC Γ.N Γ.sc scope (ownP Γ own) && (slots t).all (fun i => decide (i ∈ own)) && nset iter && chkI Γ it tg iter && chkG (Γ.blk scope) t tg && decide (ifs'.length < 2) && chkEs (Γ.blk scope) ifs ifs' && chkE (Γ.blk scope) c elt
    | _ => false
def chkEs (Γ : Gam) : Exs → List Expr → Bool
  | .nil, as => as.isEmpty
  | .cons c cs, as => match as with
    | a :: as => nst a && chkE Γ c a && chkEs Γ cs as
    | [] => false
def chkI (Γ : Gam) : It → Expr → Expr → Bool
  | .seq c, _, e => chkE Γ c e
  | .range cs, _, e => match e with
    | .Call (.Name x _) as [] _ => decide (x = ("range" : Str)) && gloB Γ x && (decide (as.length = 1) || decide (as.length = 2)) && chkEs Γ cs as
    | _ => false
  | .enum c, tg, e => match e with
    | .Call (.Name x _) [a] [] _ => isTup tg && decide (x = ("enumerate" : Str)) && gloB Γ x && nst a && chkE Γ c a
    | _ => false
  | .zip cs, tg, e => match e with
    | .Call (.Name x _) as [] _ => isTup tg && decide (x = ("zip" : Str)) && gloB Γ x && (decide (as.length = 2) || decide (as.length = 3)) && chkEs Γ cs as
    | _ => false
end
end Ro
end
section
set_option Elab.async false
set_option linter.all false
set_option autoImplicit false
set_option maxHeartbeats 4000000
namespace Ro
open PySem PySem.Spec PyProof.Rows L2

/-! ## The check is sound -/
structure Snd (X : Cx) (C : CallF) (c : Ex) (e : Expr) : Prop where
  pe : PE X e (tE X.K C c)
  pt : PT X e (tT X.K C c)
  pw : ∀ op es p, e = .BoolOp op es p → PW X e (tT X.K C c)
def Sns (X : Cx) (C : CallF) : Exs → List Expr → Prop
  | .nil, [] => True
  | .cons c cs, e :: es => Snd X C c e ∧ nst e = true ∧ Sns X C cs es
  | .nil, _ :: _ => False
  | .cons _ _, [] => False
section
variable {C : CallF} {k : Nat} {Γ : Gam} {X : Cx}
theorem sns_pes : ∀ {cs : Exs} {es : List Expr}, Sns X C cs es → PEs X C cs es ∧ es.all nst = true
  | .nil, [], _ => ⟨trivial, rfl⟩
  | .cons c cs, e :: es, h => by
    obtain ⟨h1, h2, h3⟩ := h
    obtain ⟨i1, i2⟩ := sns_pes h3
    exact ⟨⟨h1.pe, i1⟩, by rw [List.all_cons, h2, i2]; rfl⟩
  | .nil, _ :: _, h => h.elim
  | .cons _ _, [], h => h.elim
theorem sns_two {cs : Exs} {a b : Expr} (h : Sns X C cs [a, b]) : ∃ ca cb, cs = .cons ca (.cons cb .nil) ∧ Snd X C ca a ∧ Snd X C cb b ∧ nst a = true ∧ nst b = true := by
  match cs, h with
  | .cons ca (.cons cb .nil), ⟨h1, n1, h2, n2, _⟩ => exact ⟨ca, cb, rfl, h1, h2, n1, n2⟩
  | .cons ca (.cons cb (.cons _ _)), ⟨h1, n1, h2, n2, h⟩ => exact h.elim
theorem sns_one {cs : Exs} {a : Expr} (h : Sns X C cs [a]) : ∃ ca, cs = .cons ca .nil ∧ Snd X C ca a ∧ nst a = true := by
  match cs, h with
  | .cons ca .nil, ⟨h1, n1, _⟩ => exact ⟨ca, rfl, h1, n1⟩
  | .cons ca (.cons cb _), ⟨h1, n1, h⟩ => exact h.elim
theorem sns_three {cs : Exs} {a b c : Expr} (h : Sns X C cs [a, b, c]) : ∃ ca cb cc, cs = .cons ca (.cons cb (.cons cc .nil)) ∧ Snd X C ca a ∧ Snd X C cb b ∧ Snd X C cc c ∧ nst a = true ∧ nst b = true ∧ nst c = true := by
  match cs, h with
  | .cons ca (.cons cb (.cons cc .nil)), ⟨h1, n1, h2, n2, h3, n3, _⟩ => exact ⟨ca, cb, cc, rfl, h1, h2, h3, n1, n2, n3⟩
  | .cons ca (.cons cb (.cons cc (.cons _ _))), ⟨h1, n1, h2, n2, h3, n3, h⟩ => exact h.elim
theorem sns_nil {cs : Exs} (h : Sns X C cs []) : cs = .nil := by
  match cs, h with
  | .nil, _ => rfl
theorem gl_B (x : XOk C k Γ X) {y : Str} (h : gloB Γ y = true) : Gl X y := gl_of x (of_decide_eq_true h)
theorem ndb {y : Str} (h : (!(y == ("__debug__" : Str))) = true) : (y == ("__debug__" : Str)) = false := by
  cases q : (y == ("__debug__" : Str)) with
  | false => rfl
  | true => rw [q] at h; cases h
theorem ncd {y : Str} (h : (!(y == ("__classdict__" : Str))) = true) : (y == ("__classdict__" : Str)) = false := by
  cases q : (y == ("__classdict__" : Str)) with
  | false => rfl
  | true => rw [q] at h; cases h
theorem tys_free (x : XOk C k Γ X) : ∀ u ∈ tyNames, X.mg (Str.ofString u) = none := fun u hu =>
  x.blt _ ((by decide : ∀ u ∈ tyNames, Str.ofString u ∈ bltNames) u hu)
theorem hu1 (x : XOk C k Γ X) : X.A.units + 1 < cLine := by
  have := x.hu
  omega
/-- calls of built-ins -/
theorem blt_snd (x : XOk C k Γ X) {p : Pr} {y : Str} {n : Nat} (hp : bltOf p = some (y, n)) {a : Expr} {as : List Expr} {cs : Exs} {q pos : Pos} (hg : gloB Γ y = true) (hs : Sns X C cs (a :: as)) :
    PE X (.Call (.Name y q) (a :: as) [] pos) (tE X.K C (.op p cs)) := by
  obtain ⟨pe, hn⟩ := sns_pes hs
  have pa := sa_of pe hn
  have g := gl_B x hg
  cases p <;> simp only [bltOf, Option.some.injEq, Prod.mk.injEq, reduceCtorEq] at hp <;> obtain ⟨rfl, rfl⟩ := hp
  · exact se_blt cr_len g (x.blt _ (by decide)) boot_len (by decide) (by decide) pa hn
  · exact se_blt (cr_allP x.calm) g (x.blt _ (by decide)) PyProof.Rows.boot_all (by decide) (by decide) pa hn
  · exact se_blt (cr_anyP x.calm) g (x.blt _ (by decide)) PyProof.Rows.boot_any (by decide) (by decide) pa hn
  · exact se_typ (cr_tuple _) g (x.blt _ (by decide)) (boot_ty "tuple" (by decide)).1 (by decide) (by decide) pa hn
  · exact se_typ (cr_list _) g (x.blt _ (by decide)) (boot_ty "list" (by decide)).1 (by decide) (by decide) pa hn
  · exact se_typ cr_int g (x.blt _ (by decide)) (boot_ty "int" (by decide)).1 (by decide) (by decide) pa hn
  · exact se_blt cr_abs g (x.blt _ (by decide)) boot_abs (by decide) (by decide) pa hn
  · exact se_blt (cr_min2 x.calm) g (x.blt _ (by decide)) boot_min (by decide) (by decide) pa hn
  · exact se_blt (cr_max2 x.calm) g (x.blt _ (by decide)) boot_max (by decide) (by decide) pa hn
  · exact se_blt (cr_min1 x.calm) g (x.blt _ (by decide)) boot_min (by decide) (by decide) pa hn
  · exact se_blt (cr_max1 x.calm) g (x.blt _ (by decide)) boot_max (by decide) (by decide) pa hn
  · exact se_blt (cr_sumP x.calm) g (x.blt _ (by decide)) boot_sum (by decide) (by decide) pa hn
  · exact se_blt (cr_sortedP _) g (x.blt _ (by decide)) boot_sorted (by decide) (by decide) pa hn
/-- a form whose test is its truth -/
def plainT : Expr → Bool
  | .UnaryOp .Not _ _ => false
  | .BoolOp _ _ _ => false
  | .IfExp _ _ _ _ => false
  | .Compare _ _ _ _ => false
  | _ => true
theorem plain_is {e : Expr} (h : plainT e = true) : ∀ whole, isTrue e X.env whole = (do let v ← whole; standAt e.pos; holding [v] (truthy v)) := by
  intro whole
  cases e <;> first
    | rfl
    | (simp [plainT] at h; done)
    | skip
  rename_i op a p
  cases op <;> first
    | rfl
    | (simp [plainT] at h; done)
theorem snd_plain {c : Ex} {e : Expr} (p : PE X e (tE X.K C c)) (h : plainT e = true) : Snd X C c e :=
  ⟨p, st_plain p (plain_is h), fun op es q z => by subst z; cases h⟩
theorem op_snd (x : XOk C k Γ X) {p : Pr} {e : Expr} {as : List Expr} {cs : Exs} (h : opV Γ p e = some as) (hs : Sns X C cs as) : Snd X C (.op p cs) e := by
  cases p
  case bin o =>
    cases e <;> simp only [opV, reduceCtorEq] at h
    split at h
    · rename_i a o' b pos ho
      cases h
      subst ho
      obtain ⟨ca, cb, rfl, s1, s2, n1, n2⟩ := sns_two hs
      exact snd_plain (se_bin s1.pe s2.pe) rfl
    · cases h
  case cmp o =>
    simp only [opV] at h
    split at h
    · rename_i a o' b pos
      split at h
      · rename_i ho
        cases h
        obtain ⟨rfl, hb⟩ := ho
        obtain ⟨ca, cb, rfl, s1, s2, n1, n2⟩ := sns_two hs
        exact ⟨se_cmp x.hu s1.pe s2.pe hb, st_cmp x.hu s1.pe s2.pe hb, fun _ _ _ z => by cases z⟩
      · cases h
    · cases h
  case cat =>
    simp only [opV] at h
    split at h
    · cases h
      obtain ⟨ca, cb, rfl, s1, s2, n1, n2⟩ := sns_two hs
      exact snd_plain (se_cat s1.pe s2.pe) rfl
    · cases h
  case neg =>
    simp only [opV] at h
    split at h
    · cases h
      obtain ⟨ca, rfl, s1, n1⟩ := sns_one hs
      exact snd_plain (se_neg s1.pe) rfl
    · cases h
  case tup =>
    simp only [opV] at h
    split at h
    · cases h
      obtain ⟨pe, hn⟩ := sns_pes hs
      exact snd_plain (se_tup (sa_of pe hn)) rfl
    · cases h
  case lst m =>
    simp only [opV] at h
    split at h
    · cases h
      obtain ⟨pe, hn⟩ := sns_pes hs
      exact snd_plain (se_lst (sa_of pe hn)) rfl
    · cases h
  case sub =>
    simp only [opV] at h
    split at h
    · split at h
      · rename_i hb
        cases h
        obtain ⟨ca, cb, rfl, s1, s2, n1, n2⟩ := sns_two hs
        exact snd_plain (se_sub (hu1 x) s1.pe s2.pe hb) rfl
      · cases h
    · cases h
  case dnk =>
    simp only [opV] at h
    split at h
    · cases h
      cases sns_nil hs
      exact snd_plain se_dnk rfl
    · cases h
  case dnt =>
    simp only [opV] at h
    split at h
    · cases h
      cases sns_nil hs
      exact snd_plain se_dnt rfl
    · cases h
  case isi ts =>
    simp only [opV] at h
    split at h
    · rename_i y q a z q2 pos
      split at h
      · rename_i u
        split at h
        · rename_i hh
          obtain ⟨rfl, hg, hi⟩ := hh
          cases h
          obtain ⟨ca, rfl, s1, n1⟩ := sns_one hs
          simp only [isNames, Bool.and_eq_true, decide_eq_true_eq, List.isEmpty_nil, and_true] at hi
          obtain ⟨⟨rfl, hu⟩, hz⟩ := hi
          exact snd_plain (se_isi1 x (tys_free x) (of_decide_eq_true hg) s1.pe n1 hu hz) rfl
        · cases h
      · cases h
    · split at h
      · rename_i hh
        obtain ⟨rfl, hg, hi, hz⟩ := hh
        cases h
        obtain ⟨ca, rfl, s1, n1⟩ := sns_one hs
        exact snd_plain (se_isiT x (tys_free x) (of_decide_eq_true hg) s1.pe n1 hi hz) rfl
      · cases h
    · cases h
  all_goals
    simp only [opV] at h
    split at h
    · rename_i y q a as' pos
      split at h
      · rename_i y2 n hb
        split at h
        · rename_i hh
          obtain ⟨rfl, hg, hn⟩ := hh
          cases h
          exact snd_plain (blt_snd x hb hg hs) rfl
        · cases h
      · cases h
    · cases h
/-- within a block -/
theorem xok_blk (x : XOk C k Γ X) {s : Shared} {H : Hp} {scope : Scope} {cl : List (Str × Addr)} {ca : Addr} {fp : List Addr} : XOk C k (Γ.blk scope) (X.blk s H scope (compEnvC scope cl ca X.env) fp) where
  N := x.N
  sc := by
    show relS scope X.env.scope = relS scope Γ.sc
    rw [x.sc]
  fn := rfl
  nd := x.nd
  calm := x.calm
  hu := x.hu
  room := x.room
  blt := x.blt
  len := x.len
  call := x.call
  glo := x.glo
mutual
theorem beq_rp {K : PySem.W.Frag} {W : Addr → Prop} {L : List Addr} {H : Hp} {v : V} : ∀ {d e : D}, beqD d e = true → Rp K W L H d v → Rp K W L H e v
  | .int i, .int j, h, r => by simp only [beqD, decide_eq_true_eq] at h; subst h; exact r
  | .str i, .str j, h, r => by simp only [beqD, decide_eq_true_eq] at h; subst h; exact r
  | .bl i, .bl j, h, r => by simp only [beqD, beq_iff_eq] at h; subst h; exact r
  | .non, .non, _, r => r
  | .kt false xs, .kt false ys, h, r => by
    simp only [beqD] at h
    simp only [Rp] at r ⊢
    obtain ⟨a, zs, e, q, z, rs⟩ := r
    exact ⟨a, zs, e, q, z, beqs_rp h rs⟩
theorem beqs_rp {K : PySem.W.Frag} {W : Addr → Prop} {L : List Addr} {H : Hp} : ∀ {ds es : List D} {vs : List V}, beqDs ds es = true → Rps K W L H ds vs → Rps K W L H es vs
  | [], [], _, _, r => r
  | d :: ds, e :: es, vs, h, r => by
    simp only [beqDs, Bool.and_eq_true] at h
    simp only [Rps] at r ⊢
    obtain ⟨y, ys, e1, r1, r2⟩ := r
    exact ⟨y, ys, e1, beq_rp h.1 r1, beqs_rp h.2 r2⟩
  | [], _ :: _, _, h, _ => by simp [beqDs] at h
  | _ :: _, [], _, h, _ => by simp [beqDs] at h
end
theorem fold_nset {e : Expr} {env : PySem.Env} (h : nset e = true) : ∀ v, foldedSetIterable e env v = pure v := by
  intro v
  cases e <;> first
    | rfl
    | cases h
theorem vis_B {y : Str} (x : XOk C k Γ X) (h : visB Γ y = true) : Vis X.env.scope y := by
  rw [x.sc]
  unfold visB at h
  unfold Vis
  split at h
  · rename_i q; exact .inl q
  · rename_i q; exact .inr (.inl q)
  · rename_i q; exact .inr (.inr q)
  · cases h
theorem ownP_snd (own : List Nat) : (ownP Γ own).map (·.2) = own := by
  unfold ownP
  rw [List.map_map]
  exact List.map_id'' (fun _ => rfl) own
theorem peo_of {cs : Exs} {o : Option Expr} (h : Sns X C cs o.toList) : PEo X C cs o := by
  cases o with
  | none => cases sns_nil h; trivial
  | some e =>
    obtain ⟨c, rfl, s, _⟩ := sns_one h
    exact s.pe
theorem ptz_of {cs : Exs} {es : List Expr} (h : Sns X C cs es) (hl : es.length < 2) : PTz X C cs es := by
  match es, h, hl with
  | [], h, _ => cases sns_nil h; trivial
  | [e], h, _ =>
    obtain ⟨c, rfl, s, _⟩ := sns_one h
    exact s.pt
  | _ :: _ :: _, _, hl => exact absurd hl (by simp)
end
end Ro
end
section
set_option Elab.async false
set_option linter.all false
set_option autoImplicit false
set_option maxHeartbeats 4000000
namespace Ro
open PySem PySem.Spec PyProof.Rows L2

theorem cst_snd {X : Cx} {C : CallF} {d : D} {kk : Const} {n : Nat} {pos : Pos} (h : cstB d kk = true) : Snd X C (.cst d) (.Constant kk n pos) := by
  cases d <;> cases kk <;> simp only [cstB, Bool.false_eq_true, decide_eq_true_eq, beq_iff_eq] at h
  · exact snd_plain (se_const pe_non (fun _ _ _ => mkNon) fun _ _ => by simp only [ev]) rfl
  · subst h
    exact snd_plain (se_const pe_bl (fun _ _ _ => mkBl) fun _ _ => by simp only [ev]) rfl
  · subst h
    exact snd_plain (se_const pe_int (fun _ _ _ => mkInt) fun _ _ => by simp only [ev]) rfl
  · subst h
    exact snd_plain (se_const pe_str (fun _ _ _ => mkStr) fun _ _ => by simp only [ev]) rfl
theorem comp_snd {C : CallF} {k : Nat} {Γ : Gam} {X : Cx} (x : XOk C k Γ X) {m : Bool} {own : List Nat} {t : Tg} {it : It} {ifs : Exs} {c : Ex} {elt tg iter : Expr} {ifs' : List Expr} {scope : Scope} {pos : Pos}
    (hb : blkC Γ.N Γ.sc scope (ownP Γ own) = true) (hs : (slots t).all (fun i => decide (i ∈ own)) = true) (hn : nset iter = true) (hi : PI X tg iter (tI X.K C it)) (hg : chkG (Γ.blk scope) t tg = true) (hl : ifs'.length < 2)
    (hf : ∀ X', X'.K = X.K → XOk C k (Γ.blk scope) X' → Sns X' C ifs ifs') (he : ∀ X', X'.K = X.K → XOk C k (Γ.blk scope) X' → Snd X' C c elt) : Snd X C (.comp m own t it ifs c) (.ListComp elt [⟨tg, iter, ifs', 0⟩] scope pos) := by
  have hown : ∀ i ∈ slots t, i ∈ own := fun i h => of_decide_eq_true (List.all_eq_true.mp hs i h)
  have ok : BlkOk X.N X.env.scope scope (ownP Γ own) := by
    rw [x.N, x.sc]
    exact blkOk_by hb
  have q := pe_lc (pos := pos) (tt := tTs X.K C ifs) (te := tE X.K C c) (g := tG X.K t) x.calm (by rw [x.N]; exact x.nd) hi ok
    (fun s H Ca cl fp => sg_of (xok_blk x) hg)
    (fun s H Ca cl fp => sts_of (X := X.blk s H scope (compEnvC scope cl Ca X.env) fp) (ptz_of (hf _ rfl (xok_blk x)) hl))
    (fun s H Ca cl fp => (he (X.blk s H scope (compEnvC scope cl Ca X.env) fp) rfl (xok_blk x)).pe) (fold_nset hn)
  rw [ownP_snd] at q
  exact snd_plain (pe_imp q (t_comp hown)) rfl
mutual
theorem snd {C : CallF} {k : Nat} : ∀ (c : Ex) (e : Expr) (Γ : Gam) (X : Cx), XOk C k Γ X → chkE Γ c e = true → Snd X C c e
  | .cst d, e, Γ, X, x, h => by
    cases e <;> simp only [chkE, Bool.false_eq_true] at h
    exact cst_snd h
  | .glob y d, e, Γ, X, x, h => by
    cases e <;> simp only [chkE, Bool.false_eq_true, Bool.and_eq_true, decide_eq_true_eq, List.any_eq_true] at h
    obtain ⟨⟨⟨rfl, h2⟩, h3⟩, p, hp, hq, hb⟩ := h
    subst hq
    obtain ⟨v, u, m1, r1, r2⟩ := x.glo p hp
    exact snd_plain (se_const (pe_glob (gl_B x h2) m1 r1 (ndb h3)) (fun W L H => beq_rp hb (r2 W L H)) fun _ _ => by simp only [ev]) rfl
  | .var i, e, Γ, X, x, h => by
    cases e <;> simp only [chkE, Bool.false_eq_true, Bool.and_eq_true, decide_eq_true_eq] at h
    obtain ⟨⟨⟨h1, h2⟩, h3⟩, h4⟩ := h
    exact snd_plain (se_var (by rw [x.N]; exact h1) (vis_B x h2) (ndb h3) (ncd h4)) rfl
  | .op p es, e, Γ, X, x, h => by
    simp only [chkE] at h
    split at h
    · rename_i as q
      exact op_snd x q (snds es as Γ X x h)
    · cases h
  | .chain o1 o2 a b c, e, Γ, X, x, h => by
    unfold chkE at h
    split at h
    · rename_i u p1 p2 v w pos
      simp only [Bool.and_eq_true, decide_eq_true_eq] at h
      obtain ⟨⟨⟨⟨⟨rfl, rfl⟩, h3⟩, h4⟩, h5⟩, h6⟩ := h
      have hm : lastMarks [o1, o2] [v, w] = false := by
        cases q : lastMarks [o1, o2] [v, w] with
        | false => rfl
        | true => rw [q] at h3; cases h3
      have sa := snd a u Γ X x h4
      have sb := snd b v Γ X x h5
      have sc := snd c w Γ X x h6
      exact ⟨se_chain x.hu sa.pe sb.pe sc.pe hm, st_chain x.hu sa.pe sb.pe sc.pe hm, fun _ _ _ z => by cases z⟩
    · cases h
  | .and a b, e, Γ, X, x, h => by
    unfold chkE at h
    split at h
    · rename_i u v r pos
      simp only [Bool.and_eq_true] at h
      obtain ⟨h1, h2⟩ := h
      have sa := snd a u Γ X x h1
      split at h2
      · have sb := snd b v Γ X x h2
        have w := sw_and (pos := pos) sa.pt (pw_and1 (pos := pos) sb.pt)
        exact ⟨se_and sa.pe (pe_one sb.pe), w.pt, fun op es p z => by cases z; exact w⟩
      · rename_i z r
        have sb := snd b (.BoolOp .And (v :: z :: r) pos) Γ X x h2
        have w := sw_and (pos := pos) sa.pt (sb.pw _ _ _ rfl)
        exact ⟨se_and sa.pe sb.pe, w.pt, fun op es p z => by cases z; exact w⟩
    · cases h
  | .or a b, e, Γ, X, x, h => by
    unfold chkE at h
    split at h
    · rename_i u v r pos
      simp only [Bool.and_eq_true] at h
      obtain ⟨h1, h2⟩ := h
      have sa := snd a u Γ X x h1
      split at h2
      · have sb := snd b v Γ X x h2
        have w := sw_or (pos := pos) sa.pt (pw_or1 (pos := pos) sb.pt)
        exact ⟨se_or sa.pe (pe_one sb.pe), w.pt, fun op es p z => by cases z; exact w⟩
      · rename_i z r
        have sb := snd b (.BoolOp .Or (v :: z :: r) pos) Γ X x h2
        have w := sw_or (pos := pos) sa.pt (sb.pw _ _ _ rfl)
        exact ⟨se_or sa.pe sb.pe, w.pt, fun op es p z => by cases z; exact w⟩
    · cases h
  | .not a, e, Γ, X, x, h => by
    unfold chkE at h
    split at h
    · rename_i u pos
      have sa := snd a u Γ X x h
      exact ⟨se_not sa.pe, st_not sa.pt, fun _ _ _ z => by cases z⟩
    · cases h
  | .ite c a b, e, Γ, X, x, h => by
    unfold chkE at h
    split at h
    · rename_i w u v pos
      simp only [Bool.and_eq_true] at h
      obtain ⟨⟨h1, h2⟩, h3⟩ := h
      have sc := snd c w Γ X x h1
      have sa := snd a u Γ X x h2
      have sb := snd b v Γ X x h3
      exact ⟨se_ite sc.pt sa.pe sb.pe, st_ite sc.pt sa.pt sb.pt, fun _ _ _ z => by cases z⟩
    · cases h
  | .slice a lo hi, e, Γ, X, x, h => by
    unfold chkE at h
    split at h
    · rename_i u l hh p2 pos
      simp only [Bool.and_eq_true] at h
      obtain ⟨⟨h1, h2⟩, h3⟩ := h
      have sa := snd a u Γ X x h1
      exact snd_plain (se_slice sa.pe (peo_of (snds lo _ Γ X x h2)) (peo_of (snds hi _ Γ X x h3))) rfl
    · cases h
  | .call f es, e, Γ, X, x, h => by
    unfold chkE at h
    split at h
    · rename_i y q as pos
      simp only [Bool.and_eq_true, decide_eq_true_eq, Option.map_eq_some_iff] at h
      obtain ⟨⟨⟨⟨q0, hq, rfl⟩, h2⟩, h3⟩, h4⟩ := h
      obtain ⟨a, fd, ps, F, m1, m2, m3⟩ := x.call f q0 hq
      obtain ⟨pe, hn⟩ := sns_pes (snds es as Γ X x h4)
      refine snd_plain (se_call (fun ds st d st' hc => ?_) F x.room (gl_B x h2) m1 m2 m3 (ndb h3) pe hn) rfl
      obtain ⟨q1, g1, g2⟩ := x.len f ds st d st' hc
      rw [hq] at g1
      cases g1
      exact g2
    · cases h
  | .meth p o es, e, Γ, X, x, h => by
    unfold chkE at h
    split at h
    · rename_i u nm apos a as pos
      simp only [Bool.and_eq_true, decide_eq_true_eq] at h
      obtain ⟨⟨⟨⟨⟨h1, h2⟩, h3⟩, h4⟩, h5⟩, h6⟩ := h
      have so := snd o u Γ X x h5
      obtain ⟨pe, hn⟩ := sns_pes (snds es _ Γ X x h6)
      have pa := sa_of pe hn
      have hl : decide ((a :: as).length < 30) = true := decide_eq_true h4
      cases p <;> simp only [methOf, Option.some.injEq, reduceCtorEq] at h1 <;> subst h1
      · exact snd_plain (se_meth PySem.F.slot_list_append (by rw [typeOf]; rfl) mt_appendP (fun _ _ z => z) so.pe pa hn hl h2 h3) rfl
      · exact snd_plain (se_meth PySem.F.slot_list_extend (by rw [typeOf]; rfl) mt_extendP (fun _ _ z => z) so.pe pa hn hl h2 h3) rfl
      · exact snd_plain (se_meth PySem.F.slot_list_pop (by rw [typeOf]; rfl) mt_popiP (fun _ _ z => z) so.pe pa hn hl h2 h3) rfl
      · exact snd_plain (se_meth PySem.F.slot_list_index (by rw [typeOf]; rfl) mt_indexP (fun _ _ z => z) so.pe pa hn hl h2 h3) rfl
      · exact snd_plain (se_count so.pe pa hn hl h2 h3) rfl
    · cases h
  | .comp m own t it ifs c, e, Γ, X, x, h => by
    unfold chkE at h
    split at h
    · rename_i elt tg iter ifs' scope pos
      simp only [Bool.and_eq_true, decide_eq_true_eq] at h
      obtain ⟨⟨⟨⟨⟨⟨⟨h1, h2⟩, h3⟩, h4⟩, h5⟩, h6⟩, h7⟩, h8⟩ := h
      exact comp_snd x h1 h2 h3 (sndi it tg iter Γ X x h4) h5 h6 (fun X' _ x' => snds ifs ifs' _ X' x' h7) (fun X' _ x' => snd c elt _ X' x' h8)
    · cases h
theorem snds {C : CallF} {k : Nat} : ∀ (cs : Exs) (es : List Expr) (Γ : Gam) (X : Cx), XOk C k Γ X → chkEs Γ cs es = true → Sns X C cs es
  | .nil, es, Γ, X, x, h => by
    cases es with
    | nil => exact trivial
    | cons _ _ => simp [chkEs] at h
  | .cons c cs, es, Γ, X, x, h => by
    cases es with
    | nil => simp [chkEs] at h
    | cons e es =>
      simp only [chkEs, Bool.and_eq_true] at h
      exact ⟨snd c e Γ X x h.1.2, h.1.1, snds cs es Γ X x h.2⟩
theorem sndi {C : CallF} {k : Nat} : ∀ (it : It) (tg iter : Expr) (Γ : Gam) (X : Cx), XOk C k Γ X → chkI Γ it tg iter = true → PI X tg iter (tI X.K C it)
  | .seq c, tg, e, Γ, X, x, h => by
    simp only [chkI] at h
    exact si_seq (snd c e Γ X x h).pe
  | .range cs, tg, e, Γ, X, x, h => by
    unfold chkI at h
    split at h
    · rename_i y q as pos
      simp only [Bool.and_eq_true, decide_eq_true_eq, Bool.or_eq_true] at h
      obtain ⟨⟨⟨rfl, h2⟩, h3⟩, h4⟩ := h
      have ss := snds cs as Γ X x h4
      have g := gl_B x h2
      have m := x.blt ("range" : Str) (by decide)
      rcases h3 with h3 | h3
      · match as, h3, ss with
        | [a], _, ss =>
          obtain ⟨c, rfl, s, n⟩ := sns_one ss
          exact si_range1 g m n s.pe
      · match as, h3, ss with
        | [a, b], _, ss =>
          obtain ⟨c, c2, rfl, s, s2, n, n2⟩ := sns_two ss
          exact si_range2 g m n n2 s.pe s2.pe
    · cases h
  | .enum c, tg, e, Γ, X, x, h => by
    unfold chkI at h
    split at h
    · rename_i y q a pos
      simp only [Bool.and_eq_true, decide_eq_true_eq] at h
      obtain ⟨⟨⟨⟨h1, rfl⟩, h2⟩, h3⟩, h4⟩ := h
      have g := gl_B x h2
      have m := x.blt ("enumerate" : Str) (by decide)
      have s := snd c a Γ X x h4
      cases tg <;> simp only [isTup, Bool.false_eq_true] at h1
      exact si_enum g m h3 s.pe
    · cases h
  | .zip cs, tg, e, Γ, X, x, h => by
    unfold chkI at h
    split at h
    · rename_i y q as pos
      simp only [Bool.and_eq_true, decide_eq_true_eq, Bool.or_eq_true] at h
      obtain ⟨⟨⟨⟨h1, rfl⟩, h2⟩, h3⟩, h4⟩ := h
      have ss := snds cs as Γ X x h4
      have g := gl_B x h2
      have m := x.blt ("zip" : Str) (by decide)
      cases tg <;> simp only [isTup, Bool.false_eq_true] at h1
      rcases h3 with h3 | h3
      · match as, h3, ss with
        | [a, b], _, ss =>
          obtain ⟨c, c2, rfl, s, s2, n, n2⟩ := sns_two ss
          exact si_zip2 g m n n2 s.pe s2.pe
      · match as, h3, ss with
        | [a, b, d], _, ss =>
          obtain ⟨c, c2, c3, rfl, s, s2, s3, n, n2, n3⟩ := sns_three ss
          exact si_zip3 g m n n2 n3 s.pe s2.pe s3.pe
    · cases h
end
end Ro
end
section
set_option Elab.async false
set_option linter.all false
set_option autoImplicit false
set_option maxHeartbeats 4000000
namespace Ro
open PySem PySem.Spec PyProof.Rows L2

/-! ## The store back to its first b places -/
section
variable {K : PySem.W.Frag} {W W' W2 : Addr → Prop} {L L' L2' : List Addr} {H H' H2 : Hp} {st st' : Sto}
mutual
/-- data of the walk names places of the store only -/
theorem rp_below : ∀ {d : D} {x : V}, Rp K W L H d x → below L.length d = true
  | .non, _, _ => rfl
  | .bl _, _, _ => rfl
  | .int _, _, _ => rfl
  | .str _, _, _ => rfl
  | .tup ds, _, h => by
    simp only [Rp] at h
    obtain ⟨a, xs, e, q, z, r⟩ := h
    unfold below; exact rps_below r
  | .kl ds, _, h => by
    simp only [Rp] at h
    obtain ⟨a, xs, e, q, z, r⟩ := h
    unfold below; exact rps_below r
  | .kt true ds, _, h => by
    simp only [Rp] at h
    obtain ⟨a, o, xs, e, q, dn, z, r⟩ := h
    unfold below; exact rps_below r
  | .kt false ds, _, h => by
    simp only [Rp] at h
    obtain ⟨a, xs, e, q, z, r⟩ := h
    unfold below; exact rps_below r
  | .lst ds, _, h => by
    simp only [Rp] at h
    obtain ⟨a, xs, e, q, n, z, r⟩ := h
    unfold below; exact rps_below r
  | .loc n, _, h => by
    simp only [Rp] at h
    obtain ⟨a, e, q⟩ := h
    simp only [below, decide_eq_true_eq]
    exact (List.getElem?_eq_some_iff.mp q).1
  | .dk ks vs, _, h => by
    simp only [Rp] at h
    obtain ⟨a, kvs, e, q, n, z, r⟩ := h
    unfold below; exact rps_below r
  | .dt ks vs, _, h => by
    simp only [Rp] at h
    obtain ⟨a, kvs, e, q, n, z, r⟩ := h
    unfold below; exact rps_below r
theorem rps_below : ∀ {ds : List D} {xs : List V}, Rps K W L H ds xs → belowL L.length ds = true
  | [], _, _ => rfl
  | d :: ds, _, h => by
    simp only [Rps] at h
    obtain ⟨y, ys, e, h1, h2⟩ := h
    simp only [belowL, Bool.and_eq_true]
    exact ⟨rp_below h1, rps_below h2⟩
end
mutual
theorem Rp.cut {b : Nat} (sub : ∀ a, W' a → W a) : ∀ {d : D} {x : V}, below b d = true → Rp K W L H d x → Rp K W' (L.take b) H d x
  | .non, _, _, h => by simp only [Rp] at h ⊢; exact h
  | .bl _, _, _, h => by simp only [Rp] at h ⊢; exact h
  | .int _, _, _, h => by simp only [Rp] at h ⊢; exact h
  | .str _, _, _, h => by simp only [Rp] at h ⊢; exact h
  | .tup ds, _, l, h => by
    simp only [below] at l
    simp only [Rp] at h ⊢
    obtain ⟨a, xs, e, q, z, r⟩ := h
    exact ⟨a, xs, e, q, z, Rps.cut sub l r⟩
  | .kl ds, _, l, h => by
    simp only [below] at l
    simp only [Rp] at h ⊢
    obtain ⟨a, xs, e, q, z, r⟩ := h
    exact ⟨a, xs, e, q, z, Rps.cut sub l r⟩
  | .kt true ds, _, l, h => by
    simp only [below] at l
    simp only [Rp] at h ⊢
    obtain ⟨a, o, xs, e, q, dn, z, r⟩ := h
    exact ⟨a, o, xs, e, q, dn, z, Rps.cut sub l r⟩
  | .kt false ds, _, l, h => by
    simp only [below] at l
    simp only [Rp] at h ⊢
    obtain ⟨a, xs, e, q, z, r⟩ := h
    exact ⟨a, xs, e, q, z, Rps.cut sub l r⟩
  | .lst ds, _, l, h => by
    simp only [below] at l
    simp only [Rp] at h ⊢
    obtain ⟨a, xs, e, q, n, z, r⟩ := h
    exact ⟨a, xs, e, q, fun w => n (sub a w), z, Rps.cut sub l r⟩
  | .loc n, _, l, h => by
    simp only [below, decide_eq_true_eq] at l
    simp only [Rp] at h ⊢
    obtain ⟨a, e, q⟩ := h
    exact ⟨a, e, by rw [List.getElem?_take, if_pos l]; exact q⟩
  | .dk ks vs, _, l, h => by
    simp only [below] at l
    simp only [Rp] at h ⊢
    obtain ⟨a, kvs, e, q, n, z, r⟩ := h
    exact ⟨a, kvs, e, q, fun w => n (sub a w), z, Rps.cut sub l r⟩
  | .dt ks vs, _, l, h => by
    simp only [below] at l
    simp only [Rp] at h ⊢
    obtain ⟨a, kvs, e, q, n, z, r⟩ := h
    exact ⟨a, kvs, e, q, fun w => n (sub a w), z, Rps.cut sub l r⟩
theorem Rps.cut {b : Nat} (sub : ∀ a, W' a → W a) : ∀ {ds : List D} {xs : List V}, belowL b ds = true → Rps K W L H ds xs → Rps K W' (L.take b) H ds xs
  | [], _, _, h => by simp only [Rps] at h ⊢; exact h
  | d :: ds, _, l, h => by
    simp only [belowL, Bool.and_eq_true] at l
    simp only [Rps] at h ⊢
    obtain ⟨y, ys, e, h1, h2⟩ := h
    exact ⟨y, ys, e, Rp.cut sub l.1 h1, Rps.cut sub l.2 h2⟩
end
/-- without the places from b on -/
def cutW (W : Addr → Prop) (L : List Addr) (b : Nat) : Addr → Prop := fun a => W a ∧ a ∉ L.drop b
theorem RpO.cut {b : Nat} (sub : ∀ a, W' a → W a) {o : Ob} {h : Option HO} (l : belowO b o = true) (r : RpO K W L H o h) : RpO K W' (L.take b) H o h := by
  cases o with
  | lst ds => obtain ⟨xs, e, z, q⟩ := r; exact ⟨xs, e, z, q.cut sub l⟩
  | dk kvs => obtain ⟨xs, e, z, q⟩ := r; exact ⟨xs, e, z, q.cut sub l⟩
  | dt kvs => obtain ⟨xs, e, z, q⟩ := r; exact ⟨xs, e, z, q.cut sub l⟩
  | ins C fs => obtain ⟨Ca, dx, xs, e, z, q⟩ := r; exact ⟨Ca, dx, xs, e, z, q.cut sub l⟩
theorem rpO_below {o : Ob} {h : Option HO} (r : RpO K W L H o h) : belowO L.length o = true := by
  cases o with
  | lst ds => obtain ⟨xs, e, z, q⟩ := r; exact rps_below q
  | dk kvs => obtain ⟨xs, e, z, q⟩ := r; exact rps_below q
  | dt kvs => obtain ⟨xs, e, z, q⟩ := r; exact rps_below q
  | ins C fs => obtain ⟨Ca, dx, xs, e, z, q⟩ := r; exact rps_below q
theorem take_pre (E : Ext W L H W' L' H') : L'.take L.length = L := by
  obtain ⟨t, e⟩ := E.pre
  rw [← e, List.take_append_of_le_length (Nat.le_refl _), List.take_length]
theorem drop_new (S' : Sim K W' L' H' st') (E : Ext W L H W' L' H') {a : Addr} (h : a ∈ L'.drop L.length) : H a = none := by
  obtain ⟨t, e⟩ := E.pre
  have hm : a ∈ L' := List.mem_of_mem_drop h
  rcases E.lsub a hm with q | q
  · have nd := S'.nd
    rw [← e] at nd h
    rw [List.drop_append_of_le_length (Nat.le_refl _), List.drop_length, List.nil_append] at h
    rw [List.nodup_append] at nd
    exact absurd rfl (nd.2.2 a q a h)
  · exact q
theorem Sim.cut (S : Sim K W L H st) (S' : Sim K W' L' H' st') (E : Ext W L H W' L' H') (g : gcOk st.length st st') : Sim K (cutW W' L' st.length) L H' (st'.take st.length) := by
  have hl : L'.take st.length = L := by rw [← S.len]; exact take_pre E
  have sub : ∀ a, cutW W' L' st.length a → W' a := fun a h => h.1
  refine ⟨fun a h => S'.wm a h.1, fun a h => ⟨E.wsup a (S.lw a h), fun z => ?_⟩, S.nd, ?_, fun n o a h1 h2 => ?_⟩
  · rw [← S.len] at z
    have q := drop_new S' E z
    have w := S.wm a (S.lw a h)
    rw [q] at w
    exact w
  · rw [List.length_take, Nat.min_eq_left g.1, S.len]
  · have hn : n < st.length := by rw [← S.len]; exact (List.getElem?_eq_some_iff.mp h2).1
    rw [List.getElem?_take, if_pos hn] at h1
    have h2' : L'[n]? = some a := pre_get E.pre h2
    have r := S'.ob n o a h1 h2'
    have bl : belowO st.length o = true := by
      rcases g.2 n hn with q | ⟨o', q, q2⟩
      · rw [h1] at q
        rw [← S.len]
        exact rpO_below (S.ob n o a q.symm h2)
      · rw [h1] at q
        cases q
        exact q2
    have := r.cut (b := st.length) sub bl
    rw [hl] at this
    exact this
theorem Ext.cut (S : Sim K W L H st) (S' : Sim K W' L' H' st') (E : Ext W L H W' L' H') : Ext W L H (cutW W' L' st.length) L H' :=
  ⟨E.keep, E.grow, fun a h => E.wsub a h.1, fun a h => ⟨E.wsup a h, fun z => by
    rw [← S.len] at z
    have q := drop_new S' E z
    exact S.nW q h⟩, fun a h => .inl h, List.prefix_refl _⟩
mutual
theorem rp_fz (S' : Sim K W' L' H' st') {b : Nat} : ∀ {d e : D} {x : V}, fzD st' b d = some e → Rp K W' L' H' d x → Rp K (cutW W' L' b) (L'.take b) H' e x
  | .non, e, x, h, r => by simp only [fzD, Option.some.injEq] at h; subst h; exact r.cut (fun _ h => h.1) rfl
  | .bl c, e, x, h, r => by simp only [fzD, Option.some.injEq] at h; subst h; exact r.cut (fun _ h => h.1) rfl
  | .int i, e, x, h, r => by simp only [fzD, Option.some.injEq] at h; subst h; exact r.cut (fun _ h => h.1) rfl
  | .str i, e, x, h, r => by simp only [fzD, Option.some.injEq] at h; subst h; exact r.cut (fun _ h => h.1) rfl
  | .kt c xs, e, x, h, r => by
    unfold fzD at h
    split at h
    · rename_i l
      cases h
      exact r.cut (fun _ h => h.1) (by simpa only [below] using l)
    · cases h
  | .kl xs, e, x, h, r => by
    unfold fzD at h
    split at h
    · rename_i l
      cases h
      exact r.cut (fun _ h => h.1) (by simpa only [below] using l)
    · cases h
  | .dk ks vs, e, x, h, r => by
    unfold fzD at h
    split at h
    · rename_i l
      cases h
      exact r.cut (fun _ h => h.1) (by simpa only [below] using l)
    · cases h
  | .dt ks vs, e, x, h, r => by
    unfold fzD at h
    split at h
    · rename_i l
      cases h
      exact r.cut (fun _ h => h.1) (by simpa only [below] using l)
    · cases h
  | .tup xs, e, x, h, r => by
    simp only [fzD, Option.map_eq_some_iff] at h
    obtain ⟨ys, h1, rfl⟩ := h
    simp only [Rp] at r ⊢
    obtain ⟨a, zs, e, q, z, rs⟩ := r
    exact ⟨a, zs, e, q, z, rps_fz S' h1 rs⟩
  | .lst xs, e, x, h, r => by
    simp only [fzD, Option.map_eq_some_iff] at h
    obtain ⟨ys, h1, rfl⟩ := h
    simp only [Rp] at r ⊢
    obtain ⟨a, zs, e, q, n, z, rs⟩ := r
    exact ⟨a, zs, e, q, fun w => n w.1, z, rps_fz S' h1 rs⟩
  | .loc n, e, x, h, r => by
    unfold fzD at h
    split at h
    · rename_i l
      cases h
      exact r.cut (fun _ h => h.1) (by simpa only [below, decide_eq_true_eq] using l)
    · rename_i l
      split at h
      · rename_i xs q
        split at h
        · rename_i bl
          cases h
          obtain ⟨a, ys, rfl, hL, h1, h2, h3⟩ := S'.lst r q
          simp only [Rp]
          refine ⟨a, ys, rfl, h1, fun w => w.2 ?_, h2, h3.cut (fun _ h => h.1) bl⟩
          refine List.mem_of_getElem? (i := n - b) ?_
          rw [List.getElem?_drop, show b + (n - b) = n by omega]
          exact hL
        · cases h
      · cases h
theorem rps_fz (S' : Sim K W' L' H' st') {b : Nat} : ∀ {ds es : List D} {xs : List V}, fzL st' b ds = some es → Rps K W' L' H' ds xs → Rps K (cutW W' L' b) (L'.take b) H' es xs
  | [], es, xs, h, r => by
    simp only [fzL, Option.some.injEq] at h
    subst h
    simp only [Rps] at r ⊢
    exact r
  | d :: ds, es, xs, h, r => by
    unfold fzL at h
    split at h
    · rename_i e es' q1 q2
      cases h
      simp only [Rps] at r ⊢
      obtain ⟨y, ys, e1, r1, r2⟩ := r
      exact ⟨y, ys, e1, rp_fz S' q1 r1, rps_fz S' q2 r2⟩
    · cases h
end
theorem fzE_get {b : Nat} : ∀ {ρ ρ' : Env}, fzE st' b ρ = some ρ' → ρ'.length = ρ.length ∧ ∀ (i : Nat) (e : D), ρ'[i]? = some (some e) → ∃ d, ρ[i]? = some (some d) ∧ fzD st' b d = some e
  | [], ρ', h => by
    simp only [fzE, Option.some.injEq] at h
    subst h
    exact ⟨rfl, fun i e h => by simp at h⟩
  | none :: r, ρ', h => by
    simp only [fzE, Option.map_eq_some_iff] at h
    obtain ⟨r', h1, rfl⟩ := h
    obtain ⟨i1, i2⟩ := fzE_get h1
    refine ⟨by rw [List.length_cons, List.length_cons, i1], fun i e q => ?_⟩
    cases i with
    | zero => simp at q
    | succ i => simpa using i2 i e (by simpa using q)
  | some d :: r, ρ', h => by
    unfold fzE at h
    split at h
    · rename_i e' es q1 q2
      cases h
      obtain ⟨i1, i2⟩ := fzE_get q2
      refine ⟨by rw [List.length_cons, List.length_cons, i1], fun i e q => ?_⟩
      cases i with
      | zero =>
        simp only [List.getElem?_cons_zero, Option.some.injEq] at q
        subst q
        exact ⟨d, rfl, q1⟩
      | succ i => simpa using i2 i e (by simpa using q)
    · cases h
theorem Si.cut {ρ ρ' : Env} {σ : L2.St} (S : Sim K W L H st) (S' : Si K W' L' H' st' ρ σ) (E : Ext W L H W' L' H') (g : gcOk st.length st st') (f : fzE st' st.length ρ = some ρ') : Si K (cutW W' L' st.length) L H' (st'.take st.length) ρ' σ := by
  obtain ⟨f1, f2⟩ := fzE_get f
  have hl : L'.take st.length = L := by rw [← S.len]; exact take_pre E
  refine ⟨S.cut S'.s E g, by rw [f1]; exact S'.e.1, fun i e q => ?_⟩
  obtain ⟨d, q1, q2⟩ := f2 i e q
  obtain ⟨v, v1, r⟩ := S'.e.2 i d q1
  have := rp_fz S'.s q2 r
  rw [hl] at this
  exact ⟨v, v1, this⟩
/-- a loop's turn, frozen or not -/
theorem cutE_si {fz : Bool} {ρ ρ2 : Env} {st2 : Sto} {σ : L2.St} (S : Sim K W L H st) (S' : Si K W' L' H' st' ρ σ) (E : Ext W L H W' L' H') (c : cutE fz st ρ st' = some (ρ2, st2)) : ∃ W3 L3, Si K W3 L3 H' st2 ρ2 σ ∧ Ext W L H W3 L3 H' := by
  unfold cutE at c
  cases fz with
  | false =>
    simp at c
    obtain ⟨rfl, rfl⟩ := c
    exact ⟨W', L', S', E⟩
  | true =>
    simp only [if_true] at c
    split at c
    · rename_i ρ3 f
      split at c
      · rename_i g
        cases c
        exact ⟨_, _, S'.cut S E g f, E.cut S S'.s⟩
      · cases c
    · cases c
end
end Ro
end
section
set_option Elab.async false
set_option linter.all false
set_option autoImplicit false
set_option maxHeartbeats 4000000
namespace Ro
open PySem PySem.Spec PyProof.Rows L2

/-! ## Which stores are swapped -/
def locN (sc : Scope) : Expr → Bool
  | .Name id _ => decide (sc.names.lookup id = some .local)
  | _ => false
theorem fm_short {α β : Type} {f : α → Option β} : ∀ {l : List α}, (l.any fun a => (f a).isNone) = true → (l.filterMap f).length < l.length
  | [], h => by simp at h
  | a :: l, h => by
    rw [List.any_cons, Bool.or_eq_true] at h
    rw [List.filterMap_cons]
    rcases h with h | h
    · cases q : f a with
      | none => exact Nat.lt_succ_of_le (List.length_filterMap_le _ _)
      | some b => rw [q] at h; cases h
    · have ih := fm_short h
      cases q : f a with
      | none => exact Nat.lt_succ_of_lt ih
      | some b => exact Nat.succ_lt_succ ih
theorem st_not1 {a : Expr} : (match a with | .Starred .. => true | _ => false) = true → nst a = true → False := by
  intro h na
  cases a <;> first
    | (simp at h; done)
    | (simp [nst] at na; done)
theorem sw_par2 {env : PySem.Env} {x y : Str} {px py pt pt2 : Pos} {kt k2 : Nat} {a b : Expr} (hk : env.scope.kind = .function) (hx : env.scope.names.lookup x = some .local) (hy : env.scope.names.lookup y = some .local) (hl : px.line = py.line) (hxy : x ≠ y)
    (na : nst a = true) (nb : nst b = true) (hf : [a, b].all (foldedForSure 8) = false) (hc : [a, b].all (constantsAlone 8) = false) :
    swappedStores [.Tuple [.Name x px, .Name y py] kt pt] (.Tuple [a, b] k2 pt2) env = pure (some [x, y]) := by
  have hbk : env.blockKind = .function := by unfold PySem.Env.blockKind; rw [hk]; rfl
  have e1 : env.kindOf x = some .local := hx
  have e2 : env.kindOf y = some .local := hy
  have ln : Expr.pos (.Name x px) = px := rfl
  have hxy2 : (x == y) = false := by simpa using hxy
  have hyx2 : (y == x) = false := by simpa using (Ne.symm hxy)
  unfold swappedStores
  simp only [hbk, hf, hc, List.length_cons, List.length_nil, List.filterMap_cons, List.filterMap_nil, e1, e2, List.head?_cons, Option.map_some, Option.getD_some, ln]
  simp [hl, List.eraseDups_cons, hyx2]
  intro h
  exfalso
  rcases h with h | h
  · exact st_not1 h na
  · exact st_not1 h nb
theorem sw_par3 {env : PySem.Env} {x y z : Str} {px py pz pt pt2 : Pos} {kt k2 : Nat} {a b c : Expr} (hk : env.scope.kind = .function) (hx : env.scope.names.lookup x = some .local) (hy : env.scope.names.lookup y = some .local) (hz : env.scope.names.lookup z = some .local)
    (hl : px.line = py.line) (hl2 : px.line = pz.line) (hxy : x ≠ y) (hxz : x ≠ z) (hyz : y ≠ z)
    (na : nst a = true) (nb : nst b = true) (nc : nst c = true) (hf : [a, b, c].all (foldedForSure 8) = false) (hc : [a, b, c].all (constantsAlone 8) = false) :
    swappedStores [.Tuple [.Name x px, .Name y py, .Name z pz] kt pt] (.Tuple [a, b, c] k2 pt2) env = pure (some [x, y, z]) := by
  have hbk : env.blockKind = .function := by unfold PySem.Env.blockKind; rw [hk]; rfl
  have e1 : env.kindOf x = some .local := hx
  have e2 : env.kindOf y = some .local := hy
  have e3 : env.kindOf z = some .local := hz
  have ln : Expr.pos (.Name x px) = px := rfl
  have hyx2 : (y == x) = false := by simpa using (Ne.symm hxy)
  have hzx2 : (z == x) = false := by simpa using (Ne.symm hxz)
  have hzy2 : (z == y) = false := by simpa using (Ne.symm hyz)
  have l1 : (Expr.pos (.Name y py)).line = (Expr.pos (.Name x px)).line := hl.symm
  have l2 : (Expr.pos (.Name z pz)).line = (Expr.pos (.Name x px)).line := hl2.symm
  have c1 : (py.line == px.line) = true := by simp [hl]
  have c2 : (pz.line == px.line) = true := by simp [hl2]
  unfold swappedStores
  simp only [hbk, hf, hc, List.length_cons, List.length_nil, List.filterMap_cons, List.filterMap_nil, e1, e2, e3, List.head?_cons, Option.map_some, Option.getD_some, ln, c1, c2]
  simp [List.eraseDups_cons, hyx2, hzx2, hzy2]
  intro h
  exfalso
  rcases h with h | h | h
  · exact st_not1 h na
  · exact st_not1 h nb
  · exact st_not1 h nc
/-- one by one -/
def swN (Γ : Gam) (tg e : Expr) : Bool :=
  match tg, e with
  | .Tuple ts _ _, .Tuple vs _ _ => (decide (ts.length ≠ 2) && decide (ts.length ≠ 3)) || ts.any (fun t => !locN Γ.sc t) || vs.all (foldedForSure 8)
  | .List _ _, _ => false
  | _, _ => true
theorem sw_none {Γ : Gam} {env : PySem.Env} (hs : env.scope = Γ.sc) {tg e : Expr} (h : swN Γ tg e = true) : swappedStores [tg] e env = pure none := by
  unfold swN at h
  split at h
  · rename_i ts k p vs k2 p2
    simp only [Bool.or_eq_true, Bool.and_eq_true, decide_eq_true_eq] at h
    unfold swappedStores
    simp only []
    split
    · rfl
    rename_i g1
    split
    · rfl
    split
    · rfl
    rename_i g3
    split
    · rfl
    rename_i g4
    exfalso
    rcases h with (h | h) | h
    · simp only [Bool.or_eq_true, not_or, Bool.not_eq_true, Bool.not_eq_false', beq_iff_eq] at g1
      have := g1.1.1
      simp [h.1, h.2] at this
    · have q : ∀ (ln : Nat), (ts.any fun t => (match t with | .Name id pos => if (env.kindOf id == some .local && pos.line == ln) = true then some id else none | _ => none : Option Str).isNone) = true := fun ln => by
        rw [List.any_eq_true] at h ⊢
        obtain ⟨t, ht, h⟩ := h
        refine ⟨t, ht, ?_⟩
        cases t <;> first | rfl | skip
        rename_i id pos
        simp only [locN, Bool.not_eq_true', decide_eq_false_iff_not] at h
        have e : (env.kindOf id == some .local) = false := by
          rw [beq_eq_false_iff_ne]
          intro z
          exact h (by rw [← hs]; exact z)
        simp [e]
      have w := fm_short (q ((ts.head?.map (·.pos.line)).getD 0))
      simp only [Bool.or_eq_true, not_or, bne_iff_ne, ne_eq, Decidable.not_not] at g3
      exact absurd g3.1 (Nat.ne_of_lt w)
    · exact absurd h g4
  · cases h
  · rename_i h1 h2
    cases tg <;> first
      | rfl
      | exact absurd rfl (h1 _ _)
      | skip
    cases e <;> first
      | rfl
      | exact absurd rfl (h2 _ _ _ _ _ _ rfl)
/-- a comprehension, stored under a name on its own line -/
def swW (Γ : Gam) (tg e : Expr) : Bool :=
  match e with
  | .ListComp _ _ s pos => match tg with
    | .Name t p => decide (Γ.sc.names.lookup t = some .local) && (p.line == pos.line) && !(s.names.any fun (n, k) => n == t && (k == .local || k == .cell))
    | _ => false
  | _ => false
def nsc : Expr → Bool
  | .SetComp _ _ _ _ => false
  | .DictComp _ _ _ _ _ => false
  | _ => true
theorem sw_with {Γ : Gam} {env : PySem.Env} (hs : env.scope = Γ.sc) (hk : Γ.sc.kind = .function) {tg e : Expr} {l : Nat} (hn : nsc e = true) : swapsWith e (some tg) l env = pure (swW Γ tg e) := by
  have hbk : env.blockKind = .function := by unfold PySem.Env.blockKind; rw [hs, hk]; rfl
  cases e <;> first
    | rfl
    | (simp [nsc] at hn; done)
    | skip
  rename_i elt gs s pos
  cases tg <;> first
    | rfl
    | skip
  rename_i t p
  unfold swapsWith
  simp only [hbk, swW]
  have e : (env.kindOf t == some .local) = decide (Γ.sc.names.lookup t = some .local) := by
    unfold PySem.Env.kindOf
    rw [hs]
    by_cases z : Γ.sc.names.lookup t = some .local
    · simp [z]
    · simp [z]
  rw [e]
  rfl
end Ro
end
section
set_option Elab.async false
set_option linter.all false
set_option autoImplicit false
set_option maxHeartbeats 4000000
namespace Ro
open PySem PySem.Spec PyProof.Rows L2

/-! ## Statements -/
def KtS (K : PySem.W.Frag) (W : Addr → Prop) (L : List Addr) (H : Hp) (fl : Fl) (D : Ends) : Prop :=
  match fl with
  | .nx ρ' st' => ∀ W' L' H' σ', Si K W' L' H' st' ρ' σ' → Ext W L H W' L' H' → D.nx σ' H'
  | .ret d st' => ∀ W' L' H' v, Sim K W' L' H' st' → Ext W L H W' L' H' → Rp K W' L' H' d v → D.rt v H'
  | .bk ρ' st' => ∀ W' L' H' σ', Si K W' L' H' st' ρ' σ' → Ext W L H W' L' H' → D.bk σ' H'
  | .ct ρ' st' => ∀ W' L' H' σ', Si K W' L' H' st' ρ' σ' → Ext W L H W' L' H' → D.ct σ' H'
def tS (K : PySem.W.Frag) (C : CallF) (c : S) : TS := fun D σ H => ∃ W L st ρ fl, Si K W L H st ρ σ ∧ exS C c ρ st = some fl ∧ KtS K W L H fl D
def tZ (K : PySem.W.Frag) (C : CallF) (c : Ss) : TS := fun D σ H => ∃ W L st ρ fl, Si K W L H st ρ σ ∧ exSs C c ρ st = some fl ∧ KtS K W L H fl D
theorem KtS.ext {K : PySem.W.Frag} {W W' : Addr → Prop} {L L' : List Addr} {H H' : Hp} {fl : Fl} {D : Ends} (k : KtS K W L H fl D) (E : Ext W L H W' L' H') : KtS K W' L' H' fl D := by
  cases fl with
  | nx ρ st => exact fun W2 L2 H2 σ S E2 => k W2 L2 H2 σ S (E.trans E2)
  | bk ρ st => exact fun W2 L2 H2 σ S E2 => k W2 L2 H2 σ S (E.trans E2)
  | ct ρ st => exact fun W2 L2 H2 σ S E2 => k W2 L2 H2 σ S (E.trans E2)
  | ret d st => exact fun W2 L2 H2 σ S E2 r => k W2 L2 H2 σ S (E.trans E2) r
section
variable {X : Cx} {C : CallF}
theorem ps_imp {st : Stmt} {t t' : TS} (p : PS X st t') (h : ∀ D σ H, t D σ H → t' D σ H) : PS X st t := ⟨fun pins s σ H D I q => p.run pins s σ H D I (h D σ H q)⟩
theorem pss_imp {st : List Stmt} {t t' : TS} (p : PSs X st t') (h : ∀ D σ H, t D σ H → t' D σ H) : PSs X st t := ⟨fun pins s σ H D I q => p.run pins s σ H D I (h D σ H q)⟩
theorem u_nil : ∀ D σ H, tZ X.K C .nil D σ H → tNext D σ H := by
  intro D σ H h
  obtain ⟨W, L, st, ρ, fl, S, e, k⟩ := h
  simp only [exSs, Option.some.injEq] at e
  subst e
  exact k W L H σ S .refl
theorem u_cons {c : S} {cs : Ss} : ∀ D σ H, tZ X.K C (.cons c cs) D σ H → tSeq (tS X.K C c) (tZ X.K C cs) D σ H := by
  intro D σ H h
  obtain ⟨W, L, st, ρ, fl, S, e, k⟩ := h
  unfold exSs at e
  cases q : exS C c ρ st with
  | none => rw [q] at e; cases e
  | some f1 =>
    rw [q] at e
    refine ⟨W, L, st, ρ, f1, S, q, ?_⟩
    cases f1 with
    | nx ρ1 st1 => exact fun W1 L1 H1 σ1 S1 E1 => ⟨W1, L1, st1, ρ1, fl, S1, e, k.ext E1⟩
    | ret d st1 => cases e; exact k
    | bk ρ1 st1 => cases e; exact k
    | ct ρ1 st1 => cases e; exact k
theorem u_if {c : Ex} {a b : Ss} : ∀ D σ H, tS X.K C (.ifs c a b) D σ H → tIfS (tT X.K C c) (tZ X.K C a) (tZ X.K C b) D σ H := by
  intro D σ H h
  obtain ⟨W, L, st, ρ, fl, S, e, k⟩ := h
  unfold exS at e
  split at e
  · rename_i x st1 q
    split at e
    · rename_i t
      refine tT.mk S q t fun W1 L1 H1 S1 E1 => ?_
      simp only [if_true]
      exact ⟨W1, L1, st1, ρ, fl, S1, e, k.ext E1⟩
    · rename_i t
      refine tT.mk S q t fun W1 L1 H1 S1 E1 => ?_
      simp only [Bool.false_eq_true, if_false]
      exact ⟨W1, L1, st1, ρ, fl, S1, e, k.ext E1⟩
    · cases e
  · cases e
theorem u_ret {c : Ex} : ∀ D σ H, tS X.K C (.ret c) D σ H → tRet (tE X.K C c) D σ H := by
  intro D σ H h
  obtain ⟨W, L, st, ρ, fl, S, e, k⟩ := h
  simp only [exS, Option.map_eq_some_iff] at e
  obtain ⟨⟨d, st1⟩, q, rfl⟩ := e
  exact tE.mk S q fun W1 L1 H1 v S1 E1 r => k W1 L1 H1 v S1.s E1 r
theorem u_retn : ∀ D σ H, tS X.K C .retn D σ H → tRetN D σ H := by
  intro D σ H h
  obtain ⟨W, L, st, ρ, fl, S, e, k⟩ := h
  simp only [exS, Option.some.injEq] at e
  subst e
  exact k W L H .non S.s .refl mkNon
theorem u_ex {c : Ex} : ∀ D σ H, tS X.K C (.ex c) D σ H → tDrop (tE X.K C c) D σ H := by
  intro D σ H h
  obtain ⟨W, L, st, ρ, fl, S, e, k⟩ := h
  simp only [exS, Option.map_eq_some_iff] at e
  obtain ⟨⟨d, st1⟩, q, rfl⟩ := e
  exact tE.mk S q fun W1 L1 H1 v S1 E1 r => k W1 L1 H1 σ S1 E1
theorem u_brk : ∀ D σ H, tS X.K C .brk D σ H → tBreak D σ H := by
  intro D σ H h
  obtain ⟨W, L, st, ρ, fl, S, e, k⟩ := h
  simp only [exS, Option.some.injEq] at e
  subst e
  exact k W L H σ S .refl
theorem u_cnt : ∀ D σ H, tS X.K C .cnt D σ H → tCont D σ H := by
  intro D σ H h
  obtain ⟨W, L, st, ρ, fl, S, e, k⟩ := h
  simp only [exS, Option.some.injEq] at e
  subst e
  exact k W L H σ S .refl
theorem u_pas : ∀ D σ H, tS X.K C .pas D σ H → tNext D σ H := by
  intro D σ H h
  obtain ⟨W, L, st, ρ, fl, S, e, k⟩ := h
  simp only [exS, Option.some.injEq] at e
  subst e
  exact k W L H σ S .refl
theorem u_asg {t : Tg} {c : Ex} : ∀ D σ H, tS X.K C (.asg t c) D σ H → tAsg (tE X.K C c) (tG X.K t) D σ H := by
  intro D σ H h
  obtain ⟨W, L, st, ρ, fl, S, e, k⟩ := h
  unfold exS at e
  split at e
  · rename_i d st1 q
    simp only [Option.map_eq_some_iff] at e
    obtain ⟨ρ', b, rfl⟩ := e
    exact tE.mk S q fun W1 L1 H1 v S1 E1 r => ⟨W1, L1, ρ, d, ρ', S1.e, r, b, fun σ' re _ => k W1 L1 H1 σ' ⟨S1.s, re⟩ E1⟩
  · cases e
theorem u_set {o i c : Ex} : ∀ D σ H, tS X.K C (.setS o i c) D σ H → tAsg (tE X.K C c) (gSub (tE X.K C o) (tE X.K C i) (fun o i v H Q => ∃ W L st a b c st', Sim X.K W L H st ∧ Rp X.K W L H a o ∧ Rp X.K W L H b i ∧ Rp X.K W L H c v ∧ setItemD st a b c = some st' ∧ ∀ W' L' H', Sim X.K W' L' H' st' → Ext W L H W' L' H' → Q H')) D σ H := by
  intro D σ H h
  obtain ⟨W, L, st, ρ, fl, S, e, k⟩ := h
  unfold exS at e
  split at e
  · rename_i v st1 q1
    split at e
    · rename_i ov st2 q2
      split at e
      · rename_i iv st3 q3
        simp only [Option.map_eq_some_iff] at e
        obtain ⟨st4, q4, rfl⟩ := e
        refine tE.mk S q1 fun W1 L1 H1 v1 S1 E1 r1 => tE.mk S1 q2 fun W2 L2 H2 v2 S2 E2 r2 => tE.mk S2 q3 fun W3 L3 H3 v3 S3 E3 r3 => ?_
        refine ⟨W3, L3, st3, ov, iv, v, st4, S3.s, r2.mono S2.s E3, r3, (r1.mono S1.s E2).mono S2.s E3, q4, fun W4 L4 H4 S4 E4 => ?_⟩
        exact k W4 L4 H4 σ (S3.mono S4 E4) (((E1.trans E2).trans E3).trans E4)
      · cases e
    · cases e
  · cases e
theorem u_par2 {i j : Nat} {cs : Exs} : ∀ D σ H, tS X.K C (.par [i, j] cs) D σ H → tPar i j (tA X.K C cs) D σ H := by
  intro D σ H h
  obtain ⟨W, L, st, ρ, fl, S, e, k⟩ := h
  unfold exS at e
  split at e
  · rename_i ds st1 q
    simp only [Option.map_eq_some_iff] at e
    obtain ⟨ρ', b, rfl⟩ := e
    refine tA.mk S q fun W1 L1 H1 vs S1 E1 r => ?_
    match ds, r, b with
    | [d1, d2], r, b =>
      obtain ⟨v, w, rfl, r1, r2⟩ := r.two
      refine ⟨v, w, rfl, ?_⟩
      simp only [setsE] at b
      split at b
      · split at b
        · cases b
          exact k W1 L1 H1 _ ⟨S1.s, (S1.e.set r1).set r2⟩ E1
        · cases b
      · cases b
    | [], _, b => simp [setsE] at b
    | [d], _, b =>
      simp only [setsE] at b
      split at b
      · cases b
      · cases b
    | d :: d2 :: d3 :: ds, _, b =>
      simp only [setsE] at b
      split at b
      · split at b
        · cases b
        · cases b
      · cases b
  · cases e
theorem u_par3 {i j l : Nat} {cs : Exs} : ∀ D σ H, tS X.K C (.par [i, j, l] cs) D σ H → tPar3 i j l (tA X.K C cs) D σ H := by
  intro D σ H h
  obtain ⟨W, L, st, ρ, fl, S, e, k⟩ := h
  unfold exS at e
  split at e
  · rename_i ds st1 q
    simp only [Option.map_eq_some_iff] at e
    obtain ⟨ρ', b, rfl⟩ := e
    refine tA.mk S q fun W1 L1 H1 vs S1 E1 r => ?_
    match ds, r, b with
    | [d1, d2, d3], r, b =>
      simp only [Rps] at r
      obtain ⟨v, vs', rfl, r1, w, ws', rfl, r2, u, us', rfl, r3, rfl⟩ := r
      refine ⟨v, w, u, rfl, ?_⟩
      simp only [setsE] at b
      split at b
      · split at b
        · split at b
          · cases b
            exact k W1 L1 H1 _ ⟨S1.s, ((S1.e.set r1).set r2).set r3⟩ E1
          · cases b
        · cases b
      · cases b
    | [], _, b => simp [setsE] at b
    | [d], _, b =>
      simp only [setsE] at b
      split at b
      · cases b
      · cases b
    | [d, d2], _, b =>
      simp only [setsE] at b
      split at b
      · split at b
        · cases b
        · cases b
      · cases b
    | d :: d2 :: d3 :: d4 :: ds, _, b =>
      simp only [setsE] at b
      split at b
      · split at b
        · split at b
          · cases b
          · cases b
        · cases b
      · cases b
  · cases e
theorem wRun_some {f : Env → Sto → Option Stp} {ρ : Env} {st : Sto} {fl : Fl} (h : wRun f ρ st = some fl) : ∃ n, wIter f n ρ st = some fl := by
  unfold wRun at h
  split at h
  · rename_i q
    cases h
    exact Classical.choose_spec q
  · cases h
theorem u_whl {fz : Bool} {c : Ex} {b : Ss} : ∀ D σ H, tS X.K C (.whl fz c b) D σ H → tWhile (tT X.K C c) (tZ X.K C b) D σ H := by
  intro D σ H h
  obtain ⟨W, L, st, ρ, fl, S, e, k⟩ := h
  unfold exS at e
  obtain ⟨n0, it⟩ := wRun_some e
  refine ⟨fun m σ1 Hc => ∃ W1 L1 st1 ρ1, Si X.K W1 L1 Hc st1 ρ1 σ1 ∧ Ext W L H W1 L1 Hc ∧ wIter _ m ρ1 st1 = some fl, ⟨n0, W, L, st, ρ, S, .refl, it⟩, ?_⟩
  rintro m σ1 Hc ⟨W1, L1, st1, ρ1, S1, E1, it1⟩
  cases m with
  | zero => simp [wIter] at it1
  | succ n =>
    unfold wIter at it1
    split at it1
    · cases it1
    · rename_i fl' q
      cases it1
      split at q
      · cases q
      · rename_i x st2 qe
        split at q
        · cases q
        · rename_i t
          cases q
          refine tT.mk S1 qe t fun W2 L2 H2 S2 E2 => ?_
          simp only [Bool.false_eq_true, if_false]
          exact k W2 L2 H2 σ1 S2 (E1.trans E2)
        · rename_i t
          refine tT.mk S1 qe t fun W2 L2 H2 S2 E2 => ?_
          simp only [if_true]
          refine ⟨fun _ _ => False, fun _ _ z => z.elim, ?_⟩
          cases qb : exSs C b ρ1 st2 with
          | none => rw [qb] at q; cases q
          | some fb =>
            rw [qb] at q
            refine ⟨W2, L2, st2, ρ1, fb, S2, qb, ?_⟩
            cases fb with
            | nx ρ3 st3 => simp [turnD] at q
            | ct ρ3 st3 => simp [turnD] at q
            | bk ρ3 st3 =>
              simp only [turnD, Option.map_eq_some_iff] at q
              obtain ⟨⟨ρ4, st4⟩, cc, z⟩ := q
              cases z
              intro W3 L3 H3 σ3 S3 E3
              obtain ⟨W4, L4, S4, E4⟩ := cutE_si S2.s S3 E3 cc
              exact k W4 L4 H3 σ3 S4 ((E1.trans E2).trans E4)
            | ret d st3 =>
              simp only [turnD, Option.some.injEq, Sum.inl.injEq] at q
              subst q
              intro W3 L3 H3 v S3 E3 r
              exact k W3 L3 H3 v S3 ((E1.trans E2).trans E3) r
    · rename_i ρ2 st2' q
      split at q
      · cases q
      · rename_i x st2 qe
        split at q
        · cases q
        · cases q
        · rename_i t
          refine tT.mk S1 qe t fun W2 L2 H2 S2 E2 => ?_
          simp only [if_true]
          refine ⟨_, fun σ' H' z => ⟨n, Nat.lt_succ_self n, z⟩, ?_⟩
          cases qb : exSs C b ρ1 st2 with
          | none => rw [qb] at q; cases q
          | some fb =>
            rw [qb] at q
            refine ⟨W2, L2, st2, ρ1, fb, S2, qb, ?_⟩
            cases fb with
            | nx ρ3 st3 =>
              simp only [turnD, Option.map_eq_some_iff] at q
              obtain ⟨⟨ρ4, st4⟩, cc, z⟩ := q
              cases z
              intro W3 L3 H3 σ3 S3 E3
              obtain ⟨W4, L4, S4, E4⟩ := cutE_si S2.s S3 E3 cc
              exact ⟨W4, L4, _, _, S4, (E1.trans E2).trans E4, it1⟩
            | ct ρ3 st3 =>
              simp only [turnD, Option.map_eq_some_iff] at q
              obtain ⟨⟨ρ4, st4⟩, cc, z⟩ := q
              cases z
              intro W3 L3 H3 σ3 S3 E3
              obtain ⟨W4, L4, S4, E4⟩ := cutE_si S2.s S3 E3 cc
              exact ⟨W4, L4, _, _, S4, (E1.trans E2).trans E4, it1⟩
            | bk ρ3 st3 => simp [turnD] at q
            | ret d st3 => simp [turnD] at q
theorem grdF_inl {ns : List Nat} {st0 : Sto} {r : Option Stp} {fl : Fl} (h : grdF ns st0 r = some (.inl fl)) : r = some (.inl fl) := by
  unfold grdF at h
  split at h
  · split at h
    · cases h
    · cases h
  · exact h
theorem grdF_inr {ns : List Nat} {st0 st' : Sto} {r : Option Stp} {ρ' : Env} (h : grdF ns st0 r = some (.inr (ρ', st'))) : r = some (.inr (ρ', st')) ∧ keepP ns st0 st' := by
  unfold grdF at h
  split at h
  · split at h
    · cases h
      exact ⟨rfl, by assumption⟩
    · cases h
  · rename_i hh
    exact absurd h (hh _ _)
theorem u_for {fz : Bool} {t : Tg} {it : It} {b : Ss} : ∀ D σ H, tS X.K C (.for fz t it b) D σ H → tFor (tI X.K C it) (tG X.K t) (tZ X.K C b) D σ H := by
  intro D σ H h
  obtain ⟨W, L, st, ρ, fl, S, e, k⟩ := h
  unfold exS at e
  split at e
  · rename_i xs ns st0 q0
    refine ⟨W, L, st, ρ, xs, ns, st0, S, q0, fun W1 L1 H1 J S1 E1 wk => ?_⟩
    refine for_it wk.w (fun i σ1 Hc => ∃ W2 L2 st2 ρ2, Si X.K W2 L2 Hc st2 ρ2 σ1 ∧ Ext W1 L1 H1 W2 L2 Hc ∧ keepP ns st0 st2 ∧ fLoop _ (xs.drop i) ρ2 st2 = some fl) ⟨W1, L1, st0, ρ, S.mono S1 E1, .refl, keepP_refl, e⟩ ?_ ?_ ?_
    · rintro i σ1 Hc - ⟨W2, L2, st2, ρ2, S2, E2, kp, _⟩
      exact ⟨W2, L2, st2, S2.s, E2, kp⟩
    · rintro i v σ1 Hc H' hi ⟨W2, L2, st2, ρ2, S2, E2, kp, lp⟩ y
      obtain ⟨S3, E3, dx, hdx, rdx⟩ := y W2 L2 st2 S2.s E2 kp
      have hdrop : xs.drop i = dx :: xs.drop (i + 1) := by
        obtain ⟨hl, he⟩ := List.getElem?_eq_some_iff.mp hdx
        rw [← he]
        exact (List.drop_eq_getElem_cons hl)
      rw [hdrop] at lp
      unfold fLoop at lp
      split at lp
      · cases lp
      · rename_i fl' q
        cases lp
        split at q
        · cases q
        · rename_i ρ' bt
          refine ⟨W2, L2, ρ2, dx, ρ', S2.e.mono S2.s E3, rdx, bt, fun σ2 re2 _ => ?_⟩
          have q := grdF_inl q
          cases qb : exSs C b ρ' st2 with
          | none => rw [qb] at q; cases q
          | some fb =>
            rw [qb] at q
            refine ⟨W2, L2, st2, ρ', fb, ⟨S3, re2⟩, qb, ?_⟩
            cases fb with
            | nx ρ3 st3 => simp [turnD] at q
            | ct ρ3 st3 => simp [turnD] at q
            | bk ρ3 st3 =>
              simp only [turnD, Option.map_eq_some_iff] at q
              obtain ⟨⟨ρ4, st4⟩, cc, z⟩ := q
              cases z
              intro W4 L4 H4 σ4 S4 E4
              obtain ⟨W5, L5, S5, E5⟩ := cutE_si S3 S4 E4 cc
              exact k W5 L5 H4 σ4 S5 (((E1.trans E2).trans E3).trans E5)
            | ret d st3 =>
              simp only [turnD, Option.some.injEq, Sum.inl.injEq] at q
              subst q
              intro W4 L4 H4 w S4 E4 r
              exact k W4 L4 H4 w S4 (((E1.trans E2).trans E3).trans E4) r
      · rename_i ρ5 st5 q
        split at q
        · cases q
        · rename_i ρ' bt
          refine ⟨W2, L2, ρ2, dx, ρ', S2.e.mono S2.s E3, rdx, bt, fun σ2 re2 _ => ?_⟩
          obtain ⟨q, kp5⟩ := grdF_inr q
          cases qb : exSs C b ρ' st2 with
          | none => rw [qb] at q; cases q
          | some fb =>
            rw [qb] at q
            refine ⟨W2, L2, st2, ρ', fb, ⟨S3, re2⟩, qb, ?_⟩
            cases fb with
            | nx ρ3 st3 =>
              simp only [turnD, Option.map_eq_some_iff] at q
              obtain ⟨⟨ρ4, st4⟩, cc, z⟩ := q
              cases z
              intro W4 L4 H4 σ4 S4 E4
              obtain ⟨W5, L5, S5, E5⟩ := cutE_si S3 S4 E4 cc
              exact ⟨W5, L5, _, _, S5, (E2.trans E3).trans E5, kp5, lp⟩
            | ct ρ3 st3 =>
              simp only [turnD, Option.map_eq_some_iff] at q
              obtain ⟨⟨ρ4, st4⟩, cc, z⟩ := q
              cases z
              intro W4 L4 H4 σ4 S4 E4
              obtain ⟨W5, L5, S5, E5⟩ := cutE_si S3 S4 E4 cc
              exact ⟨W5, L5, _, _, S5, (E2.trans E3).trans E5, kp5, lp⟩
            | bk ρ3 st3 => simp [turnD] at q
            | ret d st3 => simp [turnD] at q
    · rintro σ1 Hc ⟨W2, L2, st2, ρ2, S2, E2, kp, lp⟩
      rw [List.drop_length] at lp
      simp only [fLoop, Option.some.injEq] at lp
      subst lp
      exact k W2 L2 Hc σ1 S2 (E1.trans E2)
  · cases e
end
end Ro
end
section
set_option Elab.async false
set_option linter.all false
set_option autoImplicit false
set_option maxHeartbeats 4000000
namespace Ro
open PySem PySem.Spec PyProof.Rows L2

/-! ## The check of statements -/
def isCall : Expr → Bool
  | .Call _ _ _ _ => true
  | _ => false
def isVar : Tg → Ex → Bool
  | .v _, .comp _ _ _ _ _ _ => true
  | _, _ => false
def parB (Γ : Gam) (is : List Nat) (ts vs : List Expr) : Bool :=
  match is, ts with
  | [i, j], [.Name x px, .Name y py] => decide (vs.length = 2) && decide (Γ.N[i]? = some x) && decide (Γ.N[j]? = some y) && locN Γ.sc (.Name x px) && locN Γ.sc (.Name y py) && decide (px.line = py.line) && decide (x ≠ y) && !(vs.all (foldedForSure 8)) && !(vs.all (constantsAlone 8))
  | [i, j, l], [.Name x px, .Name y py, .Name z pz] => decide (vs.length = 3) && decide (Γ.N[i]? = some x) && decide (Γ.N[j]? = some y) && decide (Γ.N[l]? = some z) && locN Γ.sc (.Name x px) && locN Γ.sc (.Name y py) && locN Γ.sc (.Name z pz) && decide (px.line = py.line) && decide (px.line = pz.line) && decide (x ≠ y) && decide (x ≠ z) && decide (y ≠ z) && !(vs.all (foldedForSure 8)) && !(vs.all (constantsAlone 8))
  | _, _ => false
mutual
def chkS (Γ : Gam) : S → Stmt → Bool
  | .asg t c, s => match s with
    | .Assign [tg] v _ => chkG Γ t tg && chkE Γ c v && swN Γ tg v && nsc v && ((!swW Γ tg v) || isVar t c)
    | _ => false
  | .par is cs, s => match s with
    | .Assign [.Tuple ts _ _] (.Tuple vs _ _) _ => parB Γ is ts vs && chkEs Γ cs vs
    | _ => false
  | .setS o i c, s => match s with
    | .Assign [.Subscript x y _] v _ => nsl y && nsc v && chkE Γ o x && chkE Γ i y && chkE Γ c v
    | _ => false
  | .ex c, s => match s with
    | .Expr v _ => isCall v && chkE Γ c v
    | _ => false
  | .ifs c a b, s => match s with
    | .If z x y _ => chkE Γ c z && chkZ Γ a x && chkZ Γ b y
    | _ => false
  | .whl _ c b, s => match s with
    | .While z x [] _ => chkE Γ c z && chkZ Γ b x
    | _ => false
  | .for _ t it b, s => match s with
    | .For tg iter x [] _ => nset iter && chkG Γ t tg && chkI Γ it tg iter && chkZ Γ b x
    | _ => false
  | .ret c, s => match s with
    | .Return (some v) _ => chkE Γ c v
    | _ => false
  | .retn, s => match s with
    | .Return none _ => true
    | _ => false
  | .brk, s => match s with
    | .Break _ => true
    | _ => false
  | .cnt, s => match s with
    | .Continue _ => true
    | _ => false
  | .pas, s => match s with
    | .Pass _ => true
    | _ => false
  | .never, _ => true
def chkZ (Γ : Gam) : Ss → List Stmt → Bool
  | .nil, ss => ss.isEmpty
  | .cons c cs, ss => match ss with
    | s :: ss => chkS Γ c s && chkZ Γ cs ss
    | [] => false
end
structure SOk (C : CallF) (k : Nat) (Γ : Gam) (X : Cx) : Prop where
  ok : XOk C k Γ X
  kd : Γ.sc.kind = .function
  xe : X.xe = fun _ _ => False
section
variable {C : CallF} {k : Nat} {Γ : Gam} {X : Cx}
theorem SOk.pass (x : SOk C k Γ X) : PassesOwn (model X.prog X.w) X.A X.env X.xe := by
  rw [x.xe]
  exact PassesOwn.never
theorem bnot {b : Bool} (h : (!b) = true) : b = false := by
  cases b with
  | false => rfl
  | true => cases h
theorem loc_N (x : SOk C k Γ X) {y : Str} {p : Pos} (h : locN Γ.sc (.Name y p) = true) : X.env.scope.names.lookup y = some .local := by
  rw [x.ok.sc]
  exact of_decide_eq_true h
theorem par_snd (x : SOk C k Γ X) {is : List Nat} {cs : Exs} {ts vs : List Expr} {kt k2 : Nat} {pt pt2 pos : Pos} (h : parB Γ is ts vs = true) (hs : Sns X C cs vs) : PS X (.Assign [.Tuple ts kt pt] (.Tuple vs k2 pt2) pos) (tS X.K C (.par is cs)) := by
  have hk : X.env.scope.kind = .function := by rw [x.ok.sc]; exact x.kd
  have hN : X.N.Nodup := by rw [x.ok.N]; exact x.ok.nd
  obtain ⟨pe, hn⟩ := sns_pes hs
  have pa := sa_of pe hn
  unfold parB at h
  split at h
  · rename_i i j y py z pz
    simp only [Bool.and_eq_true, decide_eq_true_eq] at h
    obtain ⟨⟨⟨⟨⟨⟨⟨⟨h1, h2⟩, h3⟩, h4⟩, h5⟩, h6⟩, h7⟩, h8⟩, h9⟩ := h
    match vs, h1, hs, pa, hn, h8, h9 with
    | [a, b], _, hs, pa, hn, h8, h9 =>
      simp only [List.all_cons, List.all_nil, Bool.and_true, Bool.and_eq_true] at hn
      rw [← x.ok.N] at h2 h3
      refine ps_imp (ps_par x.ok.calm hN h2 h3 ?_ (loc_N x h4) (loc_N x h5) pa ?_) u_par2
      · intro e
        subst e
        rw [h2] at h3
        exact h7 (Option.some.inj h3)
      · exact sw_par2 hk (loc_N x h4) (loc_N x h5) h6 h7 hn.1 hn.2 (bnot h8) (bnot h9)
  · rename_i i j l y py z pz w pw
    simp only [Bool.and_eq_true, decide_eq_true_eq] at h
    obtain ⟨⟨⟨⟨⟨⟨⟨⟨⟨⟨⟨⟨⟨h1, h2⟩, h3⟩, h4⟩, h5⟩, h6⟩, h7⟩, h8⟩, h9⟩, h10⟩, h11⟩, h12⟩, h13⟩, h14⟩ := h
    match vs, h1, hs, pa, hn, h13, h14 with
    | [a, b, c], _, hs, pa, hn, h13, h14 =>
      simp only [List.all_cons, List.all_nil, Bool.and_true, Bool.and_eq_true] at hn
      rw [← x.ok.N] at h2 h3 h4
      have ne : ∀ {i j : Nat} {u v : Str}, X.N[i]? = some u → X.N[j]? = some v → u ≠ v → i ≠ j := fun a b n e => by
        subst e
        rw [a] at b
        exact n (Option.some.inj b)
      refine ps_imp (ps_par3 x.ok.calm hN h2 h3 h4 (ne h2 h3 h10) (ne h2 h4 h11) (ne h3 h4 h12) (loc_N x h5) (loc_N x h6) (loc_N x h7) pa ?_) u_par3
      exact sw_par3 hk (loc_N x h5) (loc_N x h6) (loc_N x h7) h8 h9 h10 h11 h12 hn.1 hn.2.1 hn.2.2 (bnot h13) (bnot h14)
  · cases h
theorem each_tg {t : Tg} {tg : Expr} (h : chkG Γ t tg = true) : (assignEach [tg] X.env).map (·.2) = [assign tg X.env] := by
  have hn := chkG_nst h
  cases tg <;> first
    | rfl
    | cases hn
theorem asg_snd (x : SOk C k Γ X) {t : Tg} {c : Ex} {tg v : Expr} {pos : Pos} (h1 : chkG Γ t tg = true) (h2 : chkE Γ c v = true) (h3 : swN Γ tg v = true) (h4 : nsc v = true) (h5 : ((!swW Γ tg v) || isVar t c) = true) : PS X (.Assign [tg] v pos) (tS X.K C (.asg t c)) := by
  cases q : swW Γ tg v with
  | false =>
    refine ps_imp (ps_asg (snd c v Γ X x.ok h2).pe (sg_of x.ok h1) ?_ (sw_none x.ok.sc h3) (each_tg h1)) u_asg
    show swapsWith v (some tg) pos.line X.env = pure false
    rw [sw_with x.ok.sc x.kd h4, q]
  | true =>
    rw [q] at h5
    simp only [Bool.not_true, Bool.false_or] at h5
    cases t with
    | t ts => cases h5
    | v i =>
    cases c with
    | comp m own t2 it ifs c2 =>
      have hw : swapsWith v (some tg) pos.line X.env = pure true := by rw [sw_with x.ok.sc x.kd h4, q]
      unfold swW at q
      split at q
      · rename_i elt gs scope ps
        split at q
        · rename_i y py
          simp only [Bool.and_eq_true, decide_eq_true_eq] at q
          simp only [chkG, storable, Bool.and_eq_true, decide_eq_true_eq] at h1
          unfold chkE at h2
          split at h2
          · rename_i e1 tg1 iter1 ifs1 sc1 p1 z
            cases z
            simp only [Bool.and_eq_true, decide_eq_true_eq] at h2
            obtain ⟨⟨⟨⟨⟨⟨⟨g1, g2⟩, g3⟩, g4⟩, g5⟩, g6⟩, g7⟩, g8⟩ := h2
            have hown : ∀ i ∈ slots t2, i ∈ own := fun i h => of_decide_eq_true (List.all_eq_true.mp g2 i h)
            have ok : BlkOk X.N X.env.scope scope (ownP Γ own) := by
              rw [x.ok.N, x.ok.sc]
              exact blkOk_by g1
            have w := ps_setLc (pos := ps) (spos := pos) (py := py) (tt := tTs X.K C ifs) (te := tE X.K C c2) (g := tG X.K t2) x.ok.calm (by rw [x.ok.N]; exact x.ok.nd) (by rw [x.ok.N]; exact h1.1) (by rw [x.ok.sc]; exact q.1.1) hw (sndi it tg1 iter1 Γ X x.ok g4) ok
              (fun s H Ca cl fp => sg_of (xok_blk x.ok) g5)
              (fun s H Ca cl fp => sts_of (X := X.blk s H scope (compEnvC scope cl Ca X.env) fp) (ptz_of (snds ifs ifs1 _ _ (xok_blk x.ok) g7) g6))
              (fun s H Ca cl fp => (snd c2 elt _ (X.blk s H scope (compEnvC scope cl Ca X.env) fp) (xok_blk x.ok) g8).pe) (fold_nset g3)
            rw [ownP_snd] at w
            refine ps_imp w fun D σ H hh => ?_
            have w2 := u_asg D σ H hh
            have w3 := t_comp hown σ H _ w2
            have gn : ∀ v σ H Q, tG X.K (.v i) v σ H Q → gName i v σ H Q := fun v σ H Q hg => by
              obtain ⟨W, L, ρ, d, ρ', re, rd, b, kq⟩ := hg
              unfold bindT at b
              split at b
              · cases b
                exact kq _ (re.set rd) left_set
              · cases b
            have mono : ∀ {Q Q' : VK}, (∀ v H, Q v H → Q' v H) → tLc (tI X.K C it) (tG X.K t2) (tTs X.K C ifs) (tE X.K C c2) own σ H Q → tLc (tI X.K C it) (tG X.K t2) (tTs X.K C ifs) (tE X.K C c2) own σ H Q' := fun hq hl => by
              obtain ⟨W, L, st, ρ, xs, ns, st', S, e, kk⟩ := hl
              refine ⟨W, L, st, ρ, xs, ns, st', S, e, fun W' L' H' J S' E' wk D0 hD => ?_⟩
              obtain ⟨Wf, a, b⟩ := kk W' L' H' J S' E' wk D0 hD
              refine ⟨Wf, a, fun i m H hw => ?_⟩
              rcases b i m H hw with ⟨s1, s2⟩ | s1
              · exact .inl ⟨s1, hq _ _ s2⟩
              · exact .inr s1
            exact mono (fun v H1 hg => gn v σ H1 _ hg) w3
          · cases h2
        · cases q
      · cases q
    | _ => cases h5
mutual
theorem ssnd (x : SOk C k Γ X) : ∀ (c : S) (s : Stmt), chkS Γ c s = true → PS X s (tS X.K C c)
  | .asg t c, s, h => by
    unfold chkS at h
    split at h
    · simp only [Bool.and_eq_true] at h
      obtain ⟨⟨⟨⟨h1, h2⟩, h3⟩, h4⟩, h5⟩ := h
      exact asg_snd x h1 h2 h3 h4 h5
    · cases h
  | .par is cs, s, h => by
    unfold chkS at h
    split at h
    · simp only [Bool.and_eq_true] at h
      exact par_snd x h.1 (snds cs _ Γ X x.ok h.2)
    · cases h
  | .setS o i c, s, h => by
    unfold chkS at h
    split at h
    · rename_i u v p w pos
      simp only [Bool.and_eq_true] at h
      obtain ⟨⟨⟨⟨h1, h2⟩, h3⟩, h4⟩, h5⟩ := h
      have g := pg_sub (pos := p) (snd o u Γ X x.ok h3).pe (snd i v Γ X x.ok h4).pe (set_any (X := X) (hu1 x.ok)) (by
        intro val
        cases v <;> first
          | rfl
          | cases h1)
      refine ps_imp (ps_asg (snd c w Γ X x.ok h5).pe g ?_ ?_ rfl) u_set
      · show swapsWith w (some (.Subscript u v p)) pos.line X.env = pure false
        rw [sw_with x.ok.sc x.kd h2]
        cases w <;> rfl
      · exact sw_none x.ok.sc rfl
    · cases h
  | .ex c, s, h => by
    unfold chkS at h
    split at h
    · rename_i v pos
      simp only [Bool.and_eq_true] at h
      refine ps_imp (ps_expr (snd c v Γ X x.ok h.2).pe ?_) u_ex
      have h1 := h.1
      cases v <;> first
        | rfl
        | cases h1
    · cases h
  | .ifs c a b, s, h => by
    unfold chkS at h
    split at h
    · simp only [Bool.and_eq_true] at h
      obtain ⟨⟨h1, h2⟩, h3⟩ := h
      exact ps_imp (ps_if (snd c _ Γ X x.ok h1).pt (zsnd x a _ h2) (zsnd x b _ h3)) u_if
    · cases h
  | .whl fz c b, s, h => by
    unfold chkS at h
    split at h
    · simp only [Bool.and_eq_true] at h
      exact ps_imp (ps_while x.pass (snd c _ Γ X x.ok h.1).pt (zsnd x b _ h.2)) u_whl
    · cases h
  | .for fz t it b, s, h => by
    unfold chkS at h
    split at h
    · simp only [Bool.and_eq_true] at h
      obtain ⟨⟨⟨h1, h2⟩, h3⟩, h4⟩ := h
      exact ps_imp (ps_for x.pass x.ok.calm (sndi it _ _ Γ X x.ok h3) (sg_of x.ok h2) (zsnd x b _ h4) (fold_nset h1)) u_for
    · cases h
  | .ret c, s, h => by
    unfold chkS at h
    split at h
    · exact ps_imp (ps_ret (snd c _ Γ X x.ok h).pe) u_ret
    · cases h
  | .retn, s, h => by
    unfold chkS at h
    split at h
    · exact ps_imp ps_retN u_retn
    · cases h
  | .brk, s, h => by
    unfold chkS at h
    split at h
    · exact ps_imp ps_break u_brk
    · cases h
  | .cnt, s, h => by
    unfold chkS at h
    split at h
    · exact ps_imp ps_continue u_cnt
    · cases h
  | .pas, s, h => by
    unfold chkS at h
    split at h
    · exact ps_imp ps_pass u_pas
    · cases h
  | .never, s, h => ps_imp ps_never fun D σ H hh => by
    obtain ⟨W, L, st, ρ, fl, S, e, kk⟩ := hh
    simp [exS] at e
theorem zsnd (x : SOk C k Γ X) : ∀ (c : Ss) (ss : List Stmt), chkZ Γ c ss = true → PSs X ss (tZ X.K C c)
  | .nil, ss, h => by
    cases ss with
    | nil => exact pss_imp pss_nil u_nil
    | cons _ _ => simp [chkZ] at h
  | .cons c cs, ss, h => by
    cases ss with
    | nil => simp [chkZ] at h
    | cons s ss =>
      simp only [chkZ, Bool.and_eq_true] at h
      exact pss_imp (pss_cons (ssnd x c s h.1) (zsnd x cs ss h.2)) u_cons
end
end
end Ro
end
section
set_option Elab.async false
set_option linter.all false
set_option autoImplicit false
set_option maxHeartbeats 4000000
namespace Ro
open PySem PySem.Spec PyProof.Rows L2

/-! ## Binding by position -/
theorem zip_look {α : Type} : ∀ {ps : List Str} {us : List α}, ps.Nodup → us.length = ps.length → ps.filterMap (fun n => ((ps.zip us).lookup n).map (n, ·)) = ps.zip us ∧ ∀ n ∈ ps, ((ps.zip us).lookup n).isSome = true
  | [], us, _, _ => ⟨by simp, fun n h => by cases h⟩
  | p :: ps, [], _, hl => by simp at hl
  | p :: ps, u :: us, nd, hl => by
    rw [List.nodup_cons] at nd
    obtain ⟨i1, i2⟩ := zip_look (us := us) nd.2 (Nat.succ.inj hl)
    have ne : ∀ n ∈ ps, (n == p) = false := fun n hn => by
      rw [beq_eq_false_iff_ne]
      intro e
      subst e
      exact nd.1 hn
    constructor
    · rw [List.zip_cons_cons, List.filterMap_cons]
      have e : List.lookup p ((p, u) :: ps.zip us) = some u := by rw [List.lookup_cons]; simp
      rw [e]
      simp only [Option.map_some]
      congr 1
      refine Eq.trans ?_ i1
      have fc : ∀ (f g : Str → Option (Str × α)) (l : List Str), (∀ n ∈ l, f n = g n) → l.filterMap f = l.filterMap g := fun f g l => by
        induction l with
        | nil => intro _; rfl
        | cons a l ih =>
          intro h
          rw [List.filterMap_cons, List.filterMap_cons, h a (List.mem_cons_self ..), ih fun n hn => h n (List.mem_cons_of_mem _ hn)]
      refine fc _ _ _ fun n hn => ?_
      rw [List.lookup_cons, ne n hn]
    · intro n hn
      rw [List.zip_cons_cons, List.lookup_cons]
      cases q : n == p with
      | true => rfl
      | false =>
        rcases List.mem_cons.mp hn with z | z
        · subst z; simp at q
        · exact i2 n z
def plainP (ps : List Str) (p : Arguments) : Bool := p.posonlyargs.isEmpty && p.kwonlyargs.isEmpty && p.vararg.isNone && p.kwarg.isNone && decide (p.args.map (·.arg) = ps)
theorem bind_plain {x qual : Str} {p : Arguments} {body : List Stmt} {scope : Scope} {ps : List Str} (h : plainP ps p = true) (nd : ps.Nodup) (kV doc pm : Value) (an : Option Addr) (cdv ct : Value) (us : List Value) (hl : us.length = ps.length) :
    bindArgs (PySem.W.fnOf x qual p body scope .none kV doc pm an cdv ct) ⟨us, []⟩ = pure (ps.zip us) := by
  obtain ⟨po, ar, va, ko, kd, kw, df⟩ := p
  simp only [plainP, Bool.and_eq_true, List.isEmpty_iff, Option.isNone_iff_eq_none, decide_eq_true_eq] at h
  obtain ⟨⟨⟨⟨rfl, rfl⟩, rfl⟩, rfl⟩, rfl⟩ := h
  obtain ⟨z1, z2⟩ := zip_look nd hl
  have z3 : (List.filter (fun n => (List.lookup n ((ar.map (·.arg)).zip us)).isNone) (ar.map (·.arg))) = [] := by
    rw [List.filter_eq_nil_iff]
    intro n hn
    have := z2 n hn
    cases q : List.lookup n ((ar.map (·.arg)).zip us) with
    | none => rw [q] at this; cases this
    | some v => simp
  have hgt : ¬ us.length > (ar.map (·.arg)).length := by omega
  have sq : seqItems? Value.none = (pure none : Sem (Option (Array Value))) := rfl
  unfold bindArgs
  simp only [PySem.W.fnOf, List.map_nil, List.nil_append, List.append_nil]
  simp [sq, z3, z1, hgt]
  rw [List.length_map] at hl
  rw [if_neg (by omega)]
  have dz : ∀ n : Nat, (List.drop n ([] : List Value)).length = 0 := by simp
  rw [List.filterMap_map] at z1
  rw [if_neg]
  · rw [z1]
  · intro w
    rw [dz] at w
    rw [Nat.sub_zero, List.take_length, z3] at w
    simp at w
end Ro
end
section
set_option Elab.async false
set_option linter.all false
set_option autoImplicit false
set_option maxHeartbeats 4000000
namespace Ro
open PySem PySem.Spec PyProof.Rows L2

/-! ## A table of defs -/
def chkDef (Tb : List Df) (gl : List (Str × D)) (d : Df) (q : He.DefD) : Bool :=
  decide (q.name = d.name) && decide (q.at_ = (d.name, none)) && q.dfl.isEmpty && q.kwd.isEmpty && C8.scC d.N (d.N.take d.np) q.scope && decide (d.np ≤ d.N.length) && plainP (d.N.take d.np) q.params && chkZ ⟨d.N, q.scope, fun _ => true, Tb, gl⟩ d.body q.body
def chkTab (Tb : List Df) (gl : List (Str × D)) : List Df → List He.DefD → Bool
  | [], qs => qs.isEmpty
  | d :: ds, qs => match qs with
    | q :: qs => chkDef Tb gl d q && chkTab Tb gl ds qs
    | [] => false
theorem chkTab_at {Tb : List Df} {gl : List (Str × D)} : ∀ {ds : List Df} {qs : List He.DefD} {i : Nat} {d : Df}, chkTab Tb gl ds qs = true → ds[i]? = some d → ∃ q, qs[i]? = some q ∧ chkDef Tb gl d q = true
  | [], qs, i, d, _, e => by simp at e
  | d :: ds, [], _, _, h, _ => by simp [chkTab] at h
  | c :: ds, q :: qs, i, d, h, e => by
    simp only [chkTab, Bool.and_eq_true] at h
    cases i with
    | zero =>
      simp at e
      subst e
      exact ⟨q, rfl, h.1⟩
    | succ i =>
      obtain ⟨q', g1, g2⟩ := chkTab_at (i := i) h.2 (by simpa using e)
      exact ⟨q', by simpa using g1, g2⟩
/-- the facts that a table needs: the defs' names in a row, the built-in names free, the constants -/
def chkFa (gl : List (Str × D)) (fn : List He.DefD) (fa : List He.Fa) : Bool :=
  ((List.range fn.length).all fun i => match fn[i]?, fa[i]? with
    | some q, some (.glo x) => decide (q.at_ = (x, none))
    | _, _ => false) && (bltNames.all fun x => fa.any fun f => match f with
    | .free y => decide (x = y)
    | _ => false) && gl.all fun p => fa.any fun f => match f, p.2 with
    | .int y i, .int j => decide (p.1 = y) && decide (i = j)
    | .str y z, .str w => decide (p.1 = y) && decide (z = w)
    | _, _ => false
structure MOk (K : PySem.W.Frag) (mg : Str → Option Value) (gl : List (Str × D)) (fn : List He.DefD) : Prop where
  blt : ∀ x ∈ bltNames, mg x = none
  glo : ∀ p ∈ gl, ∃ v u, mg p.1 = some u ∧ RelV v u ∧ ∀ W L H, Rp K W L H p.2 v
  fns : ∀ (i : Nat) (q : He.DefD), fn[i]? = some q → ∃ fd, FunD K q.name q.qual q.params q.body q.scope (q.dvs K) (q.kws K) (He.fAd K q.at_) fd
  adr : ∀ (i : Nat) (q : He.DefD), fn[i]? = some q → mg q.at_.1 = some (.ref (He.fAd K q.at_))
theorem mok_of {K : PySem.W.Frag} {h : Heap} {mg : Str → Option Value} {gl : List (Str × D)} {fn : List He.DefD} {fa : List He.Fa} (X : K.In h) (G : h.Ns mainGlobals mg) (c : He.SaysD fa fn K) (k : chkFa gl fn fa = true) : MOk K mg gl fn := by
  unfold chkFa at k
  simp only [Bool.and_eq_true] at k
  obtain ⟨⟨k1, k2⟩, k3⟩ := k
  have fact : ∀ f ∈ fa, f.ok K = true := fun f hf => by
    obtain ⟨i, hi⟩ := List.mem_iff_getElem?.mp hf
    exact c.fact i hi
  refine ⟨fun x hx => ?_, fun p hp => ?_, fun i q h => c.def_ i h, fun i q h => ?_⟩
  · obtain ⟨f, hf, e⟩ := List.any_eq_true.mp (List.all_eq_true.mp k2 x hx)
    split at e
    · have e2 := of_decide_eq_true e
      subst e2
      exact He.free_ok X G (fact _ hf)
    · cases e
  · obtain ⟨f, hf, e⟩ := List.any_eq_true.mp (List.all_eq_true.mp k3 p hp)
    split at e
    · rename_i y i j q
      simp only [Bool.and_eq_true, decide_eq_true_eq] at e
      obtain ⟨e1, rfl⟩ := e
      obtain ⟨t, m⟩ := He.int_ok X G (fact _ hf)
      exact ⟨.int i, .int i t, by rw [e1]; exact m, ⟨t, rfl⟩, fun W L H => by rw [q]; exact mkInt⟩
    · rename_i y z w q
      simp only [Bool.and_eq_true, decide_eq_true_eq] at e
      obtain ⟨e1, rfl⟩ := e
      obtain ⟨t, m⟩ := He.str_ok X G (fact _ hf)
      exact ⟨.str z, .str z t, by rw [e1]; exact m, ⟨t, rfl⟩, fun W L H => by rw [q]; exact mkStr⟩
    · cases e
  · have hi : i ∈ List.range fn.length := List.mem_range.mpr (List.getElem?_eq_some_iff.mp h).1
    have e := List.all_eq_true.mp k1 i hi
    rw [h] at e
    split at e
    · rename_i q' x g1 g2
      cases g1
      have e2 := of_decide_eq_true e
      rw [e2]
      exact He.glo_ok X G (c.fact i g2)
    · cases e
/-! ## Every def does what it says -/
section
variable {P : Program} {w : World} {K : PySem.W.Frag} {mg : Str → Option Value} {base : Heap} {Tb : List Df} {gl : List (Str × D)} {fn : List He.DefD}
def DefOk (P : Program) (w : World) (K : PySem.W.Frag) (mg : Str → Option Value) (base : Heap) (Tb : List Df) (k : Nat) (f : Nat) (q : Df) : Prop :=
  ∃ a fd ps, FnOk P w K mg base cxz k a fd ps (spF K (callN Tb k) f q.np) ∧ mg q.name = some (.ref a) ∧ PySem.W.keepIn K (.ref a) = true ∧ Binds K fd ps []
theorem fin_kt {W W' : Addr → Prop} {L L' : List Addr} {H H' : Hp} {st st' st2 : Sto} {r d : D} {v : V} {gc : Bool} {Q : VK} (S : Sim K W L H st) (h : finD gc st r st' = some (d, st2)) (k : Kt K W L H d st2 Q) (S' : Sim K W' L' H' st') (E : Ext W L H W' L' H') (rv : Rp K W' L' H' r v) : Q v H' := by
  unfold finD at h
  cases gc with
  | false =>
    simp at h
    obtain ⟨rfl, rfl⟩ := h
    exact k W' L' H' v S' E rv
  | true =>
    simp only [if_true] at h
    split at h
    · rename_i r' f
      split at h
      · rename_i g
        cases h
        have hl : L'.take st.length = L := by rw [← S.len]; exact take_pre E
        have q := rp_fz S' f rv
        rw [hl] at q
        exact k _ _ H' v (S.cut S' E g) (E.cut S S') q
      · cases h
    · cases h
theorem start_re {W : Addr → Prop} {L : List Addr} {H : Hp} {ds : List D} {vs : List V} (r : Rps K W L H ds vs) (N : List Str) : RE K W L H (ds.map some ++ List.replicate (N.length - ds.length) none) (L2.start N vs) := by
  have hl := r.length
  unfold L2.start
  refine ⟨by simp [hl], fun i d h => ?_⟩
  by_cases hi : i < ds.length
  · rw [List.getElem?_append_left (by simpa using hi), List.getElem?_map] at h
    obtain ⟨d', e, z⟩ := Option.map_eq_some_iff.mp h
    cases z
    obtain ⟨v, ev, rv⟩ := r.get e
    refine ⟨v, ?_, rv⟩
    rw [List.getElem?_append_left (by simpa [← hl] using hi), List.getElem?_map, ev]
    rfl
  · rw [List.getElem?_append_right (by simpa using hi)] at h
    have := List.mem_replicate.mp (List.mem_of_getElem? h)
    cases this.2
theorem callN_len : ∀ {k f : Nat} {ds : List D} {st st' : Sto} {d : D}, callN Tb k f ds st = some (d, st') → ∃ q, Tb[f]? = some q ∧ ds.length = q.np
  | 0, f, ds, st, st', d, h => by simp [callN] at h
  | k + 1, f, ds, st, st', d, h => by
    unfold callN at h
    split at h
    · rename_i q hq
      unfold runDef at h
      split at h
      · rename_i hl
        exact ⟨q, hq, hl⟩
      · cases h
    · cases h
theorem body_q {d : Df} {k f : Nat} (hq : Tb[f]? = some d) {X : Cx} (hK : X.K = K) {vs : List V} {H : Hp} {Q : VK} {E : XK} (h : spF K (callN Tb (k + 1)) f d.np vs H Q E) : tZ K (callN Tb k) d.body { nx := fun _ H' => Q .non H', rt := Q } (L2.start d.N vs) H := by
  obtain ⟨hn, W, L, st, ds, r, st', S, rs, c, kt⟩ := h
  unfold callN at c
  rw [hq] at c
  unfold runDef at c
  simp only [] at c
  split at c
  · split at c
    · rename_i r0 st0 e
      exact ⟨W, L, st, _, _, ⟨S, start_re rs d.N⟩, e, fun W' L' H' v S' E' rv => fin_kt S c kt S' E' rv⟩
    · rename_i ρ0 st0 e
      exact ⟨W, L, st, _, _, ⟨S, start_re rs d.N⟩, e, fun W' L' H' σ' S' E' => fin_kt S c kt S'.s E' mkNon⟩
    · cases c
  · cases c
theorem fn_step {k : Nat} (M : MOk K mg gl fn) (ih : ∀ (f : Nat) (d : Df), Tb[f]? = some d → DefOk P w K mg base Tb k f d) {f : Nat} {d : Df} {q : He.DefD} {fd : FuncData} (hq : Tb[f]? = some d) (c5 : C8.scC d.N (d.N.take d.np) q.scope = true) (c6 : d.np ≤ d.N.length) (c8 : chkZ ⟨d.N, q.scope, fun _ => true, Tb, gl⟩ d.body q.body = true)
    {dvs : List V} {kws : List (Str × V)} (F : FunD K q.name q.qual q.params q.body q.scope dvs kws (He.fAd K q.at_) fd) : FnOk P w K mg base cxz (k + 1) (He.fAd K q.at_) fd (d.N.take d.np) (spF K (callN Tb (k + 1)) f d.np) := by
  have S := C8.fnScope_by c5
  refine F.ok (N := d.N) (ps := d.N.take d.np) S (fun vs H Q E h => ?_) fun cdv A outer s H vs Q E hr hsp => ?_
  · rw [h.1, List.length_take, Nat.min_eq_left c6]
  · let X := (cxOf cxz P w K mg base d.N q.qual q.scope (He.fAd K q.at_) cdv A outer s H E).nox
    have xok : XOk (callN Tb k) k ⟨d.N, q.scope, fun _ => true, Tb, gl⟩ X := {
      N := rfl
      sc := rfl
      fn := rfl
      nd := S.nd
      calm := rfl
      hu := by
        have := hr.un
        show (A.deeper (envOfC q.qual q.scope s.heap.objs.size (He.fAd K q.at_) cdv)).units + 64 < cLine
        omega
      room := hr
      blt := M.blt
      len := fun f ds st d st' h => callN_len h
      call := fun f' q' hq' => ih f' q' hq'
      glo := M.glo }
    have sok : SOk (callN Tb k) k ⟨d.N, q.scope, fun _ => true, Tb, gl⟩ X := ⟨xok, S.kind, rfl⟩
    exact ⟨tZ K (callN Tb k) d.body, PSs.nox (zsnd sok d.body q.body c8), body_q hq (X := X) rfl hsp⟩
theorem all_ok (M : MOk K mg gl fn) (ck : chkTab Tb gl Tb fn = true) : ∀ (k f : Nat) (d : Df), Tb[f]? = some d → DefOk P w K mg base Tb k f d := by
  intro k
  induction k with
  | zero =>
    intro f d hq
    obtain ⟨q, h1, h2⟩ := chkTab_at ck hq
    simp only [chkDef, Bool.and_eq_true, decide_eq_true_eq, List.isEmpty_iff] at h2
    obtain ⟨⟨⟨⟨⟨⟨⟨c1, c2⟩, c3⟩, c4⟩, c5⟩, c6⟩, c7⟩, c8⟩ := h2
    obtain ⟨fd, F⟩ := M.fns f q h1
    have dv : q.dvs K = [] := by unfold He.DefD.dvs; rw [c3]; rfl
    rw [dv] at F
    have S := C8.fnScope_by c5
    refine ⟨He.fAd K q.at_, fd, d.N.take d.np, ⟨fun vs H Q E h => ?_, fun A outer s H args us vs Q E hr e0 hb hv hsp => ?_⟩, ?_, F.kp, F.bindsN fun kV doc pm an cdv ct us hl => bind_plain c7 (S.nd.sublist (List.take_sublist _ _)) kV doc pm an cdv ct us hl⟩
    · rw [h.1, List.length_take, Nat.min_eq_left c6]
    · obtain ⟨_, W, L, st, ds, r, st', S, rs, c, kt⟩ := hsp
      simp [callN] at c
    · have := M.adr f q h1
      rw [c2] at this
      rw [c2]
      exact this
  | succ k ih =>
    intro f d hq
    obtain ⟨q, h1, h2⟩ := chkTab_at ck hq
    simp only [chkDef, Bool.and_eq_true, decide_eq_true_eq, List.isEmpty_iff] at h2
    obtain ⟨⟨⟨⟨⟨⟨⟨c1, c2⟩, c3⟩, c4⟩, c5⟩, c6⟩, c7⟩, c8⟩ := h2
    obtain ⟨fd, F⟩ := M.fns f q h1
    have dv : q.dvs K = [] := by unfold He.DefD.dvs; rw [c3]; rfl
    rw [dv] at F
    have S := C8.fnScope_by c5
    refine ⟨He.fAd K q.at_, fd, d.N.take d.np, fn_step M ih hq c5 c6 c8 F, ?_, F.kp, F.bindsN fun kV doc pm an cdv ct us hl => bind_plain c7 (S.nd.sublist (List.take_sublist _ _)) kV doc pm an cdv ct us hl⟩
    have := M.adr f q h1
    rw [c2] at this
    rw [c2]
    exact this
end
/-! ## A law over a table -/
section
variable {P : Program} {w : World} {K : PySem.W.Frag} {h : Heap} {mg : Str → Option Value} {Tb : List Df} {gl : List (Str × D)} {fn : List He.DefD} {fa : List He.Fa}
/-- what the law at place f is asked -/
theorem law_fn (X : K.In h) (G : h.Ns mainGlobals mg) (c : He.SaysD fa fn K) (kf : chkFa gl fn fa = true) (ck : chkTab Tb gl Tb fn = true) {f : Nat} {d : Df} (hf : Tb[f]? = some d) (hn : d.np = 1) {x : Str} (hx : d.N.take 1 = [x]) {n k : Nat} (hlen : ∀ ns : List Int, ns.length ≤ n → ns.length ≤ sizeLine) (good : ∀ ns : List Int, ns.length ≤ n → ∃ st', callN Tb k f [.kl (ns.map .int)] [] = some (.bl true, st'))
    {a : Addr} (ha : mg d.name = some (.ref a)) :
    ∃ (fd : FuncData) (sp : Sp), (∀ (s : Shared) (u : Value), BindsTo s fd ⟨[u], []⟩ [(x, u)]) ∧ (∀ (H : Hp) (p : Addr) (ns : List Int), ns.length ≤ n → Only H → SqL K H p (ns.map V.int) → sp [.ref p] H (fun v _ => v = .bl true) fun _ _ _ => False) ∧
      ∀ base : Heap, K.In base → base.Ns mainGlobals mg → FnOk P w K mg base cxz k a fd [x] sp := by
  have M : MOk K mg gl fn := mok_of X G c kf
  obtain ⟨q, h1, h2⟩ := chkTab_at ck hf
  simp only [chkDef, Bool.and_eq_true, decide_eq_true_eq, List.isEmpty_iff] at h2
  obtain ⟨⟨⟨⟨⟨⟨⟨c1, c2⟩, c3⟩, c4⟩, c5⟩, c6⟩, c7⟩, c8⟩ := h2
  obtain ⟨fd, F⟩ := M.fns f q h1
  have dv : q.dvs K = [] := by unfold He.DefD.dvs; rw [c3]; rfl
  rw [dv] at F
  have S := C8.fnScope_by c5
  have m0 := M.adr f q h1
  rw [c2] at m0
  have ea : a = He.fAd K q.at_ := by
    have e := ha.symm.trans m0
    rw [c2]
    cases e
    rfl
  subst ea
  rw [hn] at c7
  rw [hx] at c7
  have nd1 : ([x] : List Str).Nodup := by simp
  have bd := fun kV doc pm an cdv ct us hl => bind_plain (x := q.name) (qual := q.qual) (body := q.body) (scope := q.scope) c7 nd1 kV doc pm an cdv ct us hl
  refine ⟨fd, spF K (callN Tb k) f 1, fun s u => FunD.bindsA (ps := [x]) F bd s [u] rfl, fun H p ns hl hO hS => ?_, fun base hb hbn => ?_⟩
  · obtain ⟨st', good⟩ := good ns hl
    have kl : KL K H p (ns.map V.int) := by
      rcases hS with (z | ⟨o, z⟩) | z
      · rcases hO p with q | ⟨o, xs, q⟩
        · rw [z] at q; cases q
        · rw [z] at q; cases q
      · exact .inl ⟨o, z⟩
      · exact .inr fun H' => .inr z
    have hz : (ns.map V.int).length ≤ sizeLine := by
      rcases hS with z | ⟨o, its, m, q1, q2, q3, q4, q5, q6⟩
      · have := hlen ns hl
        rw [List.length_map]
        exact this
      · have e := q6.length
        simp only [Array.length_toList] at e
        omega
    have rs : ∀ (ns : List Int), Rps K (fun _ => False) [] H (ns.map D.int) (ns.map V.int) := fun ns => by
      induction ns with
      | nil => exact .nil
      | cons i ns ih => exact .cons mkInt ih
    refine ⟨rfl, fun _ => False, [], [], _, _, st', ⟨fun _ h => h.elim, fun _ h => (by cases h), List.nodup_nil, rfl, fun n o a h => (by simp at h)⟩, .cons ?_ .nil, good, fun W' L' H' v S' E' rv => rBl rv⟩
    simp only [Rp]
    exact ⟨p, ns.map V.int, rfl, kl, hz, rs ns⟩
  · cases k with
    | zero =>
      obtain ⟨st', g⟩ := good [] (Nat.zero_le _)
      simp [callN] at g
    | succ k =>
      have z := fn_step (P := P) (w := w) (base := base) M (fun f d hq => all_ok M ck k f d hq) hf c5 c6 c8 F
      rw [hn, hx] at z
      exact z
end
end Ro
end
section
set_option Elab.async false
set_option linter.all false
set_option maxRecDepth 100000
set_option maxHeartbeats 0
namespace Hd
open PySem PySem.Spec PyProof.Rows L2
def top (i : Nat) : Stmt := PySem.Challenge.pw_roofmates_k68_across_debts_paid_in_any_o.main.body.getD i (.Pass ⟨0, 0, 0, 0⟩)
def dd (n : Str) (i : Nat) : He.DefD := ⟨(n, none), n, n, defArgs (top i), defBody (top i), defScope (top i), [], []⟩
def fn0 : List He.DefD := [dd "is_number" 6, dd "is_long" 7, dd "tupled" 8, dd "are_numbers" 9, dd "is_debts_in" 13, dd "sure_debts" 14, dd "sure_owing" 15, dd "is_like_deed" 16, dd "sure_deeds" 17, dd "payers_in" 18, dd "rings_in" 19, dd "deeds_in" 20, dd "done_in" 21, dd "paid_in" 22, dd "cleared_in" 23, dd "gone_of" 24, dd "debt_deeds" 25, dd "debt_done" 26, dd "debts_behind" 27, dd "all_paid" 28, dd "all_cleared" 29, dd "notes_paid" 30, dd "notes_cleared" 31, dd "paying_deeds" 32, dd "clearing_deeds" 33, dd "ring_left" 34, dd "is_clearing" 35, dd "coin_road" 36, dd "_law_box" 38, dd "_law_take" 39, dd "_law_cells" 40, dd "_law_of" 41]
def fn1 : List He.DefD := [dd "_law_pick" 42, dd "_law_lists" 43, dd "_law_debts" 44, dd "_law_counts" 45, dd "_law_is_clearing" 46, dd "law" 47]
def fn : List He.DefD := fn0 ++ fn1
def fa0 : List He.Fa := [.glo "is_number", .glo "is_long", .glo "tupled", .glo "are_numbers", .glo "is_debts_in", .glo "sure_debts", .glo "sure_owing", .glo "is_like_deed", .glo "sure_deeds", .glo "payers_in", .glo "rings_in", .glo "deeds_in", .glo "done_in", .glo "paid_in", .glo "cleared_in", .glo "gone_of", .glo "debt_deeds", .glo "debt_done", .glo "debts_behind", .glo "all_paid", .glo "all_cleared", .glo "notes_paid", .glo "notes_cleared", .glo "paying_deeds", .glo "clearing_deeds", .glo "ring_left", .glo "is_clearing", .glo "coin_road", .glo "_law_box", .glo "_law_take", .glo "_law_cells", .glo "_law_of"]
def fa1 : List He.Fa := [.glo "_law_pick", .glo "_law_lists", .glo "_law_debts", .glo "_law_counts", .glo "_law_is_clearing", .glo "law", .free "len", .free "all", .free "any", .free "tuple", .free "list", .free "int", .free "abs", .free "min", .free "max", .free "sum", .free "sorted", .free "range", .free "enumerate", .free "zip", .free "isinstance", .free "reversed", .free "bool", .free "str", .str "PAY" "pay", .str "RING" "ring"]
def fa : List He.Fa := fa0 ++ fa1
abbrev R : PySem.W.OpenRow := PySem.W.OpenLaw.row PySem.Challenge.rw_roofmates_k68_across_debts_paid_in_any_o
abbrev hk : PySem.W.Hook := He.hookD 4 fa fn
def ob (s : PySem.W.SharedT) : He.AlD := He.obsDG 4 fa fn (HandSHeadRun.getT s)
theorem ob_eq (s : PySem.W.SharedT) : ob s = hk.obs s.abs := He.obsDG_eq (HandSHeadRun.getT_eq s)
def loose0 : List PySem.Str := ["NoThing", "Broken", "CanNot", "Unfit", "is_number", "is_long", "tupled", "are_numbers", "PAY", "RING", "is_debts_in", "sure_debts", "sure_owing", "is_like_deed", "sure_deeds", "payers_in", "rings_in", "deeds_in", "done_in", "paid_in", "cleared_in", "gone_of", "debt_deeds", "debt_done", "debts_behind", "all_paid", "all_cleared", "notes_paid", "notes_cleared", "paying_deeds", "clearing_deeds", "ring_left"]
def loose1 : List PySem.Str := ["is_clearing", "coin_road", "_law_box", "_law_take", "_law_cells", "_law_of", "_law_pick", "_law_lists", "_law_debts", "_law_counts", "_law_is_clearing"]
def loose : List PySem.Str := loose0 ++ loose1
theorem run (w : World) : HandSHeadRun.RunEq R (PySem.W.view R.prog [47]) hk ob 4000 loose w := by
  intro os
  kernel_rfl
end Hd
end
section
set_option maxRecDepth 100000
namespace T68
theorem ckTab : Ro.chkTab Tb gl Tb Hd.fn = true := by decide +kernel
theorem ckFa : Ro.chkFa gl Hd.fn Hd.fa = true := by decide +kernel
end T68
end
section
set_option Elab.async false
set_option linter.all false
set_option maxRecDepth 100000
set_option maxHeartbeats 0
open PySem PySem.W PySem.Calls PyProof.Rows
theorem T68.facts {P : Program} {w : World} {K : PySem.W.Frag} {h : Heap} {mg : Str → Option Value} {a : Addr} {k : Nat} (good : ∀ ns : List Int, ns.length ≤ 63 → ∃ st', Ro.callN T68.Tb k 37 [.kl (ns.map .int)] [] = some (.bl true, st'))
    (X : K.In h) (G : h.Ns mainGlobals mg) (c : He.SaysD Hd.fa Hd.fn K) (ha : mg ("law" : Str) = some (.ref a)) :
    ∃ (fd : FuncData) (sp : L2.Sp), (∀ (s : Shared) (u : Value), BindsTo s fd ⟨[u], []⟩ [("script", u)]) ∧ (∀ (H : L2.Hp) (p : Addr) (ns : List Int), ns.length ≤ 63 → L2.Only H → L2.SqL K H p (ns.map L2.V.int) → sp [.ref p] H (fun v _ => v = .bl true) fun _ _ _ => False) ∧
      ∀ base : Heap, K.In base → base.Ns mainGlobals mg → L2.FnOk P w K mg base Ro.cxz k a fd ["script"] sp :=
  Ro.law_fn (d := T68.d_law) X G c T68.ckFa T68.ckTab rfl rfl rfl (fun ns h => Nat.le_trans h (by decide)) good ha
theorem k68_of (good : ∀ ns : List Int, ns.length ≤ 63 → ∃ st', Ro.callN T68.Tb 20 37 [.kl (ns.map .int)] [] = some (.bl true, st')) : PySem.Challenge.rw_roofmates_k68_across_debts_paid_in_any_o.Holds := by
  w_on; o_law
  refine HandSHeadRun.head_any (r := OpenLaw.row PySem.Challenge.rw_roofmates_k68_across_debts_paid_in_any_o) (q := view (OpenLaw.row PySem.Challenge.rw_roofmates_k68_across_debts_paid_in_any_o).prog [47]) (H := Hd.hk) (ob := Hd.ob) (M := 4000) (loose := Hd.loose) (d := HandSHeadRun.topDef (OpenLaw.row PySem.Challenge.rw_roofmates_k68_across_debts_paid_in_any_o).prog 47) (kwd := []) Hd.ob_eq
    (by kernel_rfl) (fun s => by kernel_rfl) Hd.run (by kernel_rfl) (by kernel_rfl) (by kernel_rfl) (by rfl) (by first | assumption | decide +kernel) (by decide +kernel) ⟨rfl, rfl, rfl, rfl, rfl, by decide +kernel⟩ ?hw ?hc
  case hw => w_witness2
  case hc =>
    refine L2.walk_ofE (l := PySem.Challenge.rw_roofmates_k68_across_debts_paid_in_any_o) (n := 63) (k := 20) (x := "script") (CX := Ro.cxz) rfl (by decide) (by kernel_rfl) ⟨rfl, by decide, by decide⟩ ?F (fun _ _ _ _ z => z)
    intro w mg fa h Y G hmg0
    obtain ⟨K, KX, c⟩ := Y
    have hmg : mg ("law" : PySem.Str) = some (.ref fa) := by
      have e : (HandSHeadRun.topDef (OpenLaw.row PySem.Challenge.rw_roofmates_k68_across_debts_paid_in_any_o).prog 47).name = ("law" : PySem.Str) := by kernel_rfl
      rw [← e]
      exact hmg0
    obtain ⟨fd, sp, hb, hs, hF⟩ := T68.facts (P := (PySem.Challenge.rw_roofmates_k68_across_debts_paid_in_any_o).prog) (w := w) good KX G c hmg
    exact ⟨K, fd, sp, KX, hb, fun H a ns hl hO hS => hs H a ns hl hO hS, fun base b1 b2 => hF base b1 b2⟩
end
section

end
open PySem PySem.W PyProof.Rows
set_option Elab.async false
set_option maxRecDepth 100000 in
set_option maxHeartbeats 8000000 in
theorem PySem.Challenge.cw_roofmates_k68_across_debts_paid_in_any_o_holds : PySem.Challenge.rw_roofmates_k68_across_debts_paid_in_any_o.Holds := by
  exact k68_of fun ns h => T68.law_ok h
