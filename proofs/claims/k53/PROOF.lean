import PyProof.Rows.All
import Wide.All
import OpenK.AllK
import Wide.FinOn
import HandS.ForMost
import HandS.ForExc
import HandS.TupAny
import HandS.TupMul
import HandS.CallSlots
import HandS.Flow
import HandS.Style
import HandS.Wide
import HandS.Deep
import HandS.Conv
import HandS.IsInst
import HandS.TryMany
import HandS.Zip
import KE.KExcSuper
import HandS.ExcInit
import HandS.ExcField
import HandS.Words
import HandS.WordsExc
import HandS.Ends
import HandS.EndBits
import HandS.Head0
import HandS.Head1
import HandS.Head2
import HandS.HeadEnd
import HandS.HeadHook1
import HandS.HeadHook2
import HandS.HeadNt
import HandS.Text
import KE.IntTextLaws
import PySem.Challenge.RW_seedsround_k53_whole_texts_there_and_bac
set_option Elab.async false
set_option linter.all false
set_option maxRecDepth 100000
/-! G1: values as trees, own syntax without positions, an interpreter that can be run. -/
namespace G
open PySem

/-! ### values -/
inductive D where
  | non | bl (b : Bool) | int (i : Int) | str (x : Str)
  | tup (xs : List D) | lst (xs : List D) | scr (xs : List D) | dct (ks vs : List D)
  | ref (n : Nat) | exn (c : Nat) (fs : List D)
instance : Inhabited D := ⟨.non⟩
/-- what changes -/
inductive MO where
  | lst (xs : List D) | dct (t : Bool) (ks vs : List D) | ins (c : Nat) (fs : List (Str × D))
abbrev Mem := List MO
abbrev Sl := List (Option D)
inductive XR (α : Type) where
  | ok (a : α) (m : Mem) | exc (c : Nat) (fs : List D) (m : Mem) | bad
def XR.bind {α β : Type} : XR α → (α → Mem → XR β) → XR β
  | .ok a m, f => f a m
  | .exc c fs m, _ => .exc c fs m
  | .bad, _ => .bad
theorem XR.bind_ok {α β : Type} (a : α) (m : Mem) (f : α → Mem → XR β) : (XR.ok a m).bind f = f a m := rfl
/-- how a statement ends -/
inductive SR where
  | next (σ : Sl) (m : Mem) | ret (d : D) (m : Mem) | exc (c : Nat) (fs : List D) (σ : Sl) (m : Mem)
  | brk (σ : Sl) (m : Mem) | cnt (σ : Sl) (m : Mem) | bad

/-! ### as the kit's data, for == -/
mutual
def D.py : D → Option PyData
  | .non => some .none
  | .bl b => some (.bool b)
  | .int i => some (.int i)
  | .str x => some (.str x)
  | .tup xs => (D.pys xs).map .tuple
  | .lst xs => (D.pys xs).map .list
  | _ => none
def D.pys : List D → Option (List PyData)
  | [] => some []
  | x :: r => match D.py x, D.pys r with
    | some a, some b => some (a :: b)
    | _, _ => none
end

/-! ### frozen: refs from b on are read -/
mutual
def frzW (lk : Nat → Option D) : D → Option D
  | .tup xs => (frzWs lk xs).map .tup
  | .lst xs => (frzWs lk xs).map .lst
  | .dct ks vs => match frzWs lk ks, frzWs lk vs with
    | some a, some b => some (.dct a b)
    | _, _ => none
  | .ref n => lk n
  | .exn c fs => (frzWs lk fs).map (.exn c)
  | .scr xs => (frzWs lk xs).map .scr
  | d => some d
def frzWs (lk : Nat → Option D) : List D → Option (List D)
  | [] => some []
  | x :: r => match frzW lk x, frzWs lk r with
    | some a, some b => some (a :: b)
    | _, _ => none
end
def frzK (m : Mem) (b : Nat) : Nat → Nat → Option D
  | 0, n => if n < b then some (.ref n) else none
  | k + 1, n => if n < b then some (.ref n) else
    match m[n]? with
    | some (.lst xs) => (frzWs (frzK m b k) xs).map .lst
    | some (.dct _ ks vs) => (match frzWs (frzK m b k) ks, frzWs (frzK m b k) vs with
      | some a, some c => some (.dct a c)
      | _, _ => none)
    | _ => none
abbrev frzD (m : Mem) (b : Nat) : D → Option D := frzW (frzK m b 6)
abbrev frzDs (m : Mem) (b : Nat) : List D → Option (List D) := frzWs (frzK m b 6)
def frzO (lk : Nat → Option D) : MO → Option MO
  | .lst xs => (frzWs lk xs).map .lst
  | .dct t ks vs => match frzWs lk ks, frzWs lk vs with
    | some a, some c => some (.dct t a c)
    | _, _ => none
  | .ins c fs => (frzWs lk (fs.map (·.2))).map fun vs => .ins c ((fs.map (·.1)).zip vs)
def frzM (lk : Nat → Option D) : Mem → Option Mem
  | [] => some []
  | o :: r => match frzO lk o, frzM lk r with
    | some a, some c => some (a :: c)
    | _, _ => none
/-- the end of a call: what it made is frozen; keep: its own list stays one that may be changed -/
def leave (keep : Bool) (b : Nat) (d : D) (m : Mem) : XR D :=
  match keep, d with
  | true, .ref n => if n < b then (match frzM (frzK m b 6) (m.take b) with
      | some m0 => .ok (.ref n) m0
      | none => .bad)
    else (match m[n]?, frzM (frzK m b 0) (m.take b) with
      | some (.lst xs), some m0 => (match frzWs (frzK m b 0) xs with
        | some ys => .ok (.ref b) (m0 ++ [.lst ys])
        | none => .bad)
      | _, _ => .bad)
  | _, _ => match frzM (frzK m b 6) (m.take b), frzD m b d with
      | some m0, some d' => .ok d' m0
      | _, _ => .bad
def leaveX (b : Nat) (c : Nat) (fs : List D) (m : Mem) : XR D :=
  match frzM (frzK m b 6) (m.take b), frzDs m b fs with
  | some m0, some gs => .exc c gs m0
  | _, _ => .bad

/-! ### what is walked: its length, its item at a turn -/
structure Src where
  len : Nat
  at' : Nat → Mem → Option D
  ok : Mem → Bool
def srcS (xs : List D) : Src := ⟨xs.length, fun i _ => xs[i]?, fun _ => true⟩
def srcR (n : Nat) (len : Nat) : Src :=
  ⟨len, fun i m => match m[n]? with
    | some (.lst ys) => if ys.length = len then ys[i]? else none
    | _ => none,
   fun m => match m[n]? with
    | some (.lst ys) => decide (ys.length = len)
    | _ => false⟩
/-- a list or tuple as it stands -/
def srcD : D → Mem → Option Src
  | .lst xs, _ => some (srcS xs)
  | .scr xs, _ => some (srcS xs)
  | .tup xs, _ => some (srcS xs)
  | .ref n, m => match m[n]? with
    | some (.lst xs) => some (srcR n xs.length)
    | _ => none
  | .str x, _ => some (srcS (x.cps.toList.map fun c => .str ⟨#[c]⟩))
  | _, _ => none
def srcZ (a b : Src) : Src := ⟨min a.len b.len, fun i m => match a.at' i m, b.at' i m with
  | some x, some y => some (.tup [x, y])
  | _, _ => none, fun m => a.ok m && b.ok m⟩
def srcE (a : Src) : Src := ⟨a.len, fun i m => (a.at' i m).map fun x => .tup [.int i, x], a.ok⟩
def srcN (lo : Int) (n : Nat) (c : Int) : Src := ⟨n, fun i _ => if i < n then some (.int (lo + i * c)) else none, fun _ => true⟩

/-! ### operators -/
def lim : Nat := 16777216
/-- the items of a list -/
def asL (m : Mem) : D → Option (List D)
  | .lst xs => some xs
  | .ref n => match m[n]? with
    | some (.lst xs) => some xs
    | _ => none
  | _ => none
abbrev PR := Option (D × Mem)
def mkL (mu : Bool) (xs : List D) (m : Mem) : PR := if mu then some (.ref m.length, m ++ [.lst xs]) else some (.lst xs, m)
def newL (mu : Bool) (xs : List D) (m : Mem) : PR := if xs.length ≤ lim then mkL mu xs m else none
def addD (mu : Bool) : D → D → Mem → PR
  | .int i, .int j, m => some (.int (i + j), m)
  | .str x, .str y, m => if x.length + y.length ≤ lim then some (.str (x ++ y), m) else none
  | .tup xs, .tup ys, m => if xs.length + ys.length ≤ lim then some (.tup (xs ++ ys), m) else none
  | x, y, m => match asL m x, asL m y with
    | some xs, some ys => newL mu (xs ++ ys) m
    | _, _ => none
def mulOk (i j : Int) : Bool := decide (i.natAbs.log2 + j.natAbs.log2 < 1000000) || (decide (-(2 ^ 64) < i) && decide (i < 2 ^ 64)) || (decide (-(2 ^ 64) < j) && decide (j < 2 ^ 64))
def mulD (mu : Bool) : D → D → Mem → PR
  | .int i, .int j, m => if mulOk i j then some (.int (i * j), m) else none
  | .tup xs, .int k, m => if k ≤ 1000 ∧ xs.length ≤ 1000 ∧ 1 ≤ k ∧ xs ≠ [] then some (.tup (List.replicate k.toNat xs).flatten, m) else none
  | x, .int k, m => match asL m x with
    | some xs => if -(2 ^ 63) ≤ k ∧ k < 2 ^ 63 ∧ xs.length * k.toNat ≤ lim then mkL mu (List.replicate k.toNat xs).flatten m else none
    | none => none
  | _, _, _ => none
def divOk (j : Int) : Bool := (decide (0 < j) && decide (j.natAbs.log2 < 9000)) || (decide (j ≠ 0) && decide (j.natAbs < 1073741824))
def binD (mu : Bool) : Operator → D → D → Mem → PR
  | .Add, x, y, m => addD mu x y m
  | .Sub, .int i, .int j, m => some (.int (i - j), m)
  | .Mult, x, y, m => mulD mu x y m
  | .FloorDiv, .int i, .int j, m => if divOk j then some (.int (i.fdiv j), m) else none
  | .Mod, .int i, .int j, m => if j ≠ 0 then some (.int (i.fmod j), m) else none
  | .Pow, .int i, .int j, m => if 0 ≤ j ∧ j ≤ 1000000 ∧ i.natAbs < 2 ^ 64 then some (.int (i ^ j.toNat), m) else none
  | _, _, _, _ => none
def truthy (m : Mem) : D → Option Bool
  | .non => some false
  | .bl b => some b
  | .int i => some (i != 0)
  | .str x => if x.length ≤ lim then some (x.length != 0) else none
  | .tup xs => some !xs.isEmpty
  | .lst xs => some !xs.isEmpty
  | .scr xs => some !xs.isEmpty
  | .ref n => match m[n]? with
    | some (.lst xs) => some !xs.isEmpty
    | _ => none
  | _ => none
/-- data behind refs too -/
def D.pyM (m : Mem) (d : D) : Option PyData := match frzD m 0 d with
  | some e => e.py
  | none => none
def eqD (m : Mem) (x y : D) : Option Bool := match x.pyM m, y.pyM m with
  | some a, some b => if SeqAt.shaped a && SeqAt.shaped b then some (PyData.eqv a b) else none
  | _, _ => none
def isIt : D → D → Option Bool
  | x, .non => match x with
    | .non => some true
    | _ => some false
  | .bl a, .bl b => some (decide (a = b))
  | _, _ => none
def flatD : D → Option PyData
  | .non => some .none
  | .bl b => some (.bool b)
  | .int i => some (.int i)
  | .str x => some (.str x)
  | _ => none
def asInts : List D → Option (List Int)
  | [] => some []
  | .int i :: r => (asInts r).map (i :: ·)
  | _ => none
def asStrs : List D → Option (List Str)
  | [] => some []
  | .str i :: r => (asStrs r).map (i :: ·)
  | _ => none
def asBls : List D → Option (List Bool)
  | [] => some []
  | .bl i :: r => (asBls r).map (i :: ·)
  | _ => none
def inD (m : Mem) (x : D) : D → Option Bool
  | .str z => match x with
    | .str y => if y.cps.size = 1 then some (decide (y.cps.getD 0 0 ∈ z.cps.toList)) else none
    | _ => none
  | .tup ys => match D.pyM m x, D.pys ys with
    | some a, some ds => if SeqAt.shaped a && SeqAt.shaped (.tuple ds) then some (ds.any fun z => PyData.eqv z a) else none
    | _, _ => none
  | y => match D.pyM m x, D.pyM m y with
    | some a, some (.list ds) => if SeqAt.shaped a && SeqAt.shaped (.list ds) then some (ds.any fun z => PyData.eqv z a) else none
    | _, _ => none
def ltD : D → D → Option Bool
  | .int i, .int j => some (decide (i < j))
  | .tup xs, .tup ys => match asInts xs, asInts ys with
    | some a, some b => some (HT.lexLt a b)
    | _, _ => none
  | _, _ => none
def cmpD (m : Mem) : CmpOp → D → D → Option Bool
  | .Eq, x, y => eqD m x y
  | .NotEq, x, y => (eqD m x y).map (!·)
  | .Lt, x, y => ltD x y
  | .LtE, .int i, .int j => some (decide (i ≤ j))
  | .Gt, .int i, .int j => some (decide (j < i))
  | .GtE, .int i, .int j => some (decide (j ≤ i))
  | .Is, x, y => isIt x y
  | .IsNot, x, y => (isIt x y).map (!·)
  | .In, x, y => inD m x y
  | .NotIn, x, y => (inD m x y).map (!·)
  | _, _, _ => none
def pk (o : Option D) (m : Mem) : PR := o.map fun d => (d, m)
def idxD (m : Mem) : D → D → Option D
  | .tup xs, .int i => L2.atI xs i
  | .lst xs, .int i => L2.atI xs i
  | .scr xs, .int i => L2.atI xs i
  | .str z, .int i => if z.length ≤ lim then (L2.atI z.cps.toList i).map fun c => .str ⟨#[c]⟩ else none
  | .ref n, .int i => match m[n]? with
    | some (.lst xs) => L2.atI xs i
    | _ => none
  | _, _ => none
def cutL {α : Type} (xs : List α) (lo hi : Option Int) : List α := (xs.drop (HT.sIx xs.length 0 lo)).take (HT.sIx xs.length xs.length hi - HT.sIx xs.length 0 lo)
def slcD (mu : Bool) (lo hi : Option Int) : D → Mem → PR
  | .tup xs, m => some (.tup (cutL xs lo hi), m)
  | .scr xs, m => mkL mu (cutL xs lo hi) m
  | .str z, m => if z.length ≤ lim then some (.str (L2.cutS z lo hi), m) else none
  | x, m => match asL m x with
    | some xs => mkL mu (cutL xs lo hi) m
    | none => none

/-! ### built-ins by name -/
inductive Ty where
  | int | bool | str | list | tuple
  deriving DecidableEq
def isTy (m : Mem) : D → Ty → Option Bool
  | .non, _ => some false
  | .bl _, .bool => some true
  | .bl _, .int => some true
  | .bl _, _ => some false
  | .int _, .int => some true
  | .int _, _ => some false
  | .str _, .str => some true
  | .str _, _ => some false
  | .tup _, .tuple => some true
  | .tup _, _ => some false
  | .lst _, .list => some true
  | .lst _, _ => some false
  | .ref n, t => match m[n]? with
    | some (.lst _) => some (decide (t = .list))
    | _ => none
  | _, _ => none
def isTys (m : Mem) (d : D) : List Ty → Option Bool
  | [] => some false
  | t :: r => match isTy m d t with
    | some true => some true
    | some false => isTys m d r
    | none => none
inductive Blt where
  | len | int | abs | str | tuple | list | sum | all | any | min | max | min2 | max2 | sorted
  deriving DecidableEq
def lenD (m : Mem) : D → Option Int
  | .tup xs => some xs.length
  | .lst xs => some xs.length
  | .scr xs => some xs.length
  | .str z => if z.length ≤ lim then some z.length else none
  | .ref n => match m[n]? with
    | some (.lst xs) => some xs.length
    | _ => none
  | _ => none
def items (m : Mem) : D → Option (List D)
  | .tup xs => some xs
  | .lst xs => some xs
  | .scr xs => some xs
  | .ref n => match m[n]? with
    | some (.lst xs) => some xs
    | _ => none
  | _ => none
def sumI (xs : List Int) : Int := xs.sum
def bltD (mu : Bool) (b : Blt) (ds : List D) (m : Mem) : PR :=
  match b, ds with
  | .len, [x] => pk ((lenD m x).map .int) m
  | .int, [.int i] => some (.int i, m)
  | .int, [.bl b] => some (.int (if b then 1 else 0), m)
  | .int, [.str z] => if z.length ≤ 640 then pk ((PySem.intText? z).map .int) m else none
  | .abs, [.int i] => some (.int (if i < 0 then -i else i), m)
  | .str, [.int i] => if i.natAbs.log2 < 1920 then some (.str (toString i), m) else none
  | .tuple, [x] => (match x, items m x with
    | .scr _, _ => none
    | _, some xs => some (.tup xs, m)
    | _, none => none)
  | .list, [.str z] => if z.length ≤ lim then mkL mu (z.cps.toList.map fun c => .str ⟨#[c]⟩) m else none
  | .list, [x] => (match items m x with
    | some xs => mkL mu xs m
    | none => none)
  | .sum, [x] => pk (((asL m x).bind asInts).map fun is => .int (sumI is)) m
  | .all, [x] => pk (((asL m x).bind asBls).map fun is => .bl (is.all id)) m
  | .any, [x] => pk (((asL m x).bind asBls).map fun is => .bl (is.any id)) m
  | .min2, [.int i, .int j] => some (.int (if j < i then j else i), m)
  | .max2, [.int i, .int j] => some (.int (if j > i then j else i), m)
  | _, _ => none
inductive Mth where
  | append | extend | pop | popAt | join | split
  deriving DecidableEq
def mthOk : Mth → D → Bool
  | .join, .str _ => true
  | .split, .str _ => true
  | .append, .ref _ => true
  | .extend, .ref _ => true
  | .pop, .ref _ => true
  | .popAt, .ref _ => true
  | _, _ => false
def mthD (x : Mth) (o : D) (ds : List D) (m : Mem) : PR :=
  match x, o, ds with
  | .append, .ref n, [y] => (match m[n]? with
    | some (.lst xs) => if xs.length < lim then some (.non, m.set n (.lst (xs ++ [y]))) else none
    | _ => none)
  | .extend, .ref n, [y] => (match m[n]?, asL m y with
    | some (.lst xs), some ys => if xs.length + ys.length ≤ lim then some (.non, m.set n (.lst (xs ++ ys))) else none
    | _, _ => none)
  | .popAt, .ref n, [.int i] => (match m[n]? with
    | some (.lst xs) => if -(2 ^ 63) ≤ i ∧ i < 2 ^ 63 then (match L2.ixN xs.length i with
      | some j => (match xs[j]? with
        | some y => some (y, m.set n (.lst (xs.eraseIdx j)))
        | none => none)
      | none => none) else none
    | _ => none)
  | .join, .str z, [y] => (match (items m y).bind asStrs with
    | some ys => if (ys.map (·.length)).sum + ys.length * z.length ≤ lim then some (.str (Txt.join z ys), m) else none
    | none => none)
  | .split, .str z, [.str y] => if y.length ≠ 0 ∧ z.length + 2 ≤ lim then some (.lst ((Txt.split z y).map .str), m) else none
  | _, _, _ => none
end G

set_option Elab.async false
set_option linter.all false
set_option maxRecDepth 100000
/-! G2: own syntax, the interpreter. -/
namespace G
open PySem

mutual
inductive E where
  | var (i : Nat) | cst (c : Const) | glo (k : Nat)
  | bin (mu : Bool) (op : Operator) (a b : E) | neg (a : E) | not (a : E)
  | cmp (op : CmpOp) (a b : E) | chn (op op' : CmpOp) (a b c : E)
  | and (a b : E) | or (a b : E) | ife (c a b : E)
  | call (f : Nat) (as : Es) | blt (mu : Bool) (b : Blt) (as : Es) | mth (x : Mth) (o : E) (as : Es)
  | isi (a : E) (ts : List Ty)
  | idx (a i : E) | slc (mu : Bool) (a : E) (lo hi : Eo)
  | tup (as : Es) | lst (mu : Bool) (as : Es)
  | lc (mu : Bool) (own : List Nat) (tg : Tg) (it : It) (cs : Es) (elt : E)
  | efl (i : Nat)
inductive Es where
  | nil | cons (a : E) (r : Es)
inductive Eo where
  | no | so (a : E)
inductive It where
  | seq (a : E) | rng (as : Es) | zip (a b : E) | enu (a : E)
/-- a target made of names -/
inductive Tg where
  | nm (i : Nat) | tp (ts : Tgs)
inductive Tgs where
  | nil | cons (t : Tg) (r : Tgs)
end
mutual
/-- a target of an assignment -/
inductive T where
  | nm (i : Nat) | sub (o i : E) | tp (ts : Ts)
inductive Ts where
  | nil | cons (t : T) (r : Ts)
end
mutual
inductive S where
  | asg (t : T) (e : E) | par (is : List Nat) (es : Es) | ex (e : E) | ret (e : E) | retN
  | iff (c : E) (a b : Ss) | for (tg : Tg) (it : It) (b : Ss) | whl (c : E) (b : Ss)
  | rse (c : Nat) (as : Es) | try (b : Ss) (nc : Nat) (hs : Hs) | brk | cnt | pass
inductive Ss where
  | nil | cons (s : S) (r : Ss)
/-- except clauses: the class; return k, or return k, e.number with e's slot -/
inductive Hs where
  | nil | retC (c : Nat) (k : Const) (r : Hs) | retX (c : Nat) (i : Nat) (k : Const) (r : Hs)
end
def Es.len : Es → Nat
  | .nil => 0
  | .cons _ r => r.len + 1

def cstD : Const → Option D
  | .none => some .non
  | .bool b => some (.bl b)
  | .int i => some (.int i)
  | .str x => some (.str x)
  | _ => none
def ofO (o : Option D) (m : Mem) : XR D := match o with
  | some d => .ok d m
  | none => .bad
def ofB (o : Option Bool) (m : Mem) : XR D := match o with
  | some d => .ok (.bl d) m
  | none => .bad
def ofP (o : PR) : XR D := match o with
  | some p => .ok p.1 p.2
  | none => .bad
def ofL (o : Option (List D × Mem)) : XR (List D) := match o with
  | some p => .ok p.1 p.2
  | none => .bad
def sget (σ : Sl) (i : Nat) : Option D := match σ[i]? with
  | some (some d) => some d
  | _ => none
def wipeD (σ : Sl) : List Nat → Sl
  | [] => σ
  | v :: vs => (wipeD σ vs).set v none
mutual
def asgG : Tg → D → Sl → Option Sl
  | .nm i, d, σ => some (σ.set i (some d))
  | .tp ts, .tup xs, σ => asgGs ts xs σ
  | .tp _, _, _ => none
def asgGs : Tgs → List D → Sl → Option Sl
  | .nil, [], σ => some σ
  | .cons t r, x :: xs, σ => match asgG t x σ with
    | some σ' => asgGs r xs σ'
    | none => none
  | _, _, _ => none
end
/-- the turns of a comprehension -/
def lcLoop (S : Src) (g : D → Sl → Option Sl) (tst : Sl → Mem → XR Bool) (el : Sl → Mem → XR D) (σ : Sl) : Nat → Nat → List D → Mem → XR (List D)
  | 0, _, acc, m => if S.ok m then .ok acc m else .bad
  | k + 1, i, acc, m => match S.at' i m with
    | none => .bad
    | some d => match g d σ with
      | none => .bad
      | some σ' => match tst σ' m with
        | .ok true m1 => (match el σ' m1 with
          | .ok y m2 => if acc.length < lim then lcLoop S g tst el σ k (i + 1) (acc ++ [y]) m2 else .bad
          | _ => .bad)
        | .ok false m1 => lcLoop S g tst el σ k (i + 1) acc m1
        | _ => .bad
def rngS (ds : List D) : Option Src := match ds with
  | [.int j] => if -(2 ^ 62) ≤ j ∧ j < 2 ^ 62 then some (srcN 0 j.toNat 1) else none
  | [.int i, .int j] => if -(2 ^ 62) ≤ i ∧ i < 2 ^ 62 ∧ -(2 ^ 62) ≤ j ∧ j < 2 ^ 62 then some (srcN i (j - i).toNat 1) else none
  | _ => none
def ofS (o : Option Src) (m : Mem) : XR Src := match o with
  | some d => .ok d m
  | none => .bad
abbrev Fns := Nat → List D → Mem → XR D

def evH : Hs → Nat → List D → Sl → Mem → SR
  | .nil, c, fs, σ, m => .exc c fs σ m
  | .retC c' k r, c, fs, σ, m => if c = c' then (match cstD k with
      | some d => .ret d m
      | none => .bad)
    else evH r c fs σ m
  | .retX c' i k r, c, fs, σ, m => if c = c' then (match cstD k, fs with
      | some d, [e] => if i < σ.length then .ret (.tup [d, e]) m else .bad
      | _, _ => .bad)
    else evH r c fs σ m
section
variable (Φ : Fns) (Gl : List D)
mutual
def evE : E → Sl → Mem → XR D
  | .var i, σ, m => ofO (sget σ i) m
  | .cst c, _, m => ofO (cstD c) m
  | .glo k, _, m => ofO (Gl[k]?) m
  | .bin mu op a b, σ, m => (evE a σ m).bind fun x m1 => (evE b σ m1).bind fun y m2 => ofP (binD mu op x y m2)
  | .neg a, σ, m => (evE a σ m).bind fun x m1 => match x with
    | .int i => .ok (.int (-i)) m1
    | _ => .bad
  | .not a, σ, m => (evE a σ m).bind fun x m1 => match truthy m1 x with
    | some k => .ok (.bl !k) m1
    | none => .bad
  | .cmp op a b, σ, m => (evE a σ m).bind fun x m1 => (evE b σ m1).bind fun y m2 => ofB (cmpD m2 op x y) m2
  | .chn op op' a b c, σ, m => (evE a σ m).bind fun x m1 => (evE b σ m1).bind fun y m2 => match cmpD m2 op x y with
    | some true => (evE c σ m2).bind fun z m3 => ofB (cmpD m3 op' y z) m3
    | some false => .ok (.bl false) m2
    | none => .bad
  | .and a b, σ, m => (evE a σ m).bind fun x m1 => match truthy m1 x with
    | some true => evE b σ m1
    | some false => .ok x m1
    | none => .bad
  | .or a b, σ, m => (evE a σ m).bind fun x m1 => match truthy m1 x with
    | some true => .ok x m1
    | some false => evE b σ m1
    | none => .bad
  | .ife c a b, σ, m => (evE c σ m).bind fun x m1 => match truthy m1 x with
    | some true => evE a σ m1
    | some false => evE b σ m1
    | none => .bad
  | .call f as, σ, m => (evEs as σ m).bind fun ds m1 => Φ f ds m1
  | .blt mu b as, σ, m => (evEs as σ m).bind fun ds m1 => ofP (bltD mu b ds m1)
  | .mth x o as, σ, m => (evE o σ m).bind fun d m1 => if mthOk x d = true then (evEs as σ m1).bind fun ds m2 => ofP (mthD x d ds m2) else .bad
  | .isi a ts, σ, m => (evE a σ m).bind fun x m1 => ofB (isTys m1 x ts) m1
  | .idx a i, σ, m => (evE a σ m).bind fun x m1 => (evE i σ m1).bind fun y m2 => ofO (idxD m2 x y) m2
  | .slc mu a lo hi, σ, m => (evE a σ m).bind fun x m1 => (evEo lo σ m1).bind fun l m2 => (evEo hi σ m2).bind fun h m3 => ofP (slcD mu l h x m3)
  | .tup as, σ, m => (evEs as σ m).bind fun ds m1 => ofP (if ds.length ≤ lim then some (.tup ds, m1) else none)
  | .lst mu as, σ, m => (evEs as σ m).bind fun ds m1 => ofP (newL mu ds m1)
  | .lc mu own tg it cs elt, σ, m => (evI it σ m).bind fun S m1 =>
      (lcLoop S (asgG tg) (fun σ' m' => evC cs σ' m') (fun σ' m' => evE elt σ' m') (wipeD σ own) S.len 0 [] m1).bind fun xs m2 => ofP (mkL mu xs m2)
  | .efl i, σ, m => match sget σ i with
    | some (.exn _ [d]) => .ok d m
    | _ => .bad
def evEs : Es → Sl → Mem → XR (List D)
  | .nil, _, m => .ok [] m
  | .cons a r, σ, m => (evE a σ m).bind fun x m1 => (evEs r σ m1).bind fun xs m2 => .ok (x :: xs) m2
def evEo : Eo → Sl → Mem → XR (Option Int)
  | .no, _, m => .ok none m
  | .so a, σ, m => (evE a σ m).bind fun x m1 => match x with
    | .int i => .ok (some i) m1
    | _ => .bad
def evI : It → Sl → Mem → XR Src
  | .seq a, σ, m => (evE a σ m).bind fun x m1 => ofS (srcD x m1) m1
  | .rng as, σ, m => (evEs as σ m).bind fun ds m1 => ofS (rngS ds) m1
  | .zip a b, σ, m => (evE a σ m).bind fun x m1 => (evE b σ m1).bind fun y m2 => match x, y with
    | .tup xs, .tup ys => .ok (srcZ (srcS xs) (srcS ys)) m2
    | .tup _, _ => .bad
    | _, .tup _ => .bad
    | .str _, _ => .bad
    | _, .str _ => .bad
    | x, y => (match srcD x m2, srcD y m2 with
      | some s, some t => .ok (srcZ s t) m2
      | _, _ => .bad)
  | .enu a, σ, m => (evE a σ m).bind fun x m1 => match x with
    | .str _ => .bad
    | .tup _ => .bad
    | x => (match srcD x m1 with
      | some s => .ok (srcE s) m1
      | _ => .bad)
/-- the tests of a clause: none or one -/
def evC : Es → Sl → Mem → XR Bool
  | .nil, _, m => .ok true m
  | .cons a .nil, σ, m => (evE a σ m).bind fun x m1 => match truthy m1 x with
    | some k => .ok k m1
    | none => .bad
  | .cons _ (.cons _ _), _, _ => .bad
end
/-- an expression as a test -/
def evT (e : E) (σ : Sl) (m : Mem) : XR Bool := (evE Φ Gl e σ m).bind fun x m1 => match truthy m1 x with
    | some k => .ok k m1
    | none => .bad
/-- o[i] = v -/
def putD (o i v : D) (m : Mem) : Option Mem := match o, i with
  | .ref n, .int k => (match m[n]? with
    | some (.lst xs) => (match L2.ixN xs.length k with
      | some j => some (m.set n (.lst (xs.set j v)))
      | none => none)
    | _ => none)
  | _, _ => none
/-- an assignment's end -/
inductive AR where
  | ok (σ : Sl) (m : Mem) | bad
mutual
def asgT : T → D → Sl → Mem → AR
  | .nm i, d, σ, m => .ok (σ.set i (some d)) m
  | .sub o i, d, σ, m => match evE Φ Gl o σ m with
    | .ok x m1 => (match evE Φ Gl i σ m1 with
      | .ok y m2 => (match putD x y d m2 with
        | some m3 => .ok σ m3
        | none => .bad)
      | _ => .bad)
    | _ => .bad
  | .tp ts, .tup xs, σ, m => asgTs ts xs σ m
  | .tp _, _, _, _ => .bad
def asgTs : Ts → List D → Sl → Mem → AR
  | .nil, [], σ, m => .ok σ m
  | .cons t r, x :: xs, σ, m => match asgT t x σ m with
    | .ok σ' m' => asgTs r xs σ' m'
    | .bad => .bad
  | _, _, _, _ => .bad
end
def SR.bind : SR → (Sl → Mem → SR) → SR
  | .next σ m, f => f σ m
  | r, _ => r
def parSet : List Nat → List D → Sl → Option Sl
  | [i, j], [x, y], σ => some ((σ.set i (some x)).set j (some y))
  | [i, j, l], [x, y, z], σ => some (((σ.set i (some x)).set j (some y)).set l (some z))
  | _, _, _ => none
def forLoop (S : Src) (g : D → Sl → Option Sl) (body : Sl → Mem → SR) : Nat → Nat → Sl → Mem → SR
  | 0, _, σ, m => if S.ok m then .next σ m else .bad
  | k + 1, i, σ, m => match S.at' i m with
    | none => .bad
    | some d => match g d σ with
      | none => .bad
      | some σ' => match body σ' m with
        | .next σ2 m2 => forLoop S g body k (i + 1) σ2 m2
        | .cnt σ2 m2 => forLoop S g body k (i + 1) σ2 m2
        | .brk σ2 m2 => .next σ2 m2
        | r => r
def whlLoop (c : Sl → Mem → XR Bool) (body : Sl → Mem → SR) : Nat → Sl → Mem → SR
  | 0, _, _ => .bad
  | k + 1, σ, m => match c σ m with
    | .ok true m1 => (match body σ m1 with
      | .next σ2 m2 => whlLoop c body k σ2 m2
      | .cnt σ2 m2 => whlLoop c body k σ2 m2
      | .brk σ2 m2 => .next σ2 m2
      | r => r)
    | .ok false m1 => .next σ m1
    | .exc e fs m1 => .exc e fs σ m1
    | .bad => .bad
def ofX {α : Type} (x : XR α) (σ : Sl) (f : α → Mem → SR) : SR := match x with
  | .ok a m => f a m
  | .exc c fs m => .exc c fs σ m
  | .bad => .bad
variable (W : Nat)
mutual
def evS : S → Sl → Mem → SR
  | .asg t e, σ, m => ofX (evE Φ Gl e σ m) σ fun d m1 => match asgT Φ Gl t d σ m1 with
    | .ok σ' m' => .next σ' m'
    | .bad => .bad
  | .par is es, σ, m => ofX (evEs Φ Gl es σ m) σ fun ds m1 => match parSet is ds σ with
    | some σ' => .next σ' m1
    | none => .bad
  | .ex e, σ, m => ofX (evE Φ Gl e σ m) σ fun _ m1 => .next σ m1
  | .ret e, σ, m => ofX (evE Φ Gl e σ m) σ fun d m1 => .ret d m1
  | .retN, σ, m => .ret .non m
  | .iff c a b, σ, m => ofX (evT Φ Gl c σ m) σ fun k m1 => match k with
    | true => evSs a σ m1
    | false => evSs b σ m1
  | .for tg it b, σ, m => ofX (evI Φ Gl it σ m) σ fun S m1 => forLoop S (asgG tg) (fun σ' m' => evSs b σ' m') S.len 0 σ m1
  | .whl c b, σ, m => whlLoop (fun σ' m' => evT Φ Gl c σ' m') (fun σ' m' => evSs b σ' m') W σ m
  | .rse c as, σ, m => ofX (evEs Φ Gl as σ m) σ fun ds m1 => .exc c ds σ m1
  | .try b nc hs, σ, m => match evSs b σ m with
    | .exc c fs σ1 m1 => if c < nc then evH hs c fs σ1 m1 else .bad
    | r => r
  | .brk, σ, m => .brk σ m
  | .cnt, σ, m => .cnt σ m
  | .pass, σ, m => .next σ m
def evSs : Ss → Sl → Mem → SR
  | .nil, σ, m => .next σ m
  | .cons s r, σ, m => (evS s σ m).bind fun σ' m' => evSs r σ' m'
end
end

/-- a def: its names by slot (parameters first), how many parameters, whether the list it hands back may be changed -/
structure Fn where
  name : String
  N : List String
  np : Nat
  keep : Bool
  body : Ss
def slots (N : Nat) (ds : List D) : Sl := ds.map some ++ List.replicate (N - ds.length) none
def endF (keep : Bool) (b : Nat) : SR → XR D
  | .ret d m => leave keep b d m
  | .next _ m => leave keep b .non m
  | .exc c fs _ m => leaveX b c fs m
  | _ => .bad
def whileW : Nat := 1000000
def callF (P : List Fn) (Gl : List D) : Nat → Fns
  | 0 => fun _ _ _ => .bad
  | n + 1 => fun f ds m => match P[f]? with
    | none => .bad
    | some F => if ds.length = F.np then endF F.keep m.length (evSs (callF P Gl n) Gl whileW F.body (slots F.N.length ds) m) else .bad
end G

set_option Elab.async false
set_option linter.all false
set_option maxRecDepth 100000
/-! G3: how trees lie in the kit's heap. -/
namespace G
open PySem L2
variable {K : PySem.W.Frag}

/-- where the cells stand; z: lists that are being filled, seen by nobody -/
structure Rr where
  c : List Addr
  z : List Addr
instance : Membership Addr Rr := ⟨fun ρ a => a ∈ ρ.c ∨ a ∈ ρ.z⟩
theorem mem_rr {ρ : Rr} {a : Addr} : a ∈ ρ ↔ a ∈ ρ.c ∨ a ∈ ρ.z := Iff.rfl
theorem mem_c {ρ : Rr} {a : Addr} (h : a ∈ ρ.c) : a ∈ ρ := .inl h
def Rr.push (ρ : Rr) (p : Addr) : Rr := ⟨ρ.c ++ [p], ρ.z⟩
def Rr.take (ρ : Rr) (b : Nat) : Rr := ⟨ρ.c.take b, ρ.z⟩
def Rr.hide (ρ : Rr) (p : Addr) : Rr := ⟨ρ.c, p :: ρ.z⟩

/-- a tuple of the written part -/
def KTup (K : PySem.W.Frag) (a : Addr) (xs : List V) : Prop :=
  ∃ (o : Obj) (its : Array Value) (n : Nat), K.lookup a = some o ∧ o.cls = .type "tuple" ∧ o.data = .seq its n ∧ its.size ≤ sizeLine ∧ Vals xs its.toList
def KLst (K : PySem.W.Frag) (a : Addr) (xs : List V) : Prop :=
  ∃ (o : Obj) (its : Array Value) (n : Nat), K.lookup a = some o ∧ o.cls = .type "list" ∧ o.dict = none ∧ o.data = .seq its n ∧ its.size ≤ sizeLine ∧ Vals xs its.toList
def TupAt (K : PySem.W.Frag) (ρ : Rr) (H : Hp) (a : Addr) (vs : List V) : Prop := (Rd H a (.tup vs) ∧ a ∉ ρ) ∨ KTup K a vs
def ScrAt (K : PySem.W.Frag) (ρ : Rr) (H : Hp) (a : Addr) (vs : List V) : Prop := (Rd H a (.lst vs) ∧ a ∉ ρ) ∨ KLst K a vs
theorem TupAt.sq {ρ : Rr} {H : Hp} {a : Addr} {vs : List V} (h : TupAt K ρ H a vs) : SqT K H a vs := by
  rcases h with h | h
  · exact .inl h.1
  · exact .inr h
theorem ScrAt.sq {ρ : Rr} {H : Hp} {a : Addr} {vs : List V} (h : ScrAt K ρ H a vs) : SqL K H a vs := by
  rcases h with h | h
  · exact .inl h.1
  · exact .inr h

mutual
def Rep (K : PySem.W.Frag) (ρ : Rr) (H : Hp) : D → V → Prop
  | .non, v => v = .non
  | .bl b, v => v = .bl b
  | .int i, v => v = .int i
  | .str x, v => v = .str x
  | .tup xs, v => ∃ a vs, v = .ref a ∧ TupAt K ρ H a vs ∧ vs.length ≤ sizeLine ∧ Reps K ρ H xs vs
  | .lst xs, v => ∃ a vs, v = .ref a ∧ H a = some (.lst vs) ∧ a ∉ ρ ∧ vs.length ≤ sizeLine ∧ Reps K ρ H xs vs
  | .scr xs, v => ∃ a vs, v = .ref a ∧ ScrAt K ρ H a vs ∧ vs.length ≤ sizeLine ∧ Reps K ρ H xs vs
  | .ref n, v => ∃ a, v = .ref a ∧ ρ.c[n]? = some a
  | .dct _ _, _ => False
  | .exn _ _, v => False
def Reps (K : PySem.W.Frag) (ρ : Rr) (H : Hp) : List D → List V → Prop
  | [], vs => vs = []
  | x :: xs, vs => ∃ v r, vs = v :: r ∧ Rep K ρ H x v ∧ Reps K ρ H xs r
end

/-- what a step leaves as it was: all but the cells -/
structure Ext (ρ ρ' : Rr) (H H' : Hp) : Prop where
  pre : ∃ t, ρ' = ⟨ρ.c ++ t, ρ.z⟩
  keep : ∀ a o, H a = some o → a ∉ ρ.c → H' a = some o
  new : ∀ a ∈ ρ'.c, a ∈ ρ.c ∨ H a = none
  live : ∀ a ∈ ρ.c, H a ≠ none → H' a ≠ none
theorem Ext.refl (ρ : Rr) (H : Hp) : Ext ρ ρ H H := ⟨⟨[], by simp⟩, fun _ _ h _ => h, fun _ h => .inl h, fun _ _ h => h⟩
theorem Ext.z {ρ ρ' : Rr} {H H' : Hp} (e : Ext ρ ρ' H H') : ρ'.z = ρ.z := by
  obtain ⟨t, rfl⟩ := e.pre
  rfl
theorem Ext.stays {ρ ρ' : Rr} {H H' : Hp} (e : Ext ρ ρ' H H') {a : Addr} (h : H a ≠ none) : H' a ≠ none := by
  by_cases m : a ∈ ρ.c
  · exact e.live a m h
  · cases q : H a with
    | none => exact absurd q h
    | some o => rw [e.keep a o q m]; exact fun z => nomatch z
theorem Ext.trans {ρ ρ1 ρ2 : Rr} {H H1 H2 : Hp} (a : Ext ρ ρ1 H H1) (b : Ext ρ1 ρ2 H1 H2) : Ext ρ ρ2 H H2 where
  pre := by
    obtain ⟨t, rfl⟩ := a.pre
    obtain ⟨u, rfl⟩ := b.pre
    exact ⟨t ++ u, by rw [List.append_assoc]⟩
  keep := fun c o h n => by
    refine b.keep c o (a.keep c o h n) fun m => ?_
    rcases a.new c m with z | z
    · exact n z
    · rw [z] at h; cases h
  new := fun c m => by
    rcases b.new c m with z | z
    · exact a.new c z
    · by_cases q : c ∈ ρ.c
      · exact .inl q
      · refine .inr ?_
        cases w : H c with
        | none => rfl
        | some o => rw [a.keep c o w q] at z; cases z
  live := fun c m h => by
    obtain ⟨t, e⟩ := a.pre
    exact b.live c (by rw [e]; exact List.mem_append_left _ m) (a.live c m h)
theorem Ext.get {ρ ρ' : Rr} {H H' : Hp} (e : Ext ρ ρ' H H') {n : Nat} {a : Addr} (h : ρ.c[n]? = some a) : ρ'.c[n]? = some a := by
  obtain ⟨t, rfl⟩ := e.pre
  show (ρ.c ++ t)[n]? = _
  rw [List.getElem?_append_left (List.getElem?_eq_some_iff.mp h).1]
  exact h
theorem Ext.out {ρ ρ' : Rr} {H H' : Hp} (e : Ext ρ ρ' H H') {a : Addr} {o : HO} (h : H a = some o) (n : a ∉ ρ) : a ∉ ρ' := fun m => by
  rcases m with m | m
  · rcases e.new a m with z | z
    · exact n (.inl z)
    · rw [h] at z; cases z
  · rw [e.z] at m; exact n (.inr m)
theorem Ext.kept {ρ ρ' : Rr} {H H' : Hp} (e : Ext ρ ρ' H H') {a : Addr} {o : HO} (h : H a = some o) (n : a ∉ ρ) : H' a = some o := e.keep a o h fun m => n (.inl m)
theorem Rd.ext {ρ ρ' : Rr} {H H' : Hp} (e : Ext ρ ρ' H H') {a : Addr} {u : HO} (h : Rd H a u) (n : a ∉ ρ) : Rd H' a u ∧ a ∉ ρ' := by
  rcases h with h | ⟨o, h⟩
  · exact ⟨.inl (e.kept h n), e.out h n⟩
  · exact ⟨.inr ⟨o, e.kept h n⟩, e.out h n⟩
mutual
theorem Rep.ext {ρ ρ' : Rr} {H H' : Hp} (e : Ext ρ ρ' H H') : ∀ (d : D) (v : V), Rep K ρ H d v → Rep K ρ' H' d v
  | .non, v, h => by simpa only [Rep] using h
  | .bl _, v, h => by simpa only [Rep] using h
  | .int _, v, h => by simpa only [Rep] using h
  | .str _, v, h => by simpa only [Rep] using h
  | .tup xs, v, h => by
    simp only [Rep] at h ⊢
    obtain ⟨a, vs, rfl, t, l, r⟩ := h
    refine ⟨a, vs, rfl, ?_, l, Reps.ext e xs vs r⟩
    rcases t with ⟨t, n⟩ | t
    · exact .inl (Rd.ext e t n)
    · exact .inr t
  | .lst xs, v, h => by
    simp only [Rep] at h ⊢
    obtain ⟨a, vs, rfl, t, n, l, r⟩ := h
    exact ⟨a, vs, rfl, e.kept t n, e.out t n, l, Reps.ext e xs vs r⟩
  | .scr xs, v, h => by
    simp only [Rep] at h ⊢
    obtain ⟨a, vs, rfl, t, l, r⟩ := h
    refine ⟨a, vs, rfl, ?_, l, Reps.ext e xs vs r⟩
    rcases t with ⟨t, n⟩ | t
    · exact .inl (Rd.ext e t n)
    · exact .inr t
  | .ref n, v, h => by
    simp only [Rep] at h ⊢
    obtain ⟨a, rfl, q⟩ := h
    exact ⟨a, rfl, e.get q⟩
  | .dct _ _, v, h => by simp only [Rep] at h
  | .exn _ _, v, h => by simp only [Rep] at h
theorem Reps.ext {ρ ρ' : Rr} {H H' : Hp} (e : Ext ρ ρ' H H') : ∀ (ds : List D) (vs : List V), Reps K ρ H ds vs → Reps K ρ' H' ds vs
  | [], vs, h => by simpa only [Reps] using h
  | d :: ds, vs, h => by
    simp only [Reps] at h ⊢
    obtain ⟨v, r, rfl, a, b⟩ := h
    exact ⟨v, r, rfl, Rep.ext e d v a, Reps.ext e ds r b⟩
end
theorem Reps.length {ρ : Rr} {H : Hp} : ∀ {ds : List D} {vs : List V}, Reps K ρ H ds vs → ds.length = vs.length
  | [], vs, h => by simp only [Reps] at h; subst h; rfl
  | d :: ds, vs, h => by
    simp only [Reps] at h
    obtain ⟨v, r, rfl, _, b⟩ := h
    simp [Reps.length b]
theorem Reps.nil {ρ : Rr} {H : Hp} : Reps K ρ H [] [] := by simp only [Reps]
theorem Reps.cons {ρ : Rr} {H : Hp} {d : D} {v : V} {ds : List D} {vs : List V} (a : Rep K ρ H d v) (b : Reps K ρ H ds vs) : Reps K ρ H (d :: ds) (v :: vs) := by
  simp only [Reps]; exact ⟨v, vs, rfl, a, b⟩
theorem Reps.append {ρ : Rr} {H : Hp} : ∀ {ds es : List D} {vs ws : List V}, Reps K ρ H ds vs → Reps K ρ H es ws → Reps K ρ H (ds ++ es) (vs ++ ws)
  | [], es, vs, ws, h, g => by simp only [Reps] at h; subst h; exact g
  | d :: ds, es, vs, ws, h, g => by
    simp only [Reps] at h
    obtain ⟨v, r, rfl, a, b⟩ := h
    exact Reps.cons a (Reps.append b g)
theorem Reps.get {ρ : Rr} {H : Hp} : ∀ {ds : List D} {vs : List V} {i : Nat} {d : D}, Reps K ρ H ds vs → ds[i]? = some d → ∃ v, vs[i]? = some v ∧ Rep K ρ H d v
  | [], _, _, _, _, e => by simp at e
  | x :: ds, vs, i, d, h, e => by
    simp only [Reps] at h
    obtain ⟨v, r, rfl, a, b⟩ := h
    cases i with
    | zero => simp at e; subst e; exact ⟨v, rfl, a⟩
    | succ i => exact Reps.get (i := i) b (by simpa using e)
theorem Reps.getV {ρ : Rr} {H : Hp} {ds : List D} {vs : List V} {i : Nat} {v : V} (h : Reps K ρ H ds vs) (e : vs[i]? = some v) : ∃ d, ds[i]? = some d ∧ Rep K ρ H d v := by
  have hi : i < ds.length := by rw [h.length]; exact (List.getElem?_eq_some_iff.mp e).1
  obtain ⟨w, e2, r⟩ := h.get (List.getElem?_eq_getElem hi)
  rw [e] at e2; cases e2
  exact ⟨_, List.getElem?_eq_getElem hi, r⟩
theorem Reps.take {ρ : Rr} {H : Hp} : ∀ {ds : List D} {vs : List V} (n : Nat), Reps K ρ H ds vs → Reps K ρ H (ds.take n) (vs.take n)
  | _, _, 0, _ => by simp only [List.take_zero]; exact Reps.nil
  | [], vs, n + 1, h => by simp only [Reps] at h; subst h; exact Reps.nil
  | d :: ds, vs, n + 1, h => by
    simp only [Reps] at h
    obtain ⟨v, r, rfl, a, b⟩ := h
    exact Reps.cons a (Reps.take n b)
theorem Reps.drop {ρ : Rr} {H : Hp} : ∀ {ds : List D} {vs : List V} (n : Nat), Reps K ρ H ds vs → Reps K ρ H (ds.drop n) (vs.drop n)
  | _, _, 0, h => h
  | [], vs, n + 1, h => by simp only [Reps] at h; subst h; exact Reps.nil
  | d :: ds, vs, n + 1, h => by
    simp only [Reps] at h
    obtain ⟨v, r, rfl, a, b⟩ := h
    exact Reps.drop n b
theorem Reps.set {ρ : Rr} {H : Hp} {d : D} {v : V} (q : Rep K ρ H d v) : ∀ {ds : List D} {vs : List V} (i : Nat), Reps K ρ H ds vs → Reps K ρ H (ds.set i d) (vs.set i v)
  | [], vs, _, h => by simp only [Reps] at h; subst h; exact Reps.nil
  | x :: ds, vs, i, h => by
    simp only [Reps] at h
    obtain ⟨w, r, rfl, a, b⟩ := h
    cases i with
    | zero => exact Reps.cons q b
    | succ i => exact Reps.cons a (Reps.set q i b)
theorem Reps.eraseIdx {ρ : Rr} {H : Hp} : ∀ {ds : List D} {vs : List V} (i : Nat), Reps K ρ H ds vs → Reps K ρ H (ds.eraseIdx i) (vs.eraseIdx i)
  | [], vs, _, h => by simp only [Reps] at h; subst h; exact Reps.nil
  | x :: ds, vs, i, h => by
    simp only [Reps] at h
    obtain ⟨w, r, rfl, a, b⟩ := h
    cases i with
    | zero => exact b
    | succ i => exact Reps.cons a (Reps.eraseIdx i b)
theorem Reps.rep {ρ : Rr} {H : Hp} {ds : List D} {vs : List V} (h : Reps K ρ H ds vs) : ∀ k : Nat, Reps K ρ H (List.replicate k ds).flatten (List.replicate k vs).flatten
  | 0 => Reps.nil
  | k + 1 => by
    rw [List.replicate_succ, List.replicate_succ, List.flatten_cons, List.flatten_cons]
    exact h.append (Reps.rep h k)
theorem Reps.cut {ρ : Rr} {H : Hp} {ds : List D} {vs : List V} (h : Reps K ρ H ds vs) (lo hi : Option Int) : Reps K ρ H (cutL ds lo hi) (cutV vs lo hi) := by
  unfold cutL cutV
  rw [h.length]
  exact (h.drop _).take _

def Cell (K : PySem.W.Frag) (ρ : Rr) (H : Hp) (a : Addr) : MO → Prop
  | .lst xs => ∃ vs, H a = some (.lst vs) ∧ vs.length ≤ sizeLine ∧ Reps K ρ H xs vs
  | .dct _ _ _ => False
  | .ins _ _ => False
structure MemOk (K : PySem.W.Frag) (ρ : Rr) (H : Hp) (m : Mem) : Prop where
  len : ρ.c.length = m.length
  nd : ρ.c.Nodup
  cell : ∀ (n : Nat) (o : MO) (a : Addr), m[n]? = some o → ρ.c[n]? = some a → Cell K ρ H a o
  hid : ∀ a ∈ ρ.z, H a ≠ none ∧ a ∉ ρ.c
theorem Cell.there {ρ : Rr} {H : Hp} {a : Addr} {o : MO} (h : Cell K ρ H a o) : H a ≠ none := by
  cases o with
  | lst xs => obtain ⟨vs, e, _⟩ := h; rw [e]; exact fun z => nomatch z
  | dct _ _ _ => exact h.elim
  | ins _ _ => exact h.elim
theorem MemOk.liveC {ρ : Rr} {H : Hp} {m : Mem} (k : MemOk K ρ H m) : ∀ a ∈ ρ.c, H a ≠ none := fun a ha => by
  obtain ⟨n, hn, e⟩ := List.getElem_of_mem ha
  have hm : n < m.length := by rw [← k.len]; exact hn
  exact (k.cell n m[n] a (List.getElem?_eq_getElem hm) (by rw [List.getElem?_eq_getElem hn, e])).there
theorem MemOk.live {ρ : Rr} {H : Hp} {m : Mem} (k : MemOk K ρ H m) : ∀ a ∈ ρ, H a ≠ none := fun a ha => by
  rcases ha with ha | ha
  · exact k.liveC a ha
  · exact (k.hid a ha).1
theorem Cell.ext {ρ ρ' : Rr} {H H' : Hp} (e : Ext ρ ρ' H H') {a : Addr} (h : H' a = H a) : ∀ {o : MO}, Cell K ρ H a o → Cell K ρ' H' a o
  | .lst xs, ⟨vs, q, l, r⟩ => ⟨vs, h.trans q, l, Reps.ext e _ _ r⟩
/-- a new object beside the cells -/
theorem MemOk.fresh {ρ : Rr} {H : Hp} {m : Mem} (k : MemOk K ρ H m) {p : Addr} (hp : H p = none) : p ∉ ρ := fun m' => k.live p m' hp
theorem ext_new {ρ : Rr} {H : Hp} {m : Mem} (k : MemOk K ρ H m) {p : Addr} (hp : H p = none) (o : HO) : Ext ρ ρ H (upd H p o) where
  pre := ⟨[], by simp⟩
  keep := fun a u h _ => by rw [upd_ne (ne_of_none h hp)]; exact h
  new := fun a h => .inl h
  live := fun a h q => by rw [upd_ne (fun z => by subst z; exact q hp)]; exact q
theorem MemOk.ne {ρ : Rr} {H : Hp} {m : Mem} (k : MemOk K ρ H m) {p : Addr} (hp : H p = none) {n : Nat} {a : Addr} (h : ρ.c[n]? = some a) : a ≠ p := fun z => by
  subst z; exact k.liveC _ (List.mem_of_getElem? h) hp
theorem MemOk.new {ρ : Rr} {H : Hp} {m : Mem} (k : MemOk K ρ H m) {p : Addr} (hp : H p = none) (o : HO) : MemOk K ρ (upd H p o) m :=
  ⟨k.len, k.nd, fun n u a e1 e2 => (k.cell n u a e1 e2).ext (ext_new k hp o) (upd_ne (k.ne hp e2)), fun a ha => ⟨(ext_new k hp o).stays (k.hid a ha).1, (k.hid a ha).2⟩⟩
theorem ext_newR {ρ : Rr} {H : Hp} {m : Mem} (k : MemOk K ρ H m) {p : Addr} (hp : H p = none) (o : HO) : Ext ρ (ρ.push p) H (upd H p o) where
  pre := ⟨[p], rfl⟩
  keep := fun a u h _ => by rw [upd_ne (ne_of_none h hp)]; exact h
  new := fun a h => by
    rcases List.mem_append.mp (show a ∈ ρ.c ++ [p] from h) with z | z
    · exact .inl z
    · rw [List.mem_singleton] at z; subst z; exact .inr hp
  live := fun a h q => by rw [upd_ne (fun z => by subst z; exact q hp)]; exact q
theorem push_nd {l : List Addr} {p : Addr} (h : l.Nodup) (n : p ∉ l) : (l ++ [p]).Nodup :=
  List.nodup_append.mpr ⟨h, by simp, fun a ha b hb => by
    rw [List.mem_singleton] at hb
    subst hb
    exact fun z => n (by rw [← z]; exact ha)⟩
theorem push_cell {ρ : Rr} {H' : Hp} {m : Mem} {p : Addr} {xs : List D} {vs : List V} (hl : ρ.c.length = m.length) (old : ∀ (n : Nat) (u : MO) (a : Addr), m[n]? = some u → ρ.c[n]? = some a → Cell K (ρ.push p) H' a u)
    (hp : H' p = some (.lst vs)) (hz : vs.length ≤ sizeLine) (r : Reps K (ρ.push p) H' xs vs) : ∀ (n : Nat) (u : MO) (a : Addr), (m ++ [.lst xs])[n]? = some u → (ρ.push p).c[n]? = some a → Cell K (ρ.push p) H' a u := fun n u a e1 e2 => by
  have e2' : (ρ.c ++ [p])[n]? = some a := e2
  by_cases hn : n < m.length
  · rw [List.getElem?_append_left hn] at e1
    rw [List.getElem?_append_left (by rw [hl]; exact hn)] at e2'
    exact old n u a e1 e2'
  · have hn' : n = m.length := by
      have := (List.getElem?_eq_some_iff.mp e1).1
      simp at this
      omega
    subst hn'
    rw [List.getElem?_append_right (Nat.le_refl _)] at e1
    rw [List.getElem?_append_right (by rw [hl]; exact Nat.le_refl _), hl] at e2'
    simp at e1 e2'
    subst e1 e2'
    exact ⟨vs, hp, hz, r⟩
theorem MemOk.newR {ρ : Rr} {H : Hp} {m : Mem} (k : MemOk K ρ H m) {p : Addr} (hp : H p = none) {xs : List D} {vs : List V} (hz : vs.length ≤ sizeLine) (r : Reps K ρ H xs vs) : MemOk K (ρ.push p) (upd H p (.lst vs)) (m ++ [.lst xs]) := by
  have e := ext_newR k hp (.lst vs)
  refine ⟨by simp [Rr.push, k.len], push_nd k.nd (fun z => k.liveC p z hp), push_cell k.len (fun n u a e1 e2 => (k.cell n u a e1 e2).ext e (upd_ne (k.ne hp e2))) upd_same hz (Reps.ext e _ _ r), fun a ha => ⟨e.stays (k.hid a ha).1, fun z => ?_⟩⟩
  rcases List.mem_append.mp (show a ∈ ρ.c ++ [p] from z) with z | z
  · exact (k.hid a ha).2 z
  · rw [List.mem_singleton] at z; subst z; exact (k.hid a ha).1 hp
/-- a cell is changed -/
theorem ext_set {ρ : Rr} {H : Hp} {a : Addr} (ha : a ∈ ρ.c) (o : HO) : Ext ρ ρ H (upd H a o) where
  pre := ⟨[], by simp⟩
  keep := fun b u h n => by
    have z : b ≠ a := fun z => by subst z; exact n ha
    rw [upd_ne z]; exact h
  new := fun a h => .inl h
  live := fun b _ q => by
    by_cases z : b = a
    · subst z; rw [upd_same]; exact fun w => nomatch w
    · rw [upd_ne z]; exact q
theorem MemOk.set {ρ : Rr} {H : Hp} {m : Mem} (k : MemOk K ρ H m) {n : Nat} {a : Addr} (hn : ρ.c[n]? = some a) {xs : List D} {vs : List V} (hz : vs.length ≤ sizeLine) (r : Reps K ρ H xs vs) : MemOk K ρ (upd H a (.lst vs)) (m.set n (.lst xs)) := by
  have e := ext_set (List.mem_of_getElem? hn) (H := H) (.lst vs)
  refine ⟨by simp [k.len], k.nd, fun j u b e1 e2 => ?_, fun b hb => ⟨e.stays (k.hid b hb).1, (k.hid b hb).2⟩⟩
  by_cases hj : j = n
  · subst hj
    rw [hn] at e2; cases e2
    have hl : j < m.length := by rw [← k.len]; exact (List.getElem?_eq_some_iff.mp hn).1
    rw [List.getElem?_set_self hl] at e1; cases e1
    exact ⟨vs, upd_same, hz, Reps.ext e _ _ r⟩
  · rw [List.getElem?_set_ne (Ne.symm hj)] at e1
    refine (k.cell j u b e1 e2).ext e (upd_ne fun z => hj ?_)
    subst z
    exact (List.getElem_inj (i := j) (j := n) (h₀ := (List.getElem?_eq_some_iff.mp e2).1) (h₁ := (List.getElem?_eq_some_iff.mp hn).1) k.nd).mp
      ((List.getElem?_eq_some_iff.mp e2).2.trans (List.getElem?_eq_some_iff.mp hn).2.symm)
/-- the slots -/
structure SlOk (K : PySem.W.Frag) (ρ : Rr) (H : Hp) (σd : Sl) (σ : St) : Prop where
  len : σd.length = σ.length
  get : ∀ (i : Nat) (d : D), σd[i]? = some (some d) → ∃ v, σ[i]? = some (some v) ∧ Rep K ρ H d v
theorem SlOk.ext {ρ ρ' : Rr} {H H' : Hp} {σd : Sl} {σ : St} (s : SlOk K ρ H σd σ) (e : Ext ρ ρ' H H') : SlOk K ρ' H' σd σ :=
  ⟨s.len, fun i d h => let ⟨v, a, b⟩ := s.get i d h; ⟨v, a, Rep.ext e d v b⟩⟩
theorem SlOk.set {ρ : Rr} {H : Hp} {σd : Sl} {σ : St} (s : SlOk K ρ H σd σ) (i : Nat) {d : D} {v : V} (r : Rep K ρ H d v) : SlOk K ρ H (σd.set i (some d)) (σ.set i (some v)) := by
  refine ⟨by simp [s.len], fun j c h => ?_⟩
  by_cases hj : i = j
  · subst hj
    by_cases hl : i < σd.length
    · rw [List.getElem?_set_self hl] at h; cases h
      exact ⟨v, List.getElem?_set_self (by rw [← s.len]; exact hl), r⟩
    · rw [List.getElem?_eq_none (by simpa using hl)] at h; cases h
  · rw [List.getElem?_set_ne hj] at h ⊢
    exact s.get j c h
theorem SlOk.setN {ρ : Rr} {H : Hp} {σd : Sl} {σ : St} (s : SlOk K ρ H σd σ) (i : Nat) : SlOk K ρ H (σd.set i none) (σ.set i none) := by
  refine ⟨by simp [s.len], fun j c h => ?_⟩
  by_cases hj : i = j
  · subst hj
    by_cases hl : i < σd.length
    · rw [List.getElem?_set_self hl] at h; cases h
    · rw [List.getElem?_eq_none (by simpa using hl)] at h; cases h
  · rw [List.getElem?_set_ne hj] at h ⊢
    exact s.get j c h
theorem SlOk.wipe {ρ : Rr} {H : Hp} {σd : Sl} {σ : St} (s : SlOk K ρ H σd σ) : ∀ vs : List Nat, SlOk K ρ H (wipeD σd vs) (wipe σ vs)
  | [] => s
  | v :: vs => (SlOk.wipe s vs).setN v
theorem take_mem {ρ : Rr} {b : Nat} {a : Addr} (h : a ∈ ρ.take b) : a ∈ ρ := h.imp List.mem_of_mem_take id
/-! ### worlds beside one another -/
mutual
theorem Rep.world {ρ ρ' : Rr} {H H' : Hp} (hc : ∀ (n : Nat) (a : Addr), ρ.c[n]? = some a → ρ'.c[n]? = some a) (hk : ∀ a o, H a = some o → a ∉ ρ → H' a = some o ∧ a ∉ ρ') : ∀ (d : D) (v : V), Rep K ρ H d v → Rep K ρ' H' d v
  | .non, v, h => by simpa only [Rep] using h
  | .bl _, v, h => by simpa only [Rep] using h
  | .int _, v, h => by simpa only [Rep] using h
  | .str _, v, h => by simpa only [Rep] using h
  | .tup xs, v, h => by
    simp only [Rep] at h ⊢
    obtain ⟨a, vs, rfl, t, l, r⟩ := h
    refine ⟨a, vs, rfl, ?_, l, Reps.world hc hk xs vs r⟩
    rcases t with ⟨t | ⟨o, t⟩, n⟩ | t
    · exact .inl ⟨.inl (hk _ _ t n).1, (hk _ _ t n).2⟩
    · exact .inl ⟨.inr ⟨o, (hk _ _ t n).1⟩, (hk _ _ t n).2⟩
    · exact .inr t
  | .lst xs, v, h => by
    simp only [Rep] at h ⊢
    obtain ⟨a, vs, rfl, t, n, l, r⟩ := h
    exact ⟨a, vs, rfl, (hk _ _ t n).1, (hk _ _ t n).2, l, Reps.world hc hk xs vs r⟩
  | .scr xs, v, h => by
    simp only [Rep] at h ⊢
    obtain ⟨a, vs, rfl, t, l, r⟩ := h
    refine ⟨a, vs, rfl, ?_, l, Reps.world hc hk xs vs r⟩
    rcases t with ⟨t | ⟨o, t⟩, n⟩ | t
    · exact .inl ⟨.inl (hk _ _ t n).1, (hk _ _ t n).2⟩
    · exact .inl ⟨.inr ⟨o, (hk _ _ t n).1⟩, (hk _ _ t n).2⟩
    · exact .inr t
  | .ref n, v, h => by
    simp only [Rep] at h ⊢
    obtain ⟨a, rfl, q⟩ := h
    exact ⟨a, rfl, hc n a q⟩
  | .dct _ _, v, h => by simp only [Rep] at h
  | .exn _ _, v, h => by simp only [Rep] at h
theorem Reps.world {ρ ρ' : Rr} {H H' : Hp} (hc : ∀ (n : Nat) (a : Addr), ρ.c[n]? = some a → ρ'.c[n]? = some a) (hk : ∀ a o, H a = some o → a ∉ ρ → H' a = some o ∧ a ∉ ρ') : ∀ (ds : List D) (vs : List V), Reps K ρ H ds vs → Reps K ρ' H' ds vs
  | [], vs, h => by simpa only [Reps] using h
  | d :: ds, vs, h => by
    simp only [Reps] at h ⊢
    obtain ⟨v, r, rfl, a, b⟩ := h
    exact ⟨v, r, rfl, Rep.world hc hk d v a, Reps.world hc hk ds r b⟩
end
/-- as Ext, more may be hidden -/
structure Ex2 (ρ ρ' : Rr) (H H' : Hp) : Prop where
  pre : ∃ t, ρ'.c = ρ.c ++ t
  keep : ∀ a o, H a = some o → a ∉ ρ.c → H' a = some o
  new : ∀ a ∈ ρ', a ∈ ρ ∨ H a = none
  newC : ∀ a ∈ ρ'.c, a ∈ ρ.c ∨ H a = none
  live : ∀ a ∈ ρ.c, H a ≠ none → H' a ≠ none
theorem Ext.ex2 {ρ ρ' : Rr} {H H' : Hp} (e : Ext ρ ρ' H H') : Ex2 ρ ρ' H H' where
  pre := by
    obtain ⟨t, rfl⟩ := e.pre
    exact ⟨t, rfl⟩
  keep := e.keep
  new := fun a m => by
    rcases m with m | m
    · exact (e.new a m).imp (fun z => .inl z) id
    · exact .inl (.inr (by rw [← e.z]; exact m))
  newC := e.new
  live := e.live
theorem Ex2.get {ρ ρ' : Rr} {H H' : Hp} (e : Ex2 ρ ρ' H H') {n : Nat} {a : Addr} (h : ρ.c[n]? = some a) : ρ'.c[n]? = some a := by
  obtain ⟨t, q⟩ := e.pre
  rw [q, List.getElem?_append_left (List.getElem?_eq_some_iff.mp h).1]
  exact h
theorem Ex2.out {ρ ρ' : Rr} {H H' : Hp} (e : Ex2 ρ ρ' H H') {a : Addr} {o : HO} (h : H a = some o) (n : a ∉ ρ) : a ∉ ρ' := fun m => by
  rcases e.new a m with z | z
  · exact n z
  · rw [h] at z; cases z
theorem Ex2.kept {ρ ρ' : Rr} {H H' : Hp} (e : Ex2 ρ ρ' H H') {a : Addr} {o : HO} (h : H a = some o) (n : a ∉ ρ) : H' a = some o := e.keep a o h fun m => n (.inl m)
theorem Ex2.trans {ρ ρ1 ρ2 : Rr} {H H1 H2 : Hp} (a : Ex2 ρ ρ1 H H1) (b : Ext ρ1 ρ2 H1 H2) : Ex2 ρ ρ2 H H2 where
  pre := by
    obtain ⟨t, e⟩ := a.pre
    obtain ⟨u, rfl⟩ := b.pre
    exact ⟨t ++ u, by rw [← List.append_assoc, ← e]⟩
  keep := fun c o h n => by
    refine b.keep c o (a.keep c o h n) fun m => ?_
    rcases a.newC c m with z | z
    · exact n z
    · rw [z] at h; cases h
  new := fun c m => by
    rcases b.ex2.new c m with z | z
    · exact a.new c z
    · by_cases q : c ∈ ρ.c
      · exact .inl (.inl q)
      · refine .inr ?_
        cases w : H c with
        | none => rfl
        | some o => rw [a.keep c o w q] at z; cases z
  newC := fun c m => by
    rcases b.new c m with z | z
    · exact a.newC c z
    · by_cases q : c ∈ ρ.c
      · exact .inl q
      · refine .inr ?_
        cases w : H c with
        | none => rfl
        | some o => rw [a.keep c o w q] at z; cases z
  live := fun c m h => by
    obtain ⟨t, e⟩ := a.pre
    exact b.live c (by rw [e]; exact List.mem_append_left _ m) (a.live c m h)
theorem Rep.ex2 {ρ ρ' : Rr} {H H' : Hp} (e : Ex2 ρ ρ' H H') (d : D) (v : V) (r : Rep K ρ H d v) : Rep K ρ' H' d v := Rep.world (fun _ _ => e.get) (fun a o h n => ⟨e.kept h n, e.out h n⟩) d v r
theorem Reps.ex2 {ρ ρ' : Rr} {H H' : Hp} (e : Ex2 ρ ρ' H H') (d : List D) (v : List V) (r : Reps K ρ H d v) : Reps K ρ' H' d v := Reps.world (fun _ _ => e.get) (fun a o h n => ⟨e.kept h n, e.out h n⟩) d v r
theorem SlOk.ex2 {ρ ρ' : Rr} {H H' : Hp} {σd : Sl} {σ : St} (s : SlOk K ρ H σd σ) (e : Ex2 ρ ρ' H H') : SlOk K ρ' H' σd σ :=
  ⟨s.len, fun i d h => let ⟨v, a, b⟩ := s.get i d h; ⟨v, a, Rep.ex2 e d v b⟩⟩
theorem Cell.world {ρ ρ' : Rr} {H H' : Hp} (hc : ∀ (n : Nat) (a : Addr), ρ.c[n]? = some a → ρ'.c[n]? = some a) (hk : ∀ a o, H a = some o → a ∉ ρ → H' a = some o ∧ a ∉ ρ') {a : Addr} (h : H' a = H a) : ∀ {o : MO}, Cell K ρ H a o → Cell K ρ' H' a o
  | .lst xs, ⟨vs, q, l, r⟩ => ⟨vs, h.trans q, l, Reps.world hc hk _ _ r⟩
theorem lim_eq : lim = sizeLine := by rw [sizeLine_eq]; rfl
end G

set_option Elab.async false
set_option linter.all false
set_option maxRecDepth 100000
/-! G4: is a term of the text this term of ours, positions aside? -/
namespace G
open PySem L2

/-- the names of the top: defs, constants, classes that are raised -/
structure Tab where
  fs : List (Str × Nat)
  gs : List Str
  cs : List (Str × Nat)
def visB (sc : Scope) (x : Str) : Bool := match sc.names.lookup x with
  | some .local => true
  | some .cell => true
  | some .free => true
  | _ => false
def locB (sc : Scope) (x : Str) : Bool := match sc.names.lookup x with
  | some .local => true
  | some .cell => true
  | _ => false
def plB (sc : Scope) (x : Str) : Bool := match sc.names.lookup x with
  | some .local => true
  | _ => false
def glB (sc : Scope) (x : Str) : Bool := match sc.names.lookup x with
  | some .globalImplicit => true
  | _ => false
def okN (x : Str) : Bool := !(x == ("__debug__" : Str)) && !(x == ("__classdict__" : Str))
def isN (o : Option Str) (x : Str) : Bool := match o with
  | some y => decide (y = x)
  | none => false
def bltN : Blt → String
  | .len => "len" | .int => "int" | .abs => "abs" | .str => "str" | .tuple => "tuple" | .list => "list" | .sum => "sum" | .all => "all" | .any => "any"
  | .min => "min" | .max => "max" | .min2 => "min" | .max2 => "max" | .sorted => "sorted"
def bltA : Blt → Nat
  | .min2 => 2 | .max2 => 2 | _ => 1
def mthN : Mth → String
  | .append => "append" | .extend => "extend" | .pop => "pop" | .popAt => "pop" | .join => "join" | .split => "split"
def tyN : Ty → String
  | .int => "int" | .bool => "bool" | .str => "str" | .list => "list" | .tuple => "tuple"
def noSlice : Expr → Bool
  | .Slice .. => false
  | _ => true
def noStar : Expr → Bool
  | .Starred .. => false
  | _ => true
def noSet : Expr → Bool
  | .Set .. => false
  | _ => true
def noSup : Expr → Bool
  | .Call (.Name id _) [] [] _ => !decide (id = ("super" : Str))
  | _ => true
def cstB : Const → Bool
  | .none => true | .bool _ => true | .int _ => true | .str _ => true | _ => false
/-- names of a comprehension's own slots -/
def ownP (N : List Str) (own : List Nat) : List (Str × Nat) := own.map fun i => (N.getD i Str.empty, i)
def tysB (sc : Scope) : List Ty → List Expr → Bool
  | [], [] => true
  | t :: ts, .Name x _ :: r => decide (x = (tyN t : Str)) && glB sc x && tysB sc ts r
  | _, _ => false
def tyB (sc : Scope) : List Ty → Expr → Bool
  | [t], .Name x _ => decide (x = (tyN t : Str)) && glB sc x
  | ts, .Tuple es _ _ => decide (0 < ts.length ∧ ts.length < 10) && tysB sc ts es
  | _, _ => false
def isTupE : Expr → Bool
  | .Tuple .. => true
  | _ => false

mutual
def Tg.ids : Tg → List Nat
  | .nm i => [i]
  | .tp ts => Tgs.ids ts
def Tgs.ids : Tgs → List Nat
  | .nil => []
  | .cons t r => Tg.ids t ++ Tgs.ids r
end
/-- may stand as a test -/
def tOk : E → Bool
  | .ife _ _ _ => false
  | .not a => tOk a
  | .and a b => tOk a && tOk b
  | .or a b => tOk a && tOk b
  | _ => true
def tOks : Es → Bool
  | .nil => true
  | .cons a .nil => tOk a
  | _ => false
section
variable (T : Tab) (N : List Str)
mutual
def cTg (sc : Scope) : Tg → Expr → Bool
  | .nm i, .Name x _ => isN N[i]? x && locB sc x
  | .tp ts, .Tuple es _ _ => cTgs sc ts es
  | _, _ => false
def cTgs (sc : Scope) : Tgs → List Expr → Bool
  | .nil, [] => true
  | .cons t r, e :: es => cTg sc t e && cTgs sc r es
  | _, _ => false
end
mutual
def cE (cm : Bool) : Scope → E → Expr → Bool
  | sc, .var i, e' => (match e' with
    | .Name x _ => isN N[i]? x && visB sc x && okN x
    | _ => false)
  | _, .cst c, e' => (match e' with
    | .Constant c' _ _ => decide (c = c') && cstB c
    | _ => false)
  | sc, .glo k, e' => (match e' with
    | .Name x _ => isN T.gs[k]? x && glB sc x && okN x
    | _ => false)
  | sc, .bin _ op a b, e' => (match e' with
    | .BinOp a' op' b' _ => decide (op = op') && cE cm sc a a' && cE cm sc b b'
    | _ => false)
  | sc, .neg a, e' => (match e' with
    | .UnaryOp .USub a' _ => cE cm sc a a'
    | _ => false)
  | sc, .not a, e' => (match e' with
    | .UnaryOp .Not a' _ => cE cm sc a a'
    | _ => false)
  | sc, .cmp op a b, e' => (match e' with
    | .Compare a' [op'] [b'] _ => cm && decide (op = op') && !behindInMarks op b' && cE cm sc a a' && cE cm sc b b'
    | _ => false)
  | sc, .chn op1 op2 a b c, e' => (match e' with
    | .Compare a' [o1, o2] [b', c'] _ => cm && decide (op1 = o1) && decide (op2 = o2) && !behindInMarks op1 b' && !behindInMarks op2 c' && cE cm sc a a' && cE cm sc b b' && cE cm sc c c'
    | _ => false)
  | sc, .and a b, e' => (match e' with
    | .BoolOp .And (x :: y :: r) p => cE cm sc a x && (match r with
      | [] => cE cm sc b y
      | _ => cE cm sc b (.BoolOp .And (y :: r) p))
    | _ => false)
  | sc, .or a b, e' => (match e' with
    | .BoolOp .Or (x :: y :: r) p => cE cm sc a x && (match r with
      | [] => cE cm sc b y
      | _ => cE cm sc b (.BoolOp .Or (y :: r) p))
    | _ => false)
  | sc, .ife c a b, e' => (match e' with
    | .IfExp c' a' b' _ => tOk c && cE cm sc c c' && cE cm sc a a' && cE cm sc b b'
    | _ => false)
  | sc, .call f as, e' => (match e' with
    | .Call (.Name x _) es [] _ => cm && isN (T.fs[f]?.map (·.1)) x && glB sc x && okN x && decide (0 < as.len) && cEs cm sc as es
    | _ => false)
  | sc, .blt _ b as, e' => (match e' with
    | .Call (.Name x _) es [] _ => cm && decide (x = (bltN b : Str)) && glB sc x && decide (as.len = bltA b) && cEs cm sc as es
    | _ => false)
  | sc, .mth x o as, e' => (match e' with
    | .Call (.Attribute o' attr p1) es [] p2 => cm && decide (attr = (mthN x : Str)) && noSup o' && (p1.endLine == p2.line) && decide (as.len = 1) && cE cm sc o o' && cEs cm sc as es
    | _ => false)
  | sc, .isi a ts, e' => (match e' with
    | .Call (.Name x _) [a', t'] [] _ => cm && decide (x = ("isinstance" : Str)) && glB sc x && noStar a' && cE cm sc a a' && tyB sc ts t'
    | _ => false)
  | sc, .idx a i, e' => (match e' with
    | .Subscript a' i' _ => noSlice i' && cE cm sc a a' && cE cm sc i i'
    | _ => false)
  | sc, .slc _ a lo hi, e' => (match e' with
    | .Subscript a' (.Slice lo' hi' none _) _ => cE cm sc a a' && cEo cm sc lo lo' && cEo cm sc hi hi'
    | _ => false)
  | sc, .tup as, e' => (match e' with
    | .Tuple es _ _ => cEs cm sc as es
    | _ => false)
  | sc, .lst _ as, e' => (match e' with
    | .List es _ => cEs cm sc as es
    | _ => false)
  | sc, .lc _ own tg it cs elt, e' => (match e' with
    | .ListComp elt' [⟨tg', it', ifs', ia⟩] scope _ => cm && decide (ia = 0) && tg.ids.all (fun i => own.contains i) && noSet it' && blkC N sc scope (ownP N own) && cI cm sc it it' tg' && cTg N scope tg tg' && tOks cs && cEs cm (relS scope sc) cs ifs' && cE cm (relS scope sc) elt elt'
    | _ => false)
  | _, .efl _, _ => false
def cEs (cm : Bool) : Scope → Es → List Expr → Bool
  | _, .nil, e' => (match e' with
    | [] => true
    | _ => false)
  | sc, .cons a r, e' => (match e' with
    | e :: es => noStar e && cE cm sc a e && cEs cm sc r es
    | _ => false)
def cEo (cm : Bool) : Scope → Eo → Option Expr → Bool
  | _, .no, e' => (match e' with
    | none => true
    | _ => false)
  | sc, .so a, e' => (match e' with
    | some e => cE cm sc a e
    | _ => false)
def cI (cm : Bool) : Scope → It → Expr → Expr → Bool
  | sc, .seq a, e, _ => cE cm sc a e
  | sc, .rng as, e', _ => (match e' with
    | .Call (.Name x _) es [] _ => decide (x = ("range" : Str)) && glB sc x && (decide (as.len = 1) || decide (as.len = 2)) && cEs cm sc as es
    | _ => false)
  | sc, .zip a b, e', tg => (match e' with
    | .Call (.Name x _) [e1, e2] [] _ => decide (x = ("zip" : Str)) && glB sc x && isTupE tg && cE cm sc a e1 && cE cm sc b e2 && noStar e1 && noStar e2
    | _ => false)
  | sc, .enu a, e', tg => (match e' with
    | .Call (.Name x _) [e1] [] _ => decide (x = ("enumerate" : Str)) && glB sc x && isTupE tg && cE cm sc a e1 && noStar e1
    | _ => false)
end
end
end G

set_option Elab.async false
set_option linter.all false
set_option maxRecDepth 100000
set_option maxHeartbeats 4000000
/-! G5: transformers made of the interpreter; operators. -/
namespace G
open PySem PySem.Spec L2

section
variable (K : PySem.W.Frag) (ca : Nat → Addr)
/-- an exception of the text's own classes -/
def XRep (ρ : Rr) (H : Hp) (c : Nat) (fs : List D) (cls : Value) (dd : Option Addr) : Prop :=
  cls = .ref (ca c) ∧ match fs with
    | [] => True
    | [d] => ∃ a v, dd = some a ∧ H a = some (.xd [("number", v)]) ∧ a ∉ ρ ∧ Rep K ρ H d v
    | _ => False
def oX (W : WX) {α β : Type} (R : Rr → Hp → α → β → Prop) (ρ : Rr) (σ : St) (H : Hp) (r : XR α) (Q : β → Hp → Prop) : Prop :=
  match r with
  | .ok a m' => ∀ b ρ' H', Ext ρ ρ' H H' → MemOk K ρ' H' m' → R ρ' H' a b → Q b H'
  | .exc c fs m' => ∀ cls dd ρ' H', Ext ρ ρ' H H' → MemOk K ρ' H' m' → XRep K ca ρ' H' c fs cls dd → W cls dd σ H'
  | .bad => False
def tX (W : WX) {α β : Type} (R : Rr → Hp → α → β → Prop) (ev : Sl → Mem → XR α) (σ : St) (H : Hp) (Q : β → Hp → Prop) : Prop :=
  ∃ σd m ρ, SlOk K ρ H σd σ ∧ MemOk K ρ H m ∧ oX K ca W R ρ σ H (ev σd m) Q
/-- an operator by values -/
def oP (ρ : Rr) (H : Hp) (r : PR) (Q : VK) : Prop := match r with
  | some p => ∀ v ρ' H', Ext ρ ρ' H H' → MemOk K ρ' H' p.2 → Rep K ρ' H' p.1 v → Q v H'
  | none => False
abbrev RB : Rr → Hp → Bool → Bool → Prop := fun _ _ a b => a = b
abbrev ROI : Rr → Hp → Option Int → Option Int → Prop := fun _ _ a b => a = b
end
variable {K : PySem.W.Frag} {ca : Nat → Addr} {W : WX}
section
variable {α β γ δ : Type} {R : Rr → Hp → α → β → Prop} {R1 : Rr → Hp → γ → δ → Prop} {ρ ρ' : Rr} {σ : St} {H H' : Hp}
theorem oX.mono {r : XR α} {Q : β → Hp → Prop} (h : oX K ca W R ρ σ H r Q) (e : Ext ρ ρ' H H') : oX K ca W R ρ' σ H' r Q := by
  cases r with
  | ok a m => exact fun b ρ2 H2 e2 k q => h b ρ2 H2 (e.trans e2) k q
  | exc c fs m => exact fun cls dd ρ2 H2 e2 k q => h cls dd ρ2 H2 (e.trans e2) k q
  | bad => exact h
theorem oX.bind {r : XR γ} {f : γ → Mem → XR α} {Q : β → Hp → Prop} {Q1 : δ → Hp → Prop} (h : oX K ca W R ρ σ H (r.bind f) Q)
    (go : ∀ a m' b ρ' H', Ext ρ ρ' H H' → MemOk K ρ' H' m' → R1 ρ' H' a b → oX K ca W R ρ' σ H' (f a m') Q → Q1 b H') : oX K ca W R1 ρ σ H r Q1 := by
  cases r with
  | ok a m => exact fun b ρ2 H2 e2 k q => go a m b ρ2 H2 e2 k q (oX.mono h e2)
  | exc c fs m => exact h
  | bad => exact h
theorem tX.bind {ev : Sl → Mem → XR γ} {f : γ → Mem → XR α} {Q : β → Hp → Prop} {Q1 : δ → Hp → Prop} {σd : Sl} {m : Mem} (s : SlOk K ρ H σd σ) (k : MemOk K ρ H m)
    (h : oX K ca W R ρ σ H ((ev σd m).bind f) Q)
    (go : ∀ a m' b ρ' H', SlOk K ρ' H' σd σ → Ext ρ ρ' H H' → MemOk K ρ' H' m' → R1 ρ' H' a b → oX K ca W R ρ' σ H' (f a m') Q → Q1 b H') : tX K ca W R1 ev σ H Q1 :=
  ⟨σd, m, ρ, s, k, oX.bind h fun a m' b ρ' H' e k' q o => go a m' b ρ' H' (s.ext e) e k' q o⟩
theorem tX.bindE {ev : Sl → Mem → XR γ} {f : γ → Mem → XR α} {Q : β → Hp → Prop} {Q1 : δ → Hp → Prop} {σd : Sl} {m : Mem} (s : SlOk K ρ H σd σ) (k : MemOk K ρ H m)
    (h : oX K ca W R ρ σ H ((ev σd m).bind f) Q)
    (go : ∀ a m' b ρ' H', ev σd m = .ok a m' → SlOk K ρ' H' σd σ → Ext ρ ρ' H H' → MemOk K ρ' H' m' → R1 ρ' H' a b → oX K ca W R ρ' σ H' (f a m') Q → Q1 b H') : tX K ca W R1 ev σ H Q1 := by
  refine ⟨σd, m, ρ, s, k, ?_⟩
  cases q : ev σd m with
  | ok a m' =>
    rw [q] at h
    exact fun b ρ2 H2 e2 k2 r2 => go a m' b ρ2 H2 q (s.ext e2) e2 k2 r2 (oX.mono h e2)
  | exc c fs m' => rw [q] at h; exact h
  | bad => rw [q] at h; exact h
theorem oX.ofS {R : Rr → Hp → Src → L2.It → Prop} {o : Option Src} {m : Mem} {Q : L2.It → Hp → Prop} (h : oX K ca W R ρ σ H (G.ofS o m) Q) : ∃ S, o = some S ∧ oX K ca W R ρ σ H (.ok S m) Q := by
  cases o with
  | none => exact h.elim
  | some p => exact ⟨p, rfl, h⟩
theorem oX.ofP {r : PR} {Q : VK} (h : oX K ca W (Rep K) ρ σ H (G.ofP r) Q) : oP K ρ H r Q := by
  cases r with
  | none => exact h
  | some p => exact h
theorem oX.ofO {o : Option D} {m : Mem} {Q : VK} (h : oX K ca W (Rep K) ρ σ H (G.ofO o m) Q) : ∃ d, o = some d ∧ oX K ca W (Rep K) ρ σ H (.ok d m) Q := by
  cases o with
  | none => exact h.elim
  | some p => exact ⟨p, rfl, h⟩
theorem oX.ofB {o : Option Bool} {m : Mem} {Q : VK} (h : oX K ca W (Rep K) ρ σ H (G.ofB o m) Q) : ∃ d, o = some d ∧ oX K ca W (Rep K) ρ σ H (.ok (.bl d) m) Q := by
  cases o with
  | none => exact h.elim
  | some p => exact ⟨p, rfl, h⟩
/-- a value that needs no new object -/
theorem oX.val {d : D} {v : V} {m : Mem} {Q : VK} (h : oX K ca W (Rep K) ρ σ H (.ok d m) Q) (k : MemOk K ρ H m) (r : Rep K ρ H d v) : Q v H := h v ρ H (Ext.refl _ _) k r
theorem oP.val {d : D} {v : V} {m : Mem} {Q : VK} (h : oP K ρ H (some (d, m)) Q) (k : MemOk K ρ H m) (r : Rep K ρ H d v) : Q v H := h v ρ H (Ext.refl _ _) k r
/-- a new list -/
theorem oP.newL {mu : Bool} {xs : List D} {vs : List V} {m : Mem} {Q : VK} (h : oP K ρ H (mkL mu xs m) Q) (k : MemOk K ρ H m) (hz : vs.length ≤ sizeLine) (r : Reps K ρ H xs vs) : ∀ p, H p = none → Q (.ref p) (upd H p (.lst vs)) := fun p hp => by
  cases mu with
  | false =>
    refine h _ ρ _ (ext_new k hp _) (k.new hp _) ?_
    show Rep K _ _ (.lst xs) _
    simp only [Rep]
    exact ⟨p, vs, rfl, upd_same, k.fresh hp, hz, Reps.ext (ext_new k hp _) _ _ r⟩
  | true =>
    refine h _ (ρ.push p) _ (ext_newR k hp _) (k.newR hp hz r) ?_
    show Rep K _ _ (.ref m.length) _
    simp only [Rep]
    exact ⟨p, rfl, by show (ρ.c ++ [p])[m.length]? = some p; rw [← k.len]; simp⟩
theorem oP.newT {xs : List D} {vs : List V} {m : Mem} {Q : VK} (h : oP K ρ H (some (.tup xs, m)) Q) (k : MemOk K ρ H m) (hz : vs.length ≤ sizeLine) (r : Reps K ρ H xs vs) : ∀ p, H p = none → Q (.ref p) (upd H p (.tup vs)) := fun p hp => by
  refine h _ ρ _ (ext_new k hp _) (k.new hp _) ?_
  simp only [Rep]
  exact ⟨p, vs, rfl, .inl ⟨.inl upd_same, k.fresh hp⟩, hz, Reps.ext (ext_new k hp _) _ _ r⟩
end

/-! ### shapes -/
section
variable {ρ : Rr} {H : Hp} {v : V}
theorem Rep.int {i : Int} (h : Rep K ρ H (.int i) v) : v = .int i := by simpa only [Rep] using h
theorem Rep.bl {i : Bool} (h : Rep K ρ H (.bl i) v) : v = .bl i := by simpa only [Rep] using h
theorem Rep.str {i : Str} (h : Rep K ρ H (.str i) v) : v = .str i := by simpa only [Rep] using h
theorem Rep.non (h : Rep K ρ H .non v) : v = .non := by simpa only [Rep] using h
theorem rep_int {i : Int} : Rep K ρ H (.int i) (.int i) := by simp only [Rep]
theorem rep_bl {i : Bool} : Rep K ρ H (.bl i) (.bl i) := by simp only [Rep]
theorem rep_str {i : Str} : Rep K ρ H (.str i) (.str i) := by simp only [Rep]
theorem rep_non : Rep K ρ H .non .non := by simp only [Rep]
theorem Rep.tup {xs : List D} (h : Rep K ρ H (.tup xs) v) : ∃ a vs, v = .ref a ∧ SqT K H a vs ∧ vs.length ≤ sizeLine ∧ Reps K ρ H xs vs := by
  simp only [Rep] at h
  obtain ⟨a, vs, e, t, l, r⟩ := h
  exact ⟨a, vs, e, t.sq, l, r⟩
/-- a list, of either kind -/
theorem asL_rep {m : Mem} {d : D} {xs : List D} (h : asL m d = some xs) (k : MemOk K ρ H m) (r : Rep K ρ H d v) : ∃ a vs, v = .ref a ∧ H a = some (.lst vs) ∧ vs.length ≤ sizeLine ∧ Reps K ρ H xs vs := by
  cases d with
  | lst ys =>
    simp only [asL, Option.some.injEq] at h
    subst h
    simp only [Rep] at r
    obtain ⟨a, vs, e, t, _, l, q⟩ := r
    exact ⟨a, vs, e, t, l, q⟩
  | ref n =>
    simp only [Rep] at r
    obtain ⟨a, e, q⟩ := r
    simp only [asL] at h
    cases hm : m[n]? with
    | none => rw [hm] at h; cases h
    | some o =>
      rw [hm] at h
      cases o with
      | lst ys =>
        simp only [Option.some.injEq] at h
        subst h
        obtain ⟨vs, h1, h2, h3⟩ := k.cell n _ a hm q
        exact ⟨a, vs, e, h1, h2, h3⟩
      | dct _ _ _ => cases h
      | ins _ _ => cases h
  | _ => simp [asL] at h
theorem items_rep {m : Mem} {d : D} {xs : List D} (h : items m d = some xs) (k : MemOk K ρ H m) (r : Rep K ρ H d v) : ∃ a vs, v = .ref a ∧ (SqL K H a vs ∨ (SqT K H a vs ∧ d = .tup xs)) ∧ vs.length ≤ sizeLine ∧ Reps K ρ H xs vs := by
  cases d with
  | lst ys =>
    obtain ⟨a, vs, e, t, l, q⟩ := asL_rep (d := .lst ys) (m := m) rfl k r
    simp only [items, Option.some.injEq] at h; subst h
    exact ⟨a, vs, e, .inl (SqL.of t), l, q⟩
  | ref n =>
    obtain ⟨a, vs, e, t, l, q⟩ := asL_rep (d := .ref n) (xs := xs) (m := m) (by simpa only [asL, items] using h) k r
    exact ⟨a, vs, e, .inl (SqL.of t), l, q⟩
  | tup ys =>
    simp only [items, Option.some.injEq] at h; subst h
    obtain ⟨a, vs, e, t, l, q⟩ := r.tup
    exact ⟨a, vs, e, .inr ⟨t, rfl⟩, l, q⟩
  | scr ys =>
    simp only [items, Option.some.injEq] at h; subst h
    simp only [Rep] at r
    obtain ⟨a, vs, e, t, l, q⟩ := r
    exact ⟨a, vs, e, .inl t.sq, l, q⟩
  | _ => simp [items] at h
theorem asInts_rep : ∀ {xs : List D} {is : List Int} {vs : List V}, asInts xs = some is → Reps K ρ H xs vs → vs = is.map V.int
  | [], is, vs, h, r => by
    simp only [asInts, Option.some.injEq] at h; subst h
    simp only [Reps] at r; subst r; rfl
  | .int i :: xs, is, vs, h, r => by
    simp only [asInts, Option.map_eq_some_iff] at h
    obtain ⟨js, h, rfl⟩ := h
    simp only [Reps] at r
    obtain ⟨v, w, rfl, a, b⟩ := r
    rw [a.int, asInts_rep h b]; rfl
  | .non :: _, _, _, h, _ => by simp [asInts] at h
  | .bl _ :: _, _, _, h, _ => by simp [asInts] at h
  | .str _ :: _, _, _, h, _ => by simp [asInts] at h
  | .tup _ :: _, _, _, h, _ => by simp [asInts] at h
  | .lst _ :: _, _, _, h, _ => by simp [asInts] at h
  | .scr _ :: _, _, _, h, _ => by simp [asInts] at h
  | .dct _ _ :: _, _, _, h, _ => by simp [asInts] at h
  | .ref _ :: _, _, _, h, _ => by simp [asInts] at h
  | .exn _ _ :: _, _, _, h, _ => by simp [asInts] at h
theorem asBls_rep : ∀ {xs : List D} {is : List Bool} {vs : List V}, asBls xs = some is → Reps K ρ H xs vs → vs = is.map V.bl
  | [], is, vs, h, r => by
    simp only [asBls, Option.some.injEq] at h; subst h
    simp only [Reps] at r; subst r; rfl
  | .bl i :: xs, is, vs, h, r => by
    simp only [asBls, Option.map_eq_some_iff] at h
    obtain ⟨js, h, rfl⟩ := h
    simp only [Reps] at r
    obtain ⟨v, w, rfl, a, b⟩ := r
    rw [a.bl, asBls_rep h b]; rfl
  | .non :: _, _, _, h, _ => by simp [asBls] at h
  | .int _ :: _, _, _, h, _ => by simp [asBls] at h
  | .str _ :: _, _, _, h, _ => by simp [asBls] at h
  | .tup _ :: _, _, _, h, _ => by simp [asBls] at h
  | .lst _ :: _, _, _, h, _ => by simp [asBls] at h
  | .scr _ :: _, _, _, h, _ => by simp [asBls] at h
  | .dct _ _ :: _, _, _, h, _ => by simp [asBls] at h
  | .ref _ :: _, _, _, h, _ => by simp [asBls] at h
  | .exn _ _ :: _, _, _, h, _ => by simp [asBls] at h
theorem asStrs_rep : ∀ {xs : List D} {is : List Str} {vs : List V}, asStrs xs = some is → Reps K ρ H xs vs → vs = is.map V.str
  | [], is, vs, h, r => by
    simp only [asStrs, Option.some.injEq] at h; subst h
    simp only [Reps] at r; subst r; rfl
  | .str i :: xs, is, vs, h, r => by
    simp only [asStrs, Option.map_eq_some_iff] at h
    obtain ⟨js, h, rfl⟩ := h
    simp only [Reps] at r
    obtain ⟨v, w, rfl, a, b⟩ := r
    rw [a.str, asStrs_rep h b]; rfl
  | .non :: _, _, _, h, _ => by simp [asStrs] at h
  | .int _ :: _, _, _, h, _ => by simp [asStrs] at h
  | .bl _ :: _, _, _, h, _ => by simp [asStrs] at h
  | .tup _ :: _, _, _, h, _ => by simp [asStrs] at h
  | .lst _ :: _, _, _, h, _ => by simp [asStrs] at h
  | .scr _ :: _, _, _, h, _ => by simp [asStrs] at h
  | .dct _ _ :: _, _, _, h, _ => by simp [asStrs] at h
  | .ref _ :: _, _, _, h, _ => by simp [asStrs] at h
  | .exn _ _ :: _, _, _, h, _ => by simp [asStrs] at h
end

/-! ### frozen -/
mutual
theorem frzW_G {ρ ρ' : Rr} {H : Hp} {lk : Nat → Option D} (hs : ∀ a : Addr, a ∈ ρ' → a ∈ ρ) (hl : ∀ n e v, lk n = some e → Rep K ρ H (.ref n) v → Rep K ρ' H e v) :
    ∀ (d e : D) (v : V), frzW lk d = some e → Rep K ρ H d v → Rep K ρ' H e v
  | .non, e, v, h, r => by simp only [frzW, Option.some.injEq] at h; subst h; simpa only [Rep] using r
  | .bl _, e, v, h, r => by simp only [frzW, Option.some.injEq] at h; subst h; simpa only [Rep] using r
  | .int _, e, v, h, r => by simp only [frzW, Option.some.injEq] at h; subst h; simpa only [Rep] using r
  | .str _, e, v, h, r => by simp only [frzW, Option.some.injEq] at h; subst h; simpa only [Rep] using r
  | .tup xs, e, v, h, r => by
    simp only [frzW, Option.map_eq_some_iff] at h
    obtain ⟨ys, h, rfl⟩ := h
    simp only [Rep] at r ⊢
    obtain ⟨a, vs, q, t, l, z⟩ := r
    refine ⟨a, vs, q, ?_, l, frzWs_G hs hl xs ys vs h z⟩
    rcases t with ⟨t, n⟩ | t
    · exact .inl ⟨t, fun w => n (hs _ w)⟩
    · exact .inr t
  | .lst xs, e, v, h, r => by
    simp only [frzW, Option.map_eq_some_iff] at h
    obtain ⟨ys, h, rfl⟩ := h
    simp only [Rep] at r ⊢
    obtain ⟨a, vs, q, t, n, l, z⟩ := r
    exact ⟨a, vs, q, t, fun w => n (hs _ w), l, frzWs_G hs hl xs ys vs h z⟩
  | .scr xs, e, v, h, r => by
    simp only [frzW, Option.map_eq_some_iff] at h
    obtain ⟨ys, h, rfl⟩ := h
    simp only [Rep] at r ⊢
    obtain ⟨a, vs, q, t, l, z⟩ := r
    refine ⟨a, vs, q, ?_, l, frzWs_G hs hl xs ys vs h z⟩
    rcases t with ⟨t, n⟩ | t
    · exact .inl ⟨t, fun w => n (hs _ w)⟩
    · exact .inr t
  | .ref n, e, v, h, r => hl n e v (by simpa only [frzW] using h) r
  | .dct _ _, e, v, h, r => by simp only [Rep] at r
  | .exn _ _, e, v, h, r => by simp only [Rep] at r
theorem frzWs_G {ρ ρ' : Rr} {H : Hp} {lk : Nat → Option D} (hs : ∀ a : Addr, a ∈ ρ' → a ∈ ρ) (hl : ∀ n e v, lk n = some e → Rep K ρ H (.ref n) v → Rep K ρ' H e v) :
    ∀ (ds es : List D) (vs : List V), frzWs lk ds = some es → Reps K ρ H ds vs → Reps K ρ' H es vs
  | [], es, vs, h, r => by simp only [frzWs, Option.some.injEq] at h; subst h; simpa only [Reps] using r
  | d :: ds, es, vs, h, r => by
    simp only [Reps] at r
    obtain ⟨v, w, rfl, a, z⟩ := r
    simp only [frzWs] at h
    cases h1 : frzW lk d with
    | none => rw [h1] at h; simp at h
    | some x =>
      cases h2 : frzWs lk ds with
      | none => rw [h1, h2] at h; simp at h
      | some y =>
        rw [h1, h2] at h
        simp only [Option.some.injEq] at h
        subst h
        exact Reps.cons (frzW_G hs hl d x v h1 a) (frzWs_G hs hl ds y w h2 z)
end
theorem frzW_rep {ρ : Rr} {H : Hp} {b : Nat} {lk : Nat → Option D} (hl : ∀ n e v, lk n = some e → Rep K ρ H (.ref n) v → Rep K (ρ.take b) H e v) (d e : D) (v : V) : frzW lk d = some e → Rep K ρ H d v → Rep K (ρ.take b) H e v :=
  frzW_G (fun _ => take_mem) hl d e v
theorem frzWs_rep {ρ : Rr} {H : Hp} {b : Nat} {lk : Nat → Option D} (hl : ∀ n e v, lk n = some e → Rep K ρ H (.ref n) v → Rep K (ρ.take b) H e v) (ds es : List D) (vs : List V) : frzWs lk ds = some es → Reps K ρ H ds vs → Reps K (ρ.take b) H es vs :=
  frzWs_G (fun _ => take_mem) hl ds es vs
end G

set_option Elab.async false
set_option linter.all false
set_option maxRecDepth 100000
set_option maxHeartbeats 4000000
/-! G6: operators, items, slices by values. -/
namespace G
open PySem PySem.Spec PyProof.Rows L2
theorem tupTimesOne (l : Addr) (items : Array Value) (n : Nat) (dd : Option Addr) (sl : Array (Option Value)) (u : Tok) :
    Meets (Builtin.«tuple.__mul__» ⟨[.ref l, .int 1 u], []⟩) (fun _ R s => s.heap.get? l = some { cls := .type "tuple", dict := dd, data := .seq items n, slots := sl } ∧
      R (.ok (.ret (Value.ref l))) s) :=
  .of_wp fun prog w A R s h => by
    obtain ⟨hp, g, d, tk, os⟩ := s
    obtain ⟨hl, h⟩ := h
    have f1 := AutoSeq1.idx_int
    have c0 : (decide ((1 : Int) < -(2 ^ 63)) || decide ((1 : Int) ≥ 2 ^ 63)) = false := by decide
    have c1 : (items.isEmpty || ((1 : Int) == 1)) = true := by rw [show ((1 : Int) == 1) = true from rfl, Bool.or_true]
    wp_walk using wpAny_loadPart' hl
    all_goals exact ⟨_, rfl, h⟩
def rRepT1 (K : PySem.W.Frag) : R2 := fun x y H Q => ∃ l xs, x = .ref l ∧ y = .int 1 ∧ SqT K H l xs ∧ Q (.ref l) H
theorem op_repT1 {X : Cx} : OpR X (binaryOp .Mult) (rRepT1 X.K) := by
  intro pins s σ H x y v u Q I rx ry h
  obtain ⟨l, xs, rfl, rfl, hT, q⟩ := h
  cases rx
  obtain ⟨t, rfl⟩ := ry
  obtain ⟨its, r, ⟨⟨cls, dd, data, sl⟩, ho, hc, n, hd⟩, hs⟩ := I.tuple hT
  simp only at hc hd
  subst hc hd
  refine wpAny_binaryOp_repeat_ref (T := "tuple") (U := "int") (by decide) ⟨_, ho, rfl⟩ (fun s' => typeIs_int s' 1 t) noFill_tuple_mul F.fills_int_mul F.slot_int_rmul repeat_tuple F.slot_int_index.lookup ?_
  refine call_meets F.slot_int_rmul (typeIs_int s 1 t) F.entry_int_rmul (F.args_int_rmul_2 _ _) (int_rmul_tuple 1 t l its.toArray n dd sl) ⟨ho, rfl, ⟨_, ho, rfl⟩, ?_⟩
  exact call_meets F.slot_tuple_mul ⟨_, ho, rfl⟩ F.entry_tuple_mul (F.args_tuple_mul_2 _ _) (tupTimesOne l its.toArray n dd sl t) ⟨ho, ⟨.ref l, H, I, rfl, q⟩⟩
end G

namespace G
open PySem PySem.Spec L2
section
variable {X : Cx}
def rBin (K : PySem.W.Frag) (mu : Bool) (op : Operator) : R2 := fun x y H Q => ∃ ρ m d e, MemOk K ρ H m ∧ Rep K ρ H d x ∧ Rep K ρ H e y ∧ oP K ρ H (binD mu op d e m) Q
variable {mu : Bool} {pins : List (Addr × Obj)} {s : Shared} {σ : L2.St} {H : Hp} {x y : V} {v u : Value} {Q : VK} {ρ : Rr} {m : Mem}
theorem Reps.isNil {K : PySem.W.Frag} {xs : List D} {vs : List V} (r : Reps K ρ H xs vs) : vs = [] ↔ xs = [] := by
  have e := r.length
  constructor
  · intro z; subst z; exact List.length_eq_zero_iff.mp (by simpa using e)
  · intro z; subst z; exact List.length_eq_zero_iff.mp (by simpa using e.symm)
theorem b_add (I : Inv X pins σ H s) (rx : RelV x v) (ry : RelV y u) : ∀ {d e : D}, MemOk X.K ρ H m → Rep X.K ρ H d x → Rep X.K ρ H e y → oP X.K ρ H (addD mu d e m) Q → wpAny (model X.prog X.w) X.A (binaryOp .Add v u) (EP X pins σ Q) X.xe s := by
  intro d e k rd re h
  unfold addD at h
  split at h
  · exact op_add pins s σ H x y v u Q I rx ry ⟨_, _, rd.int, re.int, h.val k rep_int⟩
  · split at h
    · rename_i hz
      exact op_add_str pins s σ H x y v u Q I rx ry ⟨_, _, rd.str, re.str, by rw [← lim_eq]; exact hz, h.val k rep_str⟩
    · exact h.elim
  · split at h
    · rename_i m1 xs ys hz
      obtain ⟨a, vs, e1, t1, l1, r1⟩ := rd.tup
      obtain ⟨b, ws, e2, t2, l2, r2⟩ := re.tup
      have hz' : vs.length + ws.length ≤ sizeLine := by rw [← r1.length, ← r2.length, ← lim_eq]; exact hz
      refine op_catA pins s σ H x y v u Q I rx ry ⟨a, b, vs, ws, e1, e2, t1, t2, hz', fun z => ?_, fun z z2 => ?_, fun _ _ => ?_⟩
      · have z' := r1.isNil.mp z
        subst z'
        rw [List.nil_append] at h
        exact h.val k (by rw [← e2]; exact re)
      · have z' := r2.isNil.mp z2
        subst z'
        rw [List.append_nil] at h
        exact h.val k (by rw [← e1]; exact rd)
      · exact h.newT k (by rw [List.length_append]; exact hz') (r1.append r2)
    · exact h.elim
  · split at h
    · rename_i xs ys h1 h2
      unfold newL at h
      split at h
      · rename_i hz
        obtain ⟨a, vs, e1, t1, l1, r1⟩ := asL_rep h1 k rd
        obtain ⟨b, ws, e2, t2, l2, r2⟩ := asL_rep h2 k re
        have hz' : vs.length + ws.length ≤ sizeLine := by rw [← r1.length, ← r2.length, ← lim_eq, ← List.length_append]; exact hz
        exact op_cat pins s σ H x y v u Q I rx ry ⟨a, b, vs, ws, e1, e2, t1, t2, hz', h.newL k (by rw [List.length_append]; exact hz') (r1.append r2)⟩
      · exact h.elim
    · exact h.elim
theorem b_mul (I : Inv X pins σ H s) (rx : RelV x v) (ry : RelV y u) : ∀ {d e : D}, MemOk X.K ρ H m → Rep X.K ρ H d x → Rep X.K ρ H e y → oP X.K ρ H (mulD mu d e m) Q → wpAny (model X.prog X.w) X.A (binaryOp .Mult v u) (EP X pins σ Q) X.xe s := by
  intro d e k rd re h
  unfold mulD at h
  split at h
  · split at h
    · rename_i m1 i j hm
      unfold mulOk at hm
      simp only [Bool.or_eq_true, Bool.and_eq_true, decide_eq_true_eq] at hm
      have q := h.val k (rep_int (i := i * j))
      rcases hm with (hm | hm) | hm
      · exact op_mulW pins s σ H x y v u Q I rx ry ⟨i, j, rd.int, re.int, hm, q⟩
      · exact op_mul pins s σ H x y v u Q I rx ry ⟨i, j, rd.int, re.int, .inl hm, q⟩
      · exact op_mul pins s σ H x y v u Q I rx ry ⟨i, j, rd.int, re.int, .inr hm, q⟩
    · exact h.elim
  · split at h
    · rename_i m1 xs k' hz
      obtain ⟨a, vs, e1, t1, l1, r1⟩ := rd.tup
      by_cases h1 : k' = 1
      · subst h1
        have e0 : (List.replicate (1 : Int).toNat xs).flatten = xs := by simp
        rw [e0] at h
        exact op_repT1 pins s σ H x y v u Q I rx ry ⟨a, vs, e1, re.int, t1, h.val k (by rw [← e1]; exact rd)⟩
      · refine op_repT pins s σ H x y v u Q I rx ry ⟨a, k', vs, e1, re.int, t1, fun z => ?_, by omega, by omega, by rw [← r1.length]; exact hz.2.1, ?_⟩
        · exact hz.2.2.2 (r1.isNil.mp z)
        · refine h.newT k ?_ (r1.rep _)
          rw [PyProof.Rows.lm_len_rep_flat, ← r1.length, sizeLine_eq]
          have a1 : k'.toNat * xs.length ≤ 1000 * 1000 := Nat.mul_le_mul (by omega) hz.2.1
          omega
    · exact h.elim
  · rename_i _ kk _ _
    split at h
    · rename_i xs h1
      split at h
      · rename_i hz
        obtain ⟨a, vs, e1, t1, l1, r1⟩ := asL_rep h1 k rd
        have hz' : vs.length * kk.toNat ≤ sizeLine := by rw [← r1.length, ← lim_eq]; exact hz.2.2
        exact op_rep pins s σ H x y v u Q I rx ry ⟨a, _, vs, e1, re.int, t1, hz.1, hz.2.1, hz', h.newL k (by rw [PyProof.Rows.lm_len_rep_flat, Nat.mul_comm]; exact hz') (r1.rep _)⟩
      · exact h.elim
    · exact h.elim
  · exact h.elim
theorem op_bin {op : Operator} : OpR X (binaryOp op) (rBin X.K mu op) := by
  intro pins s σ H x y v u Q I rx ry h
  obtain ⟨ρ, m, d, e, k, rd, re, h⟩ := h
  unfold binD at h
  split at h
  · exact b_add I rx ry k rd re h
  · exact op_sub pins s σ H x y v u Q I rx ry ⟨_, _, rd.int, re.int, h.val k rep_int⟩
  · exact b_mul I rx ry k rd re h
  · split at h
    · rename_i m1 i j hd
      unfold divOk at hd
      simp only [Bool.or_eq_true, Bool.and_eq_true, decide_eq_true_eq] at hd
      have q := h.val k (rep_int (i := i.fdiv j))
      rcases hd with hd | hd
      · rw [Int.fdiv_eq_ediv_of_nonneg _ (by omega)] at q
        exact op_fdivW pins s σ H x y v u Q I rx ry ⟨i, j, rd.int, re.int, hd, q⟩
      · exact op_fdivN pins s σ H x y v u Q I rx ry ⟨i, j, rd.int, re.int, hd, q⟩
    · exact h.elim
  · split at h
    · rename_i hd
      exact op_modN pins s σ H x y v u Q I rx ry ⟨_, _, rd.int, re.int, hd, h.val k rep_int⟩
    · exact h.elim
  · split at h
    · rename_i hd
      exact op_pow pins s σ H x y v u Q I rx ry ⟨_, _, rd.int, re.int, hd, h.val k rep_int⟩
    · exact h.elim
  · exact h.elim

/-! ### items -/
theorem atI_rep {K : PySem.W.Frag} {xs : List D} {vs : List V} (r : Reps K ρ H xs vs) {i : Int} {d : D} (h : atI xs i = some d) : ∃ w, atI vs i = some w ∧ Rep K ρ H d w := by
  unfold atI at h ⊢
  rw [← r.length]
  cases hi : ixN xs.length i with
  | none => rw [hi] at h; cases h
  | some j =>
    rw [hi] at h
    exact r.get h
def rIdx (K : PySem.W.Frag) : R2 := fun x y H Q => ∃ ρ m d e, MemOk K ρ H m ∧ Rep K ρ H d x ∧ Rep K ρ H e y ∧ ∃ z, idxD m d e = some z ∧ oP K ρ H (some (z, m)) Q
theorem ix_any : IxR X (rIdx X.K) := by
  intro value slice pins s σ H x y v u Q I rx ry h hs
  obtain ⟨ρ, m, d, e, k, rd, re, z, hz, h⟩ := h
  unfold idxD at hz
  split at hz
  · obtain ⟨a, vs, e1, t1, l1, r1⟩ := rd.tup
    obtain ⟨w, h1, h2⟩ := atI_rep r1 hz
    exact ix_tup value slice pins s σ H x y v u Q I rx ry ⟨a, vs, _, w, e1, re.int, t1, h1, h.val k h2⟩ hs
  · rename_i xs i
    obtain ⟨a, vs, e1, t1, l1, r1⟩ := asL_rep (m := m) (d := .lst xs) rfl k rd
    obtain ⟨w, h1, h2⟩ := atI_rep r1 hz
    exact ix_list value slice pins s σ H x y v u Q I rx ry ⟨a, vs, _, w, e1, re.int, SqL.of t1, h1, h.val k h2⟩ hs
  · rename_i xs i
    simp only [Rep] at rd
    obtain ⟨a, vs, e1, t1, l1, r1⟩ := rd
    obtain ⟨w, h1, h2⟩ := atI_rep r1 hz
    exact ix_list value slice pins s σ H x y v u Q I rx ry ⟨a, vs, _, w, e1, re.int, t1.sq, h1, h.val k h2⟩ hs
  · split at hz
    · rename_i hl
      simp only [Option.map_eq_some_iff] at hz
      obtain ⟨c, hc, rfl⟩ := hz
      exact ix_str value slice pins s σ H x y v u Q I rx ry ⟨_, _, c, rd.str, re.int, by rw [← lim_eq]; exact hl, hc, h.val k rep_str⟩ hs
    · cases hz
  · rename_i n i
    split at hz
    · rename_i xs hm
      obtain ⟨a, vs, e1, t1, l1, r1⟩ := asL_rep (m := m) (d := .ref n) (xs := xs) (by simp only [asL, hm]) k rd
      obtain ⟨w, h1, h2⟩ := atI_rep r1 hz
      exact ix_list value slice pins s σ H x y v u Q I rx ry ⟨a, vs, _, w, e1, re.int, SqL.of t1, h1, h.val k h2⟩ hs
    · cases hz
  · cases hz
/-! ### slices -/
theorem cut_whole {α : Type} (xs : List α) (lo hi : Option Int) (h : HT.sIx xs.length 0 lo = 0 ∧ HT.sIx xs.length xs.length hi = xs.length) : cutL xs lo hi = xs := by
  unfold cutL
  rw [h.1, h.2]
  simp
theorem cutV_le (vs : List V) (lo hi : Option Int) {n : Nat} (h : vs.length ≤ n) : (cutV vs lo hi).length ≤ n := Nat.le_trans (cutV_length vs lo hi) h
def rSlc (K : PySem.W.Frag) (mu : Bool) : V → Option Int → Option Int → Hp → VK → Prop := fun x lo hi H Q => ∃ ρ m d, MemOk K ρ H m ∧ Rep K ρ H d x ∧ oP K ρ H (slcD mu lo hi d m) Q
theorem sl_any : SlR X (rSlc X.K mu) := by
  intro pins s σ H x v vl vu lo hi sl Q I rx hs pl pu h
  obtain ⟨ρ, m, d, k, rd, h⟩ := h
  unfold slcD at h
  split at h
  · rename_i m1 xs
    obtain ⟨a, vs, e1, t1, l1, r1⟩ := rd.tup
    refine sl_tupA pins s σ H x v vl vu lo hi sl Q I rx hs pl pu ⟨a, vs, e1, t1, fun hw => ?_, fun _ => ?_⟩
    · rw [← r1.length] at hw
      rw [cut_whole xs lo hi hw] at h
      exact h.val k (by rw [← e1]; exact rd)
    · exact h.newT k (cutV_le _ _ _ l1) (r1.cut lo hi)
  · rename_i m1 xs
    simp only [Rep] at rd
    obtain ⟨a, vs, e1, t1, l1, r1⟩ := rd
    exact sl_list pins s σ H x v vl vu lo hi sl Q I rx hs pl pu ⟨a, vs, e1, t1.sq, h.newL k (cutV_le _ _ _ l1) (r1.cut lo hi)⟩
  · split at h
    · rename_i hl
      exact sl_str pins s σ H x v vl vu lo hi sl Q I rx hs pl pu ⟨_, rd.str, by rw [← lim_eq]; exact hl, h.val k rep_str⟩
    · exact h.elim
  · split at h
    · rename_i xs h1
      obtain ⟨a, vs, e1, t1, l1, r1⟩ := asL_rep h1 k rd
      exact sl_list pins s σ H x v vl vu lo hi sl Q I rx hs pl pu ⟨a, vs, e1, SqL.of t1, h.newL k (cutV_le _ _ _ l1) (r1.cut lo hi)⟩
    · exact h.elim
end
end G

set_option Elab.async false
set_option linter.all false
set_option maxRecDepth 100000
set_option maxHeartbeats 4000000
/-! G7: truth, comparisons, built-ins, methods by values. -/
namespace G
open PySem PySem.Spec L2
section
variable {K : PySem.W.Frag} {ρ : Rr} {H : Hp} {m : Mem} {v : V}
theorem cell_lst (k : MemOk K ρ H m) {n : Nat} {a : Addr} (h : ρ.c[n]? = some a) : ∃ xs, m[n]? = some (.lst xs) := by
  have hn : n < m.length := by rw [← k.len]; exact (List.getElem?_eq_some_iff.mp h).1
  have q := k.cell n m[n] a (List.getElem?_eq_getElem hn) h
  rw [List.getElem?_eq_getElem hn]
  cases e : m[n] with
  | lst xs => exact ⟨xs, rfl⟩
  | dct _ _ _ => rw [e] at q; exact q.elim
  | ins _ _ => rw [e] at q; exact q.elim
theorem isEmpty_reps {xs : List D} {vs : List V} (r : Reps K ρ H xs vs) : (!vs.isEmpty) = !xs.isEmpty := by
  cases xs with
  | nil => simp only [Reps] at r; subst r; rfl
  | cons x xs => simp only [Reps] at r; obtain ⟨v, w, rfl, _⟩ := r; rfl
theorem truthy_rep (k : MemOk K ρ H m) {d : D} {b : Bool} (h : truthy m d = some b) (r : Rep K ρ H d v) : TruV K v H b := by
  cases d with
  | non => rw [r.non]; simp only [truthy, Option.some.injEq] at h; exact h.symm
  | bl x => rw [r.bl]; simp only [truthy, Option.some.injEq] at h; exact h.symm
  | int i => rw [r.int]; simp only [truthy, Option.some.injEq] at h; exact h.symm
  | str x =>
    rw [r.str]
    simp only [truthy] at h
    split at h
    · rename_i hl
      simp only [Option.some.injEq] at h
      refine ⟨by rw [← lim_eq]; exact hl, ?_⟩
      rw [← h]
      by_cases z : x.length = 0
      · rw [z]; rfl
      · rw [bne_iff_ne.mpr z, bne_iff_ne.mpr (by omega)]
    · cases h
  | tup xs =>
    simp only [truthy, Option.some.injEq] at h
    obtain ⟨a, vs, rfl, t, l, q⟩ := r.tup
    exact .inr (.inl ⟨vs, t, by rw [← h, isEmpty_reps q]⟩)
  | lst xs =>
    simp only [truthy, Option.some.injEq] at h
    obtain ⟨a, vs, rfl, t, l, q⟩ := asL_rep (d := .lst xs) (m := m) rfl k r
    exact .inl ⟨vs, SqL.of t, by rw [← h, isEmpty_reps q]⟩
  | scr xs =>
    simp only [truthy, Option.some.injEq] at h
    simp only [Rep] at r
    obtain ⟨a, vs, rfl, t, l, q⟩ := r
    exact .inl ⟨vs, t.sq, by rw [← h, isEmpty_reps q]⟩
  | ref n =>
    simp only [truthy] at h
    split at h
    · rename_i xs hm
      simp only [Option.some.injEq] at h
      obtain ⟨a, vs, rfl, t, l, q⟩ := asL_rep (d := .ref n) (xs := xs) (m := m) (by simp only [asL, hm]) k r
      exact .inl ⟨vs, SqL.of t, by rw [← h, isEmpty_reps q]⟩
    · cases h
  | dct _ _ => simp [truthy] at h
  | exn _ _ => simp [truthy] at h

/-! ### == -/
theorem frzK_rep (k : MemOk K ρ H m) (b : Nat) : ∀ (j n : Nat) (e : D) (v : V), frzK m b j n = some e → Rep K ρ H (.ref n) v → Rep K (ρ.take b) H e v
  | 0, n, e, v, h, r => by
    simp only [frzK] at h
    split at h
    · rename_i hn
      simp only [Option.some.injEq] at h
      subst h
      simp only [Rep] at r ⊢
      obtain ⟨a, e, q⟩ := r
      exact ⟨a, e, by show (ρ.c.take b)[n]? = some a; rw [List.getElem?_take_of_lt hn]; exact q⟩
    · cases h
  | j + 1, n, e, v, h, r => by
    simp only [frzK] at h
    split at h
    · rename_i hn
      simp only [Option.some.injEq] at h
      subst h
      simp only [Rep] at r ⊢
      obtain ⟨a, e, q⟩ := r
      exact ⟨a, e, by show (ρ.c.take b)[n]? = some a; rw [List.getElem?_take_of_lt hn]; exact q⟩
    · rename_i hn
      simp only [Rep] at r
      obtain ⟨a, rfl, q⟩ := r
      obtain ⟨xs, hm⟩ := cell_lst k q
      rw [hm] at h
      simp only [Option.map_eq_some_iff] at h
      obtain ⟨ys, h, rfl⟩ := h
      obtain ⟨vs, h1, h2, h3⟩ := k.cell n _ a hm q
      simp only [Rep]
      refine ⟨a, vs, rfl, h1, fun w => ?_, h2, frzWs_rep (frzK_rep k b j) xs ys vs h h3⟩
      rcases w with w | w
      case inr => exact (k.hid a w).2 (List.mem_of_getElem? q)
      obtain ⟨i, hi, ei⟩ := List.getElem_of_mem (show a ∈ ρ.c.take b from w)
      rw [List.length_take] at hi
      rw [List.getElem_take] at ei
      obtain ⟨hn', en⟩ := List.getElem?_eq_some_iff.mp q
      have := (List.getElem_inj (i := i) (j := n) (h₀ := by omega) (h₁ := hn') k.nd).mp (ei.trans en.symm)
      omega
mutual
theorem py_rep {ρ : Rr} : ∀ (d : D) (p : PyData) (v : V), d.py = some p → Rep K ρ H d v → Dp K H v p
  | .non, p, v, h, r => by simp only [D.py, Option.some.injEq] at h; subst h; rw [r.non]; exact .non
  | .bl _, p, v, h, r => by simp only [D.py, Option.some.injEq] at h; subst h; rw [r.bl]; exact .bl _
  | .int _, p, v, h, r => by simp only [D.py, Option.some.injEq] at h; subst h; rw [r.int]; exact .int _
  | .str _, p, v, h, r => by simp only [D.py, Option.some.injEq] at h; subst h; rw [r.str]; exact .str _
  | .tup xs, p, v, h, r => by
    simp only [D.py, Option.map_eq_some_iff] at h
    obtain ⟨ds, h, rfl⟩ := h
    obtain ⟨a, vs, rfl, t, l, q⟩ := r.tup
    exact .tup t (pys_rep xs ds vs h q)
  | .lst xs, p, v, h, r => by
    simp only [D.py, Option.map_eq_some_iff] at h
    obtain ⟨ds, h, rfl⟩ := h
    simp only [Rep] at r
    obtain ⟨a, vs, rfl, t, _, l, q⟩ := r
    exact .lst (SqL.of t) (pys_rep xs ds vs h q)
  | .scr _, p, v, h, r => by simp [D.py] at h
  | .dct _ _, p, v, h, r => by simp [D.py] at h
  | .ref _, p, v, h, r => by simp [D.py] at h
  | .exn _ _, p, v, h, r => by simp [D.py] at h
theorem pys_rep {ρ : Rr} : ∀ (ds : List D) (ps : List PyData) (vs : List V), D.pys ds = some ps → Reps K ρ H ds vs → DpAll K H vs ps
  | [], ps, vs, h, r => by
    simp only [D.pys, Option.some.injEq] at h; subst h
    simp only [Reps] at r; subst r; exact .nil
  | d :: ds, ps, vs, h, r => by
    simp only [Reps] at r
    obtain ⟨v, w, rfl, a, z⟩ := r
    simp only [D.pys] at h
    cases h1 : d.py with
    | none => rw [h1] at h; simp at h
    | some x =>
      cases h2 : D.pys ds with
      | none => rw [h1, h2] at h; simp at h
      | some y =>
        rw [h1, h2] at h
        simp only [Option.some.injEq] at h
        subst h
        exact .cons (py_rep d x v h1 a) (pys_rep ds y w h2 z)
end
theorem pyM_rep (k : MemOk K ρ H m) {d : D} {p : PyData} (h : d.pyM m = some p) (r : Rep K ρ H d v) : Dp K H v p := by
  unfold D.pyM at h
  split at h
  · rename_i e he
    exact py_rep e p v h (frzW_rep (frzK_rep k 0 6) d e v he r)
  · cases h
end

section
variable {X : Cx}
def rCmp (K : PySem.W.Frag) (op : CmpOp) : R2 := fun x y H Q => ∃ ρ m d e b, MemOk K ρ H m ∧ Rep K ρ H d x ∧ Rep K ρ H e y ∧ cmpD m op d e = some b ∧ Q (.bl b) H
variable {pins : List (Addr × Obj)} {s : Shared} {σ : L2.St} {H : Hp} {x y : V} {v u : Value} {Q : VK} {ρ : Rr} {m : Mem} {n : Nat}
theorem c_is {d e : D} {b : Bool} (I : Inv X pins σ H s) (rx : RelV x v) (ry : RelV y u) (rd : Rep X.K ρ H d x) (re : Rep X.K ρ H e y) (h : isIt d e = some b) :
    (Q (.bl b) H → wpAny (model X.prog X.w) X.A (compareOp .Is v u) (EP X pins σ Q) X.xe s) ∧ (Q (.bl !b) H → wpAny (model X.prog X.w) X.A (compareOp .IsNot v u) (EP X pins σ Q) X.xe s) := by
  unfold isIt at h
  split at h
  · have hb : decide (x = .non) = b := by
      cases d with
      | non => rw [rd.non]; simp only [Option.some.injEq] at h; rw [← h]; rfl
      | int i => rw [rd.int]; simp only [Option.some.injEq] at h; rw [← h]; rfl
      | bl i => rw [rd.bl]; simp only [Option.some.injEq] at h; rw [← h]; rfl
      | str i => rw [rd.str]; simp only [Option.some.injEq] at h; rw [← h]; rfl
      | tup xs => obtain ⟨a, vs, rfl, _⟩ := rd.tup; simp only [Option.some.injEq] at h; rw [← h]; rfl
      | lst xs => simp only [Rep] at rd; obtain ⟨a, vs, rfl, _⟩ := rd; simp only [Option.some.injEq] at h; rw [← h]; rfl
      | scr xs => simp only [Rep] at rd; obtain ⟨a, vs, rfl, _⟩ := rd; simp only [Option.some.injEq] at h; rw [← h]; rfl
      | ref n => simp only [Rep] at rd; obtain ⟨a, rfl, _⟩ := rd; simp only [Option.some.injEq] at h; rw [← h]; rfl
      | dct _ _ => simp only [Rep] at rd
      | exn _ _ => simp only [Rep] at rd
    exact ⟨fun q => op_isN pins s σ H x y v u Q I rx ry ⟨re.non, by rw [hb]; exact q⟩, fun q => op_notN pins s σ H x y v u Q I rx ry ⟨re.non, by rw [hb]; exact q⟩⟩
  · simp only [Option.some.injEq] at h
    subst h
    exact ⟨fun q => op_isBl pins s σ H x y v u Q I rx ry ⟨_, _, rd.bl, re.bl, q⟩, fun q => op_notBl pins s σ H x y v u Q I rx ry ⟨_, _, rd.bl, re.bl, q⟩⟩
  · cases h
theorem oneSign {y : Str} (h : y.cps.size = 1) : y = ⟨#[y.cps.getD 0 0]⟩ := by
  obtain ⟨a⟩ := y
  have h' : a.size = 1 := h
  congr 1
  apply Array.ext
  · simp [h']
  · intro i h1 h2
    have : i = 0 := by simp at h2; omega
    subst this
    simp [Array.getD, h']
theorem c_in {d e : D} {b : Bool} (hr : Room n X.A) (I : Inv X pins σ H s) (rx : RelV x v) (ry : RelV y u) (k : MemOk X.K ρ H m) (rd : Rep X.K ρ H d x) (re : Rep X.K ρ H e y) (h : inD m d e = some b) :
    (Q (.bl b) H → wpAny (model X.prog X.w) X.A (compareOp .In v u) (EP X pins σ Q) X.xe s) ∧ (Q (.bl !b) H → wpAny (model X.prog X.w) X.A (compareOp .NotIn v u) (EP X pins σ Q) X.xe s) := by
  have hu : X.A.units + 65 < cLine := by have := hr.un; omega
  unfold inD at h
  split at h
  · split at h
    · split at h
      · rename_i z z2 y' hy
        simp only [Option.some.injEq] at h
        subst h
        have e1 := rd.str
        rw [oneSign hy] at e1
        exact ⟨fun q => op_in_sign pins s σ H x y v u Q I rx ry ⟨_, _, e1, re.str, q⟩, fun q => op_notIn_sign pins s σ H x y v u Q I rx ry ⟨_, _, e1, re.str, q⟩⟩
      · cases h
    · cases h
  · split at h
    · rename_i ys _ _ a ds ha hds
      split at h
      · rename_i hs
        simp only [Bool.and_eq_true] at hs
        simp only [Option.some.injEq] at h
        subst h
        have D1 := pyM_rep k ha rd
        obtain ⟨p, vs, rfl, t, l, q⟩ := re.tup
        have D2 : Dp X.K H (.ref p) (.tuple ds) := .tup t (pys_rep ys ds vs hds q)
        obtain ⟨as, z1⟩ := Dp.reads I a x v D1 rx
        obtain ⟨bs, z2⟩ := Dp.reads I (.tuple ds) _ u D2 ry
        have hl := SeqAt.canLay_of_shaped hs.2
        exact ⟨fun q => SeqAt.in_tuple_reads z2 z1 hl (SeqAt.canLay_of_shaped hs.1) (PyProof.Rows.room_in_shaped hs.1 hu) ⟨.bl _, H, I, rfl, q⟩, fun q => SeqAt.notIn_tuple_reads z2 z1 hl (SeqAt.canLay_of_shaped hs.1) (PyProof.Rows.room_in_shaped hs.1 hu) ⟨.bl _, H, I, rfl, q⟩⟩
      · cases h
    · cases h
  · split at h
    · rename_i a ds ha hds
      split at h
      · rename_i hs
        simp only [Bool.and_eq_true] at hs
        simp only [Option.some.injEq] at h
        subst h
        exact ⟨fun q => op_inD hu pins s σ H x y v u Q I rx ry ⟨a, ds, pyM_rep k ha rd, pyM_rep k hds re, hs.1, hs.2, q⟩, fun q => op_notInD hu pins s σ H x y v u Q I rx ry ⟨a, ds, pyM_rep k ha rd, pyM_rep k hds re, hs.1, hs.2, q⟩⟩
      · cases h
    · cases h
theorem op_cmp {op : CmpOp} (hr : Room n X.A) : OpR X (compareOp op) (rCmp X.K op) := by
  have hu : X.A.units + 64 < cLine := hr.units
  intro pins s σ H x y v u Q I rx ry h
  obtain ⟨ρ, m, d, e, b, k, rd, re, h, q⟩ := h
  unfold cmpD at h
  split at h
  · unfold eqD at h
    split at h
    · rename_i a c ha hc
      split at h
      · rename_i hs
        simp only [Bool.and_eq_true] at hs
        simp only [Option.some.injEq] at h
        subst h
        exact op_eqD hu pins s σ H x y v u Q I rx ry ⟨a, c, pyM_rep k ha rd, pyM_rep k hc re, hs.1, hs.2, q⟩
      · cases h
    · cases h
  · simp only [Option.map_eq_some_iff] at h
    obtain ⟨b', h, rfl⟩ := h
    unfold eqD at h
    split at h
    · rename_i a c ha hc
      split at h
      · rename_i hs
        simp only [Bool.and_eq_true] at hs
        simp only [Option.some.injEq] at h
        subst h
        exact op_neD hu pins s σ H x y v u Q I rx ry ⟨a, c, pyM_rep k ha rd, pyM_rep k hc re, hs.1, hs.2, q⟩
      · cases h
    · cases h
  · unfold ltD at h
    split at h
    · simp only [Option.some.injEq] at h
      subst h
      exact op_lt pins s σ H x y v u Q I rx ry ⟨_, _, rd.int, re.int, q⟩
    · split at h
      · rename_i xs ys is js h1 h2
        simp only [Option.some.injEq] at h
        subst h
        obtain ⟨a, vs, e1, t1, l1, r1⟩ := rd.tup
        obtain ⟨c, ws, e2, t2, l2, r2⟩ := re.tup
        have w1 := asInts_rep h1 r1
        have w2 := asInts_rep h2 r2
        subst w1 w2
        exact op_ltT hr.units0 pins s σ H x y v u Q I rx ry ⟨a, c, is, js, e1, e2, t1, t2, q⟩
      · cases h
    · cases h
  · simp only [Option.some.injEq] at h
    subst h
    exact op_le pins s σ H x y v u Q I rx ry ⟨_, _, rd.int, re.int, q⟩
  · simp only [Option.some.injEq] at h
    subst h
    exact op_gt pins s σ H x y v u Q I rx ry ⟨_, _, rd.int, re.int, q⟩
  · simp only [Option.some.injEq] at h
    subst h
    exact op_ge pins s σ H x y v u Q I rx ry ⟨_, _, rd.int, re.int, q⟩
  · exact (c_is I rx ry rd re h).1 q
  · simp only [Option.map_eq_some_iff] at h
    obtain ⟨b', h, rfl⟩ := h
    exact (c_is I rx ry rd re h).2 q
  · exact (c_in hr I rx ry k rd re h).1 q
  · simp only [Option.map_eq_some_iff] at h
    obtain ⟨b', h, rfl⟩ := h
    exact (c_in hr I rx ry k rd re h).2 q
  · cases h
end
end G

set_option Elab.async false
set_option linter.all false
set_option maxRecDepth 100000
set_option maxHeartbeats 4000000
/-! G8: built-ins and methods by values. -/
namespace G
open PySem PySem.Spec L2
section
variable {X : Cx} {pins : List (Addr × Obj)} {s : Shared} {σ : L2.St} {H : Hp} {Q : VK} {ρ : Rr} {m : Mem} {mu : Bool}
theorem Reps.one {K : PySem.W.Frag} {d : D} {vs : List V} (r : Reps K ρ H [d] vs) : ∃ v, vs = [v] ∧ Rep K ρ H d v := by
  simp only [Reps] at r
  obtain ⟨v, w, rfl, a, rfl⟩ := r
  exact ⟨v, rfl, a⟩
theorem Reps.two {K : PySem.W.Frag} {d e : D} {vs : List V} (r : Reps K ρ H [d, e] vs) : ∃ v w, vs = [v, w] ∧ Rep K ρ H d v ∧ Rep K ρ H e w := by
  simp only [Reps] at r
  obtain ⟨v, w, rfl, a, v2, w2, rfl, b, rfl⟩ := r
  exact ⟨v, v2, rfl, a, b⟩
def bltV : Blt → Value
  | .int => .type "int" | .str => .type "str" | .tuple => .type "tuple" | .list => .type "list"
  | .len => .builtin "len" | .abs => .builtin "abs" | .sum => .builtin "sum" | .all => .builtin "all" | .any => .builtin "any"
  | .min => .builtin "min" | .max => .builtin "max" | .min2 => .builtin "min" | .max2 => .builtin "max" | .sorted => .builtin "sorted"
def rBlt (K : PySem.W.Frag) (mu : Bool) (b : Blt) : List V → Hp → VK → Prop := fun vs H Q => ∃ ρ m ds, MemOk K ρ H m ∧ Reps K ρ H ds vs ∧ oP K ρ H (bltD mu b ds m) Q
theorem oP.pk {K : PySem.W.Frag} {o : Option D} (h : oP K ρ H (G.pk o m) Q) : ∃ d, o = some d ∧ oP K ρ H (some (d, m)) Q := by
  cases o with
  | none => exact h.elim
  | some d => exact ⟨d, rfl, h⟩
theorem len_rep {K : PySem.W.Frag} (k : MemOk K ρ H m) {d : D} {v : V} {i : Int} (h : lenD m d = some i) (r : Rep K ρ H d v) : ∃ n : Nat, i = n ∧ LenV K v H n := by
  cases d with
  | tup xs =>
    simp only [lenD, Option.some.injEq] at h
    obtain ⟨a, vs, rfl, t, l, q⟩ := r.tup
    exact ⟨xs.length, h.symm, .inr ⟨vs, t, q.length⟩⟩
  | lst xs =>
    simp only [lenD, Option.some.injEq] at h
    obtain ⟨a, vs, rfl, t, l, q⟩ := asL_rep (d := .lst xs) (m := m) rfl k r
    exact ⟨xs.length, h.symm, .inl ⟨vs, SqL.of t, q.length⟩⟩
  | scr xs =>
    simp only [lenD, Option.some.injEq] at h
    simp only [Rep] at r
    obtain ⟨a, vs, rfl, t, l, q⟩ := r
    exact ⟨xs.length, h.symm, .inl ⟨vs, t.sq, q.length⟩⟩
  | str z =>
    simp only [lenD] at h
    split at h
    · rename_i hl
      simp only [Option.some.injEq] at h
      rw [r.str]
      exact ⟨z.length, h.symm, by rw [← lim_eq]; exact hl, rfl⟩
    · cases h
  | ref n =>
    simp only [lenD] at h
    split at h
    · rename_i xs hm
      simp only [Option.some.injEq] at h
      obtain ⟨a, vs, rfl, t, l, q⟩ := asL_rep (d := .ref n) (xs := xs) (m := m) (by simp only [asL, hm]) k r
      exact ⟨xs.length, h.symm, .inl ⟨vs, SqL.of t, q.length⟩⟩
    · cases h
  | _ => simp [lenD] at h
theorem call_list_strV (hc : X.calm = true) : CallR X (.type "list") (fun xs H Q => ∃ z : Str, xs = [V.str z] ∧ z.length ≤ sizeLine ∧ ∀ q, H q = none → Q (.ref q) (upd H q (.lst (z.cps.toList.map fun c => V.str ⟨#[c]⟩)))) := by
  intro pins s σ H xs us Q I r h
  obtain ⟨z, rfl, hz, q⟩ := h
  obtain ⟨u, rfl, t, rfl⟩ := vals1 r
  have hz' : z.cps.size ≤ sizeLine := hz
  refine PySem.call_list_str (I.ok.hd hc) z t (fun h' tk acc' c' hkeep hS hacc => ?_) hz'
  refine ⟨.ref s.heap.objs.size, upd H s.heap.objs.size (.lst (z.cps.toList.map fun c => V.str ⟨#[c]⟩)), I.laid hkeep (Nat.le_refl _) (show ObjOk X.prog X.w _ _ _ (.lst (z.cps.toList.map fun c => V.str ⟨#[c]⟩)) from ⟨?_, acc'.toList, c', ?_, ?_⟩), rfl, q _ (I.hok.fresh (Nat.le_refl _))⟩
  · rw [List.length_map, Array.length_toList]; exact hz'
  · have el : acc'.toList.length = acc'.size := by simp
    refine vals_of_at (by rw [List.length_map, el, hacc.1, Array.length_toList]) fun j x w h1 h2 => ?_
    obtain ⟨c, u, e1, e2⟩ := hacc.2 j w (by rw [← Array.getElem?_toList]; exact h2)
    rw [List.getElem?_map, Array.getElem?_toList, e1] at h1
    cases h1
    exact ⟨u, e2⟩
  · rw [Array.toArray_toList]; exact hS
theorem reps_signs {K : PySem.W.Frag} (l : List Nat) : Reps K ρ H (l.map fun c => D.str ⟨#[c]⟩) (l.map fun c => V.str ⟨#[c]⟩) := by
  induction l with
  | nil => exact Reps.nil
  | cons c l ih => exact Reps.cons rep_str ih
theorem cr_blt (hc : X.calm = true) {b : Blt} : CallR X (bltV b) (rBlt X.K mu b) := by
  intro pins s σ H xs us Q I r h
  obtain ⟨ρ, m, ds, k, rd, h⟩ := h
  unfold bltD at h
  split at h
  · obtain ⟨v, rfl, r1⟩ := rd.one
    obtain ⟨d, hd, h⟩ := oP.pk h
    simp only [Option.map_eq_some_iff] at hd
    obtain ⟨i, hi, rfl⟩ := hd
    obtain ⟨n, rfl, hn⟩ := len_rep k hi r1
    exact call_len pins s σ H _ us Q I r ⟨v, n, rfl, hn, h.val k rep_int⟩
  · obtain ⟨v, rfl, r1⟩ := rd.one
    exact call_int1 pins s σ H _ us Q I r (.inl ⟨_, by rw [r1.int], h.val k rep_int⟩)
  · obtain ⟨v, rfl, r1⟩ := rd.one
    exact call_int1 pins s σ H _ us Q I r (.inr ⟨_, by rw [r1.bl], h.val k rep_int⟩)
  · obtain ⟨v, rfl, r1⟩ := rd.one
    split at h
    · rename_i hl
      obtain ⟨d, hd, h⟩ := oP.pk h
      simp only [Option.map_eq_some_iff] at hd
      obtain ⟨i, hi, rfl⟩ := hd
      exact call_int_str pins s σ H _ us Q I r ⟨_, i, by rw [r1.str], hi, hl, h.val k rep_int⟩
    · exact h.elim
  · obtain ⟨v, rfl, r1⟩ := rd.one
    exact call_abs pins s σ H _ us Q I r ⟨_, by rw [r1.int], h.val k rep_int⟩
  · obtain ⟨v, rfl, r1⟩ := rd.one
    split at h
    · rename_i hl
      exact call_str_int pins s σ H _ us Q I r ⟨_, by rw [r1.int], hl, h.val k rep_str⟩
    · exact h.elim
  · obtain ⟨v, rfl, r1⟩ := rd.one
    split at h
    · exact h.elim
    · rename_i xs _ hd
      obtain ⟨a, vs, rfl, t, l, q⟩ := items_rep hd k r1
      refine call_tuple_of pins s σ H _ us Q I r ⟨a, vs, rfl, ?_⟩
      rcases t with t | ⟨t, e⟩
      · exact .inl ⟨t, h.newT k l q⟩
      · exact .inr ⟨t, h.val k (by rw [← e]; exact r1)⟩
    · exact h.elim
  · obtain ⟨v, rfl, r1⟩ := rd.one
    split at h
    · rename_i z hl
      have hz : z.length ≤ sizeLine := by rw [← lim_eq]; exact hl
      exact call_list_strV hc pins s σ H _ us Q I r ⟨z, by rw [r1.str], hz, h.newL k (by rw [List.length_map, Array.length_toList]; exact hz) (reps_signs _)⟩
    · exact h.elim
  · obtain ⟨v, rfl, r1⟩ := rd.one
    split at h
    · rename_i xs hd
      obtain ⟨a, vs, rfl, t, l, q⟩ := items_rep hd k r1
      exact call_list_of pins s σ H _ us Q I r ⟨a, vs, rfl, t.imp id (·.1), h.newL k l q⟩
    · exact h.elim
  · obtain ⟨v, rfl, r1⟩ := rd.one
    obtain ⟨d, hd, h⟩ := oP.pk h
    simp only [Option.map_eq_some_iff, Option.bind_eq_some_iff] at hd
    obtain ⟨is, ⟨ys, h1, h2⟩, rfl⟩ := hd
    obtain ⟨a, vs, rfl, t, l, q⟩ := asL_rep h1 k r1
    have w := asInts_rep h2 q
    subst w
    exact cr_sum hc pins s σ H _ us Q I r ⟨a, is, rfl, SqL.of t, h.val k rep_int⟩
  · obtain ⟨v, rfl, r1⟩ := rd.one
    obtain ⟨d, hd, h⟩ := oP.pk h
    simp only [Option.map_eq_some_iff, Option.bind_eq_some_iff] at hd
    obtain ⟨is, ⟨ys, h1, h2⟩, rfl⟩ := hd
    obtain ⟨a, vs, rfl, t, l, q⟩ := asL_rep h1 k r1
    have w := asBls_rep h2 q
    subst w
    exact cr_all hc pins s σ H _ us Q I r ⟨a, is, rfl, SqL.of t, h.val k rep_bl⟩
  · obtain ⟨v, rfl, r1⟩ := rd.one
    obtain ⟨d, hd, h⟩ := oP.pk h
    simp only [Option.map_eq_some_iff, Option.bind_eq_some_iff] at hd
    obtain ⟨is, ⟨ys, h1, h2⟩, rfl⟩ := hd
    obtain ⟨a, vs, rfl, t, l, q⟩ := asL_rep h1 k r1
    have w := asBls_rep h2 q
    subst w
    exact cr_any hc pins s σ H _ us Q I r ⟨a, is, rfl, SqL.of t, h.val k rep_bl⟩
  · obtain ⟨v, w, rfl, r1, r2⟩ := rd.two
    exact call_min2 hc pins s σ H _ us Q I r ⟨_, _, by rw [r1.int, r2.int], h.val k rep_int⟩
  · obtain ⟨v, w, rfl, r1, r2⟩ := rd.two
    exact call_max2 hc pins s σ H _ us Q I r ⟨_, _, by rw [r1.int, r2.int], h.val k rep_int⟩
  · exact h.elim
end
end G

set_option Elab.async false
set_option linter.all false
set_option maxRecDepth 100000
set_option maxHeartbeats 4000000
/-! G9: the ground of a def's body; names, calls, methods. -/
namespace G
open PySem PySem.Spec L2

def bltNames : List Str := ["len", "int", "abs", "str", "tuple", "list", "sum", "all", "any", "min", "max", "sorted", "isinstance", "range", "zip", "enumerate", "bool", "set", "super"]
/-- what a def keeps, by the interpreter -/
def spF (K : PySem.W.Frag) (ca : Nat → Addr) (ar : Nat) (f : List D → Mem → XR D) : Sp := fun vs H Q E =>
  ∃ ds m ρ, vs.length = ar ∧ Reps K ρ H ds vs ∧ MemOk K ρ H m ∧ (match f ds m with
    | .ok d m' => ∀ v ρ' H', Ext ρ ρ' H H' → MemOk K ρ' H' m' → Rep K ρ' H' d v → Q v H'
    | .exc c fs m' => ∀ cls dd ρ' H', Ext ρ ρ' H H' → MemOk K ρ' H' m' → XRep K ca ρ' H' c fs cls dd → E cls dd H'
    | .bad => False)
structure GF (P : Program) (w : World) (K : PySem.W.Frag) (mg : Str → Option Value) (base : Heap) (T : Tab) (Φ : Fns) (Gv : List D) (ca : Nat → Addr) (n : Nat) : Prop where
  blt : ∀ x ∈ bltNames, mg x = none
  fn : ∀ (f : Nat) (name : Str) (ar : Nat), T.fs[f]? = some (name, ar) → ∃ fa fd ps, mg name = some (.ref fa) ∧ PySem.W.keepIn K (.ref fa) = true ∧ Binds K fd ps [] ∧ FnOk P w K mg base (L2.CX P w) n fa fd ps (spF K ca ar (Φ f))
  arity : ∀ (f : Nat) (name : Str) (ar : Nat) (ds : List D) (m : Mem), T.fs[f]? = some (name, ar) → Φ f ds m ≠ .bad → ds.length = ar
  gl : ∀ (k : Nat) (name : Str), T.gs[k]? = some name → ∃ v u d, mg name = some u ∧ RelV v u ∧ Gv[k]? = some d ∧ ∀ ρ H, Rep K ρ H d v
structure EC (X : Cx) (W : WX) (T : Tab) (Φ : Fns) (Gv : List D) (ca : Nat → Addr) (n : Nat) (N : List Str) (sc : Scope) (cm : Bool) : Prop where
  gf : GF X.prog X.w X.K X.mg X.base T Φ Gv ca n
  hN : X.N = N
  hsc : X.env.scope = sc
  nd : N.Nodup
  calm : cm = true → X.calm = true ∧ Room n X.A
  takes : Takes X W
abbrev tD (K : PySem.W.Frag) (ca : Nat → Addr) (W : WX) (ev : Sl → Mem → XR D) : TE := tX K ca W (Rep K) ev
abbrev tDs (K : PySem.W.Frag) (ca : Nat → Addr) (W : WX) (ev : Sl → Mem → XR (List D)) : TA := tX K ca W (Reps K) ev
abbrev tBl (K : PySem.W.Frag) (ca : Nat → Addr) (W : WX) (ev : Sl → Mem → XR Bool) : TT := tX K ca W RB ev
section
variable {X : Cx}
theorem PE.imp {e : Expr} {t t' : TE} (h : PE X e t) (i : ∀ σ H Q, t' σ H Q → t σ H Q) : PE X e t' := ⟨fun pins s σ H Q I q => h.run pins s σ H Q I (i _ _ _ q)⟩
theorem PT.imp {e : Expr} {t t' : TT} (h : PT X e t) (i : ∀ σ H Q, t' σ H Q → t σ H Q) : PT X e t' := ⟨fun pins s σ H Q I q => h.run pins s σ H Q I (i _ _ _ q)⟩
theorem PW.imp {e : Expr} {t t' : TT} (h : PW X e t) (i : ∀ σ H Q, t' σ H Q → t σ H Q) : PW X e t' := ⟨fun wh pins s σ H Q I q => h.run wh pins s σ H Q I (i _ _ _ q)⟩
theorem PA.imp {e : List Expr} {t t' : TA} (h : PA X e t) (i : ∀ σ H Q, t' σ H Q → t σ H Q) : PA X e t' := ⟨fun p pins s σ H Q I q => h.run p pins s σ H Q I (i _ _ _ q)⟩
theorem PO.imp {e : Option Expr} {t t' : TO} (h : PO X e t) (i : ∀ σ H Q, t' σ H Q → t σ H Q) : PO X e t' := ⟨fun pins s σ H Q I q => h.run pins s σ H Q I (i _ _ _ q)⟩
theorem PI.imp {tg e : Expr} {t t' : TI} (h : PI X tg e t) (i : ∀ σ H Q, t' σ H Q → t σ H Q) : PI X tg e t' := ⟨fun pins s σ H Q I q => h.run pins s σ H Q I (i _ _ _ q)⟩
theorem PS.imp {e : Stmt} {t t' : TS} (h : PS X e t) (i : ∀ D σ H, t' D σ H → t D σ H) : PS X e t' := ⟨fun pins s σ H D I q => h.run pins s σ H D I (i _ _ _ q)⟩
end
variable {X : Cx} {W : WX} {T : Tab} {Φ : Fns} {Gv : List D} {ca : Nat → Addr} {n : Nat} {N : List Str} {sc : Scope} {cm : Bool}
section
variable (ec : EC X W T Φ Gv ca n N sc cm)
include ec
theorem e_vis {x : Str} (h : visB sc x = true) : Vis X.env.scope x := by
  rw [ec.hsc]
  unfold visB at h
  unfold Vis
  split at h <;> first | (rename_i e; exact .inl e) | (rename_i e; exact .inr (.inl e)) | (rename_i e; exact .inr (.inr e)) | cases h
theorem e_gl {x : Str} (h : glB sc x = true) : Gl X x := by
  show X.env.scope.names.lookup x = _
  rw [ec.hsc]
  unfold glB at h
  split at h
  · assumption
  · cases h
theorem e_N {x : Str} {i : Nat} (h : isN N[i]? x = true) : X.N[i]? = some x := by
  rw [ec.hN]
  unfold isN at h
  split at h
  · rename_i y e; rw [e, of_decide_eq_true h]
  · cases h
end
theorem okN1 {x : Str} (h : okN x = true) : (x == ("__debug__" : Str)) = false ∧ (x == ("__classdict__" : Str)) = false := by
  unfold okN at h
  simp only [Bool.and_eq_true, Bool.not_eq_true'] at h
  exact h
theorem isN_some {o : Option Str} {x : Str} (h : isN o x = true) : o = some x := by
  unfold isN at h
  split at h
  · rw [of_decide_eq_true h]
  · cases h
section
variable (ec : EC X W T Φ Gv ca n N sc cm)
include ec
theorem s_var {i : Nat} {x : Str} {p : Pos} (h1 : isN N[i]? x = true) (h2 : visB sc x = true) (h3 : okN x = true) : PE X (.Name x p) (tD X.K ca W (evE Φ Gv (.var i))) := by
  refine PE.imp (pe_var (e_N ec h1) (e_vis ec h2) (okN1 h3).1 (okN1 h3).2) fun σ H Q ⟨σd, m, ρ, s, k, h⟩ => ?_
  unfold evE at h
  obtain ⟨d, hd, h⟩ := h.ofO
  unfold sget at hd
  split at hd
  · rename_i d' e
    cases hd
    obtain ⟨v, e2, r⟩ := s.get i _ e
    exact ⟨v, e2, h.val k r⟩
  · cases hd
theorem s_cst {c c' : Const} {k : Nat} {p : Pos} (h1 : c = c') (h2 : cstB c = true) : PE X (.Constant c' k p) (tD X.K ca W (evE Φ Gv (.cst c))) := by
  subst h1
  cases c with
  | none => 
    refine PE.imp pe_non fun σ H Q ⟨σd, m, ρ, s, k, h⟩ => ?_
    unfold evE at h
    exact oX.val (show oX X.K ca W (Rep X.K) ρ σ H (.ok .non m) Q from h) k rep_non
  | bool b => 
    refine PE.imp pe_bl fun σ H Q ⟨σd, m, ρ, s, k, h⟩ => ?_
    unfold evE at h
    exact oX.val (show oX X.K ca W (Rep X.K) ρ σ H (.ok (.bl b) m) Q from h) k rep_bl
  | int i => 
    refine PE.imp pe_int fun σ H Q ⟨σd, m, ρ, s, k, h⟩ => ?_
    unfold evE at h
    exact oX.val (show oX X.K ca W (Rep X.K) ρ σ H (.ok (.int i) m) Q from h) k rep_int
  | str x => 
    refine PE.imp pe_str fun σ H Q ⟨σd, m, ρ, s, k, h⟩ => ?_
    unfold evE at h
    exact oX.val (show oX X.K ca W (Rep X.K) ρ σ H (.ok (.str x) m) Q from h) k rep_str
  | float _ => cases h2
  | complex _ _ => cases h2
  | bytes _ => cases h2
  | ellipsis => cases h2
theorem s_glo {k : Nat} {x : Str} {p : Pos} (h1 : isN T.gs[k]? x = true) (h2 : glB sc x = true) (h3 : okN x = true) : PE X (.Name x p) (tD X.K ca W (evE Φ Gv (.glo k))) := by
  obtain ⟨v, u, d, e1, e2, e3, e4⟩ := ec.gf.gl k x (isN_some h1)
  refine PE.imp (pe_glob (e_gl ec h2) e1 e2 (okN1 h3).1) fun σ H Q ⟨σd, m, ρ, s, k, h⟩ => ?_
  unfold evE at h
  rw [e3] at h
  exact oX.val (show oX X.K ca W (Rep X.K) ρ σ H (.ok d m) Q from h) k (e4 ρ H)
variable {a b c : E} {a' b' c' : Expr} {p : Pos}
theorem s_bin {mu : Bool} {op : Operator} (ha : PE X a' (tD X.K ca W (evE Φ Gv a))) (hb : PE X b' (tD X.K ca W (evE Φ Gv b))) : PE X (.BinOp a' op b' p) (tD X.K ca W (evE Φ Gv (.bin mu op a b))) := by
  refine PE.imp (pe_op (op_bin (mu := mu)) ha hb) fun σ H Q ⟨σd, m, ρ, s, k, h⟩ => ?_
  unfold evE at h
  refine tX.bind s k h fun d m1 v ρ1 H1 s1 e1 k1 r1 h => ?_
  refine tX.bind s1 k1 h fun e m2 w ρ2 H2 s2 e2 k2 r2 h => ?_
  exact ⟨ρ2, m2, d, e, k2, Rep.ext e2 _ _ r1, r2, h.ofP⟩
theorem s_neg (ha : PE X a' (tD X.K ca W (evE Φ Gv a))) : PE X (.UnaryOp .USub a' p) (tD X.K ca W (evE Φ Gv (.neg a))) := by
  refine PE.imp (pe_un un_neg ha) fun σ H Q ⟨σd, m, ρ, s, k, h⟩ => ?_
  unfold evE at h
  refine tX.bind s k h fun d m1 v ρ1 H1 s1 e1 k1 r1 h => ?_
  cases d with
  | int i => exact ⟨i, r1.int, oX.val h k1 rep_int⟩
  | _ => exact h.elim
theorem s_not (ha : PE X a' (tD X.K ca W (evE Φ Gv a))) : PE X (.UnaryOp .Not a' p) (tD X.K ca W (evE Φ Gv (.not a))) := by
  refine PE.imp (pe_notT ha) fun σ H Q ⟨σd, m, ρ, s, k, h⟩ => ?_
  unfold evE at h
  refine tX.bind s k h fun d m1 v ρ1 H1 s1 e1 k1 r1 h => ?_
  cases q : truthy m1 d with
  | none => rw [q] at h; exact h.elim
  | some b => rw [q] at h; exact ⟨b, truthy_rep k1 q r1, oX.val h k1 rep_bl⟩
theorem s_and {rest : List Expr} (ha : PE X a' (tD X.K ca W (evE Φ Gv a))) (hb : PE X (.BoolOp .And (b' :: rest) p) (tD X.K ca W (evE Φ Gv b))) : PE X (.BoolOp .And (a' :: b' :: rest) p) (tD X.K ca W (evE Φ Gv (.and a b))) := by
  refine PE.imp (pe_andT ha hb) fun σ H Q ⟨σd, m, ρ, s, k, h⟩ => ?_
  unfold evE at h
  refine tX.bind s k h fun d m1 v ρ1 H1 s1 e1 k1 r1 h => ?_
  cases q : truthy m1 d with
  | none => rw [q] at h; exact h.elim
  | some z =>
    rw [q] at h
    refine ⟨z, truthy_rep k1 q r1, ?_⟩
    cases z with
    | true => exact iteT ⟨σd, m1, ρ1, s1, k1, h⟩
    | false => exact iteF (oX.val h k1 r1)
theorem s_or {rest : List Expr} (ha : PE X a' (tD X.K ca W (evE Φ Gv a))) (hb : PE X (.BoolOp .Or (b' :: rest) p) (tD X.K ca W (evE Φ Gv b))) : PE X (.BoolOp .Or (a' :: b' :: rest) p) (tD X.K ca W (evE Φ Gv (.or a b))) := by
  refine PE.imp (pe_orT ha hb) fun σ H Q ⟨σd, m, ρ, s, k, h⟩ => ?_
  unfold evE at h
  refine tX.bind s k h fun d m1 v ρ1 H1 s1 e1 k1 r1 h => ?_
  cases q : truthy m1 d with
  | none => rw [q] at h; exact h.elim
  | some z =>
    rw [q] at h
    refine ⟨z, truthy_rep k1 q r1, ?_⟩
    cases z with
    | true => exact iteT (oX.val h k1 r1)
    | false => exact iteF ⟨σd, m1, ρ1, s1, k1, h⟩
theorem s_cmp {op : CmpOp} (hm : behindInMarks op b' = false) (hc : cm = true) (ha : PE X a' (tD X.K ca W (evE Φ Gv a))) (hb : PE X b' (tD X.K ca W (evE Φ Gv b))) : PE X (.Compare a' [op] [b'] p) (tD X.K ca W (evE Φ Gv (.cmp op a b))) := by
  refine PE.imp (pe_cmpR (op_cmp (ec.calm hc).2) ha hb hm) fun σ H Q ⟨σd, m, ρ, s, k, h⟩ => ?_
  unfold evE at h
  refine tX.bind s k h fun d m1 v ρ1 H1 s1 e1 k1 r1 h => ?_
  refine tX.bind s1 k1 h fun e m2 w ρ2 H2 s2 e2 k2 r2 h => ?_
  obtain ⟨b, hb, h⟩ := h.ofB
  exact ⟨ρ2, m2, d, e, b, k2, Rep.ext e2 _ _ r1, r2, hb, oX.val h k2 rep_bl⟩
theorem s_chn {op op' : CmpOp} (hc : cm = true) (ha : PE X a' (tD X.K ca W (evE Φ Gv a))) (hb : PE X b' (tD X.K ca W (evE Φ Gv b))) (hd : PE X c' (tD X.K ca W (evE Φ Gv c)))
    (hm' : behindInMarks op' c' = false) : PE X (.Compare a' [op, op'] [b', c'] p) (tD X.K ca W (evE Φ Gv (.chn op op' a b c))) := by
  refine PE.imp (pe_chain (op_cmp (ec.calm hc).2) (op_cmp (ec.calm hc).2) ha hb hd hm') fun σ H Q ⟨σd, m, ρ, s, k, h⟩ => ?_
  unfold evE at h
  refine tX.bind s k h fun d m1 v ρ1 H1 s1 e1 k1 r1 h => ?_
  refine tX.bind s1 k1 h fun e m2 w ρ2 H2 s2 e2 k2 r2 h => ?_
  cases q : cmpD m2 op d e with
  | none => rw [q] at h; exact h.elim
  | some z =>
    rw [q] at h
    refine ⟨ρ2, m2, d, e, z, k2, Rep.ext e2 _ _ r1, r2, q, z, rfl, ?_⟩
    cases z with
    | false => exact iteF (oX.val h k2 rep_bl)
    | true =>
      refine iteT (tX.bind s2 k2 h fun f m3 x ρ3 H3 s3 e3 k3 r3 h => ?_)
      obtain ⟨b, hb, h⟩ := h.ofB
      exact ⟨ρ3, m3, e, f, b, k3, Rep.ext e3 _ _ r2, r3, hb, oX.val h k3 rep_bl⟩
end
end G

set_option Elab.async false
set_option linter.all false
set_option maxRecDepth 100000
set_option maxHeartbeats 4000000
/-! G10: tests, calls, displays. -/
namespace G
open PySem PySem.Spec L2
variable {X : Cx} {W : WX} {T : Tab} {Φ : Fns} {Gv : List D} {ca : Nat → Addr} {n : Nat} {N : List Str} {sc : Scope} {cm : Bool}
def plainT : Expr → Bool
  | .UnaryOp .Not _ _ => false
  | .BoolOp .. => false
  | .IfExp .. => false
  | .Compare .. => false
  | _ => true
theorem isTrue_dflt {e : Expr} (h : plainT e = true) (env : Env) (whole : Sem Value) : isTrue e env whole = (do let v ← whole; standAt e.pos; holding [v] (PySem.truthy v)) := by
  cases e with
  | UnaryOp op a p => cases op <;> first | rfl | (simp [plainT] at h)
  | BoolOp _ _ _ => simp [plainT] at h
  | IfExp _ _ _ _ => simp [plainT] at h
  | Compare _ _ _ _ => simp [plainT] at h
  | _ => rfl
section
variable {a b c : E} {a' b' c' : Expr} {p : Pos} {σ : Sl} {m : Mem}
theorem evT_not : evT Φ Gv (.not a) σ m = (evT Φ Gv a σ m).bind fun k m1 => .ok (!k) m1 := by
  unfold evT
  rw [evE]
  cases evE Φ Gv a σ m with
  | ok d m1 =>
    simp only [XR.bind]
    cases G.truthy m1 d with
    | none => rfl
    | some b => rfl
  | exc _ _ _ => rfl
  | bad => rfl
theorem evT_and : evT Φ Gv (.and a b) σ m = (evT Φ Gv a σ m).bind fun k m1 => if k = true then evT Φ Gv b σ m1 else .ok false m1 := by
  unfold evT
  rw [evE]
  cases evE Φ Gv a σ m with
  | ok d m1 =>
    simp only [XR.bind]
    cases q : G.truthy m1 d with
    | none => rfl
    | some b => cases b <;> simp [XR.bind, q]
  | exc _ _ _ => rfl
  | bad => rfl
theorem evT_or : evT Φ Gv (.or a b) σ m = (evT Φ Gv a σ m).bind fun k m1 => if k = true then .ok true m1 else evT Φ Gv b σ m1 := by
  unfold evT
  rw [evE]
  cases evE Φ Gv a σ m with
  | ok d m1 =>
    simp only [XR.bind]
    cases q : G.truthy m1 d with
    | none => rfl
    | some b => cases b <;> simp [XR.bind, q]
  | exc _ _ _ => rfl
  | bad => rfl
theorem evT_cmp {op : CmpOp} : evT Φ Gv (.cmp op a b) σ m = (evE Φ Gv a σ m).bind fun x m1 => (evE Φ Gv b σ m1).bind fun y m2 => match cmpD m2 op x y with
    | some k => .ok k m2
    | none => .bad := by
  unfold evT
  rw [evE]
  cases evE Φ Gv a σ m with
  | ok d m1 =>
    simp only [XR.bind]
    cases evE Φ Gv b σ m1 with
    | ok e m2 =>
      simp only [XR.bind]
      cases cmpD m2 op d e with
      | none => rfl
      | some z => rfl
    | exc _ _ _ => rfl
    | bad => rfl
  | exc _ _ _ => rfl
  | bad => rfl
theorem evT_chn {op op' : CmpOp} : evT Φ Gv (.chn op op' a b c) σ m = (evE Φ Gv a σ m).bind fun x m1 => (evE Φ Gv b σ m1).bind fun y m2 => match cmpD m2 op x y with
    | some true => (evE Φ Gv c σ m2).bind fun z m3 => (match cmpD m3 op' y z with
      | some k => .ok k m3
      | none => .bad)
    | some false => .ok false m2
    | none => .bad := by
  unfold evT
  rw [evE]
  cases evE Φ Gv a σ m with
  | ok d m1 =>
    simp only [XR.bind]
    cases evE Φ Gv b σ m1 with
    | ok e m2 =>
      simp only [XR.bind]
      cases cmpD m2 op d e with
      | none => rfl
      | some z =>
        cases z with
        | false => rfl
        | true =>
          cases evE Φ Gv c σ m2 with
          | ok f m3 =>
            simp only [XR.bind]
            cases cmpD m3 op' e f with
            | none => rfl
            | some z => rfl
          | exc _ _ _ => rfl
          | bad => rfl
    | exc _ _ _ => rfl
    | bad => rfl
  | exc _ _ _ => rfl
  | bad => rfl
theorem evE_ife : evE Φ Gv (.ife c a b) σ m = (evT Φ Gv c σ m).bind fun k m1 => if k = true then evE Φ Gv a σ m1 else evE Φ Gv b σ m1 := by
  unfold evT
  rw [evE]
  cases evE Φ Gv c σ m with
  | ok d m1 =>
    simp only [XR.bind]
    cases q : G.truthy m1 d with
    | none => rfl
    | some b => cases b <;> simp [XR.bind]
  | exc _ _ _ => rfl
  | bad => rfl
end
section
variable (ec : EC X W T Φ Gv ca n N sc cm)
include ec
variable {a b c : E} {a' b' c' : Expr} {p : Pos}
theorem t_dflt (ha : PE X a' (tD X.K ca W (evE Φ Gv a))) (h : plainT a' = true) : PT X a' (tBl X.K ca W (evT Φ Gv a)) := by
  refine PT.imp (pt_truth ha fun wh => isTrue_dflt h _ _) fun σ H Q ⟨σd, m, ρ, s, k, h⟩ => ?_
  unfold evT at h
  refine tX.bind s k h fun d m1 v ρ1 H1 s1 e1 k1 r1 h => ?_
  cases q : G.truthy m1 d with
  | none => rw [q] at h; exact h.elim
  | some z => rw [q] at h; exact ⟨z, truthy_rep k1 q r1, h z ρ1 H1 (Ext.refl _ _) k1 rfl⟩
theorem t_not (ha : PT X a' (tBl X.K ca W (evT Φ Gv a))) : PT X (.UnaryOp .Not a' p) (tBl X.K ca W (evT Φ Gv (.not a))) := by
  refine PT.imp (pt_not ha) fun σ H Q ⟨σd, m, ρ, s, k, h⟩ => ?_
  rw [evT_not] at h
  refine tX.bind s k h fun d m1 v ρ1 H1 s1 e1 k1 r1 h => ?_
  cases r1
  exact h _ ρ1 H1 (Ext.refl _ _) k1 rfl
theorem t_one {op : BoolOp} (ha : PT X a' (tBl X.K ca W (evT Φ Gv a))) : PW X (.BoolOp op [a'] p) (tBl X.K ca W (evT Φ Gv a)) := by
  cases op with
  | And => exact pw_and1 ha
  | Or => exact pw_or1 ha
theorem t_and {rest : List Expr} (ha : PT X a' (tBl X.K ca W (evT Φ Gv a))) (hb : PW X (.BoolOp .And (b' :: rest) p) (tBl X.K ca W (evT Φ Gv b))) : PW X (.BoolOp .And (a' :: b' :: rest) p) (tBl X.K ca W (evT Φ Gv (.and a b))) := by
  refine PW.imp (pw_and ha hb) fun σ H Q ⟨σd, m, ρ, s, k, h⟩ => ?_
  rw [evT_and] at h
  refine tX.bind s k h fun d m1 v ρ1 H1 s1 e1 k1 r1 h => ?_
  cases r1
  cases d with
  | true => exact iteT ⟨σd, m1, ρ1, s1, k1, h⟩
  | false => exact iteF (h _ ρ1 H1 (Ext.refl _ _) k1 rfl)
theorem t_or {rest : List Expr} (ha : PT X a' (tBl X.K ca W (evT Φ Gv a))) (hb : PW X (.BoolOp .Or (b' :: rest) p) (tBl X.K ca W (evT Φ Gv b))) : PW X (.BoolOp .Or (a' :: b' :: rest) p) (tBl X.K ca W (evT Φ Gv (.or a b))) := by
  refine PW.imp (pw_or ha hb) fun σ H Q ⟨σd, m, ρ, s, k, h⟩ => ?_
  rw [evT_or] at h
  refine tX.bind s k h fun d m1 v ρ1 H1 s1 e1 k1 r1 h => ?_
  cases r1
  cases d with
  | true => exact iteT (h _ ρ1 H1 (Ext.refl _ _) k1 rfl)
  | false => exact iteF ⟨σd, m1, ρ1, s1, k1, h⟩
theorem t_cmp {op : CmpOp} (hm : behindInMarks op b' = false) (hc : cm = true) (ha : PE X a' (tD X.K ca W (evE Φ Gv a))) (hb : PE X b' (tD X.K ca W (evE Φ Gv b))) : PT X (.Compare a' [op] [b'] p) (tBl X.K ca W (evT Φ Gv (.cmp op a b))) := by
  refine PT.imp (pt_cmpR (op_cmp (ec.calm hc).2) ha hb hm) fun σ H Q ⟨σd, m, ρ, s, k, h⟩ => ?_
  rw [evT_cmp] at h
  refine tX.bind s k h fun d m1 v ρ1 H1 s1 e1 k1 r1 h => ?_
  refine tX.bind s1 k1 h fun e m2 w ρ2 H2 s2 e2 k2 r2 h => ?_
  cases q : cmpD m2 op d e with
  | none => rw [q] at h; exact h.elim
  | some z => rw [q] at h; exact ⟨ρ2, m2, d, e, z, k2, Rep.ext e2 _ _ r1, r2, q, z, rfl, h z ρ2 H2 (Ext.refl _ _) k2 rfl⟩
theorem t_chn {op op' : CmpOp} (hc : cm = true) (ha : PE X a' (tD X.K ca W (evE Φ Gv a))) (hb : PE X b' (tD X.K ca W (evE Φ Gv b))) (hd : PE X c' (tD X.K ca W (evE Φ Gv c)))
    (hm' : behindInMarks op' c' = false) : PT X (.Compare a' [op, op'] [b', c'] p) (tBl X.K ca W (evT Φ Gv (.chn op op' a b c))) := by
  refine PT.imp (pt_chain (op_cmp (ec.calm hc).2) (op_cmp (ec.calm hc).2) ha hb hd hm') fun σ H Q ⟨σd, m, ρ, s, k, h⟩ => ?_
  rw [evT_chn] at h
  refine tX.bind s k h fun d m1 v ρ1 H1 s1 e1 k1 r1 h => ?_
  refine tX.bind s1 k1 h fun e m2 w ρ2 H2 s2 e2 k2 r2 h => ?_
  cases q : cmpD m2 op d e with
  | none => rw [q] at h; exact h.elim
  | some z =>
    rw [q] at h
    refine ⟨ρ2, m2, d, e, z, k2, Rep.ext e2 _ _ r1, r2, q, z, rfl, ?_⟩
    cases z with
    | false => exact iteF ⟨false, rfl, h false ρ2 H2 (Ext.refl _ _) k2 rfl⟩
    | true =>
      refine iteT (tX.bind s2 k2 h fun f m3 x ρ3 H3 s3 e3 k3 r3 h => ?_)
      cases q3 : cmpD m3 op' e f with
      | none => rw [q3] at h; exact h.elim
      | some z =>
        rw [q3] at h
        exact ⟨ρ3, m3, e, f, z, k3, Rep.ext e3 _ _ r2, r3, q3, z, rfl, h z ρ3 H3 (Ext.refl _ _) k3 rfl⟩
theorem s_ife (hc : PT X c' (tBl X.K ca W (evT Φ Gv c))) (ha : PE X a' (tD X.K ca W (evE Φ Gv a))) (hb : PE X b' (tD X.K ca W (evE Φ Gv b))) : PE X (.IfExp c' a' b' p) (tD X.K ca W (evE Φ Gv (.ife c a b))) := by
  refine PE.imp (pe_ifExp hc ha hb) fun σ H Q ⟨σd, m, ρ, s, k, h⟩ => ?_
  rw [evE_ife] at h
  refine tX.bind s k h fun d m1 v ρ1 H1 s1 e1 k1 r1 h => ?_
  cases r1
  cases d with
  | true => exact iteT ⟨σd, m1, ρ1, s1, k1, h⟩
  | false => exact iteF ⟨σd, m1, ρ1, s1, k1, h⟩
end
end G

set_option Elab.async false
set_option linter.all false
set_option maxRecDepth 100000
set_option maxHeartbeats 4000000
/-! G11: arguments, calls, built-ins, methods, displays. -/
namespace G
open PySem PySem.Spec L2
variable {X : Cx} {W : WX} {T : Tab} {Φ : Fns} {Gv : List D} {ca : Nat → Addr} {n : Nat} {N : List Str} {sc : Scope} {cm : Bool}
theorem star_cons {e : Expr} (h : noStar e = true) (es : List Expr) (env : Env) : starEach (e :: es) env = (false, eval e env) :: starEach es env := by
  cases e <;> first | rfl | (simp [noStar] at h)
theorem star_plain : ∀ {es : List Expr} (h : es.all noStar = true) (env : Env) (p : Pos), (backTo p (starEach es env)).any (·.1) = false
  | [], _, _, _ => rfl
  | e :: es, h, env, p => by
    simp only [List.all_cons, Bool.and_eq_true] at h
    rw [star_cons h.1]
    show (false || (backTo p (starEach es env)).any (·.1)) = false
    rw [star_plain h.2]; rfl
theorem cEs_star : ∀ {as : Es} {es : List Expr}, cEs T N cm sc as es = true → es.all noStar = true ∧ as.len = es.length
  | .nil, [], _ => ⟨rfl, rfl⟩
  | .nil, _ :: _, h => by simp [cEs] at h
  | .cons _ _, [], h => by simp [cEs] at h
  | .cons a r, e :: es, h => by
    simp only [cEs, Bool.and_eq_true] at h
    obtain ⟨z1, z2⟩ := cEs_star h.2
    exact ⟨by simp only [List.all_cons, Bool.and_eq_true]; exact ⟨h.1.1, z1⟩, by simp [Es.len, z2]⟩
theorem plainIx {b : Expr} (h : noSlice b = true) : PlainIx b := by
  intro o i
  cases b <;> first | rfl | (simp [noSlice] at h)
theorem sup_base {o : Expr} {attr : Str} {env : Env} (h : noSup o = true) : attributeBase o attr env (eval o env) = eval o env := by
  cases o with
  | Call f as ks p =>
    cases f with
    | Name id q =>
      cases as with
      | nil =>
        cases ks with
        | nil =>
          have hn : (id != ("super" : Str)) = true := by
            simp only [noSup, Bool.not_eq_true', decide_eq_false_iff_not] at h
            exact bne_iff_ne.mpr h
          unfold attributeBase
          simp only [hn, Bool.true_or, if_true]
        | cons _ _ => rfl
      | cons _ _ => rfl
    | _ => rfl
  | _ => rfl
section
variable (ec : EC X W T Φ Gv ca n N sc cm)
include ec
variable {a b c i : E} {a' b' c' i' : Expr} {p : Pos}
theorem s_nil : PA X [] (tDs X.K ca W (evEs Φ Gv .nil)) := by
  refine PA.imp pa_nil fun σ H Q ⟨σd, m, ρ, s, k, h⟩ => ?_
  unfold evEs at h
  exact h [] ρ H (Ext.refl _ _) k Reps.nil
theorem s_cons {r : Es} {es : List Expr} (ha : PE X a' (tD X.K ca W (evE Φ Gv a))) (hr : PA X es (tDs X.K ca W (evEs Φ Gv r))) (hs : noStar a' = true) : PA X (a' :: es) (tDs X.K ca W (evEs Φ Gv (.cons a r))) := by
  refine PA.imp (pa_cons ha hr (star_cons hs es X.env)) fun σ H Q ⟨σd, m, ρ, s, k, h⟩ => ?_
  unfold evEs at h
  refine tX.bind s k h fun d m1 v ρ1 H1 s1 e1 k1 r1 h => ?_
  refine tX.bind s1 k1 h fun ds m2 vs ρ2 H2 s2 e2 k2 r2 h => ?_
  exact h (v :: vs) ρ2 H2 (Ext.refl _ _) k2 (Reps.cons (Rep.ext e2 _ _ r1) r2)
theorem s_tup {as : Es} {es : List Expr} {k : Nat} (ha : PA X es (tDs X.K ca W (evEs Φ Gv as))) : PE X (.Tuple es k p) (tD X.K ca W (evE Φ Gv (.tup as))) := by
  refine PE.imp (pe_tup ha) fun σ H Q ⟨σd, m, ρ, s, k, h⟩ => ?_
  unfold evE at h
  refine tX.bind s k h fun ds m1 vs ρ1 H1 s1 e1 k1 r1 h => ?_
  have h := h.ofP
  split at h
  · rename_i hl
    have hz : vs.length ≤ sizeLine := by rw [← r1.length, ← lim_eq]; exact hl
    exact ⟨hz, h.newT k1 hz r1⟩
  · exact h.elim
theorem s_lst {mu : Bool} {as : Es} {es : List Expr} (ha : PA X es (tDs X.K ca W (evEs Φ Gv as))) : PE X (.List es p) (tD X.K ca W (evE Φ Gv (.lst mu as))) := by
  refine PE.imp (pe_lst ha) fun σ H Q ⟨σd, m, ρ, s, k, h⟩ => ?_
  unfold evE at h
  refine tX.bind s k h fun ds m1 vs ρ1 H1 s1 e1 k1 r1 h => ?_
  have h := h.ofP
  unfold newL at h
  split at h
  · rename_i hl
    have hz : vs.length ≤ sizeLine := by rw [← r1.length, ← lim_eq]; exact hl
    exact ⟨hz, h.newL k1 hz r1⟩
  · exact h.elim
theorem s_idx (ha : PE X a' (tD X.K ca W (evE Φ Gv a))) (hb : PE X b' (tD X.K ca W (evE Φ Gv b))) (hs : noSlice b' = true) : PE X (.Subscript a' b' p) (tD X.K ca W (evE Φ Gv (.idx a b))) := by
  refine PE.imp (pe_ix ix_any ha hb (plainIx hs)) fun σ H Q ⟨σd, m, ρ, s, k, h⟩ => ?_
  unfold evE at h
  refine tX.bind s k h fun d m1 v ρ1 H1 s1 e1 k1 r1 h => ?_
  refine tX.bind s1 k1 h fun e m2 w ρ2 H2 s2 e2 k2 r2 h => ?_
  obtain ⟨z, hz, h⟩ := h.ofO
  exact ⟨ρ2, m2, d, e, k2, Rep.ext e2 _ _ r1, r2, z, hz, h⟩
theorem o_no : PO X none (tX X.K ca W ROI (evEo Φ Gv .no)) := by
  refine PO.imp po_none fun σ H Q ⟨σd, m, ρ, s, k, h⟩ => ?_
  unfold evEo at h
  exact h none ρ H (Ext.refl _ _) k rfl
theorem o_so (ha : PE X a' (tD X.K ca W (evE Φ Gv a))) : PO X (some a') (tX X.K ca W ROI (evEo Φ Gv (.so a))) := by
  refine PO.imp (po_some ha) fun σ H Q ⟨σd, m, ρ, s, k, h⟩ => ?_
  unfold evEo at h
  refine tX.bind s k h fun d m1 v ρ1 H1 s1 e1 k1 r1 h => ?_
  cases d with
  | int i => exact ⟨i, r1.int, h (some i) ρ1 H1 (Ext.refl _ _) k1 rfl⟩
  | _ => exact h.elim
theorem s_slc {mu : Bool} {lo hi : Eo} {lo' hi' : Option Expr} {p2 : Pos} (ha : PE X a' (tD X.K ca W (evE Φ Gv a))) (hl : PO X lo' (tX X.K ca W ROI (evEo Φ Gv lo))) (hh : PO X hi' (tX X.K ca W ROI (evEo Φ Gv hi))) :
    PE X (.Subscript a' (.Slice lo' hi' none p2) p) (tD X.K ca W (evE Φ Gv (.slc mu a lo hi))) := by
  refine PE.imp (pe_slice (sl_any (mu := mu)) ha hl hh) fun σ H Q ⟨σd, m, ρ, s, k, h⟩ => ?_
  unfold evE at h
  refine tX.bind s k h fun d m1 v ρ1 H1 s1 e1 k1 r1 h => ?_
  refine tX.bind s1 k1 h fun l m2 w ρ2 H2 s2 e2 k2 r2 h => ?_
  cases r2
  refine tX.bind s2 k2 h fun l2 m3 w2 ρ3 H3 s3 e3 k3 r3 h => ?_
  cases r3
  exact ⟨ρ3, m3, d, k3, Rep.ext (e2.trans e3) _ _ r1, h.ofP⟩
theorem s_call {f : Nat} {x : Str} {ar : Nat} {as : Es} {es : List Expr} {q : Pos} (hc : cm = true) (hf : isN (T.fs[f]?.map (·.1)) x = true) (hg : glB sc x = true) (ho : okN x = true) (ha : PA X es (tDs X.K ca W (evEs Φ Gv as))) (hs : es.all noStar = true) (hne : es ≠ []) :
    PE X (.Call (.Name x q) es [] p) (tD X.K ca W (evE Φ Gv (.call f as))) := by
  have hf' := isN_some hf
  simp only [Option.map_eq_some_iff] at hf'
  obtain ⟨⟨x', ar⟩, hf', rfl⟩ := hf'
  obtain ⟨fa, fd, ps, e1, e2, e3, F⟩ := ec.gf.fn f _ ar hf'
  cases es with
  | nil => exact absurd rfl hne
  | cons e es =>
    simp only [List.all_cons, Bool.and_eq_true] at hs
    refine PE.imp (pe_callS F (ec.calm hc).2 (e_gl ec hg) e1 e2 e3 (fun σ => passAt ec.takes σ) ha (okN1 ho).1 (star_cons hs.1 es X.env) (star_plain hs.2 X.env p)) fun σ H Q ⟨σd, m, ρ, s, k, h⟩ => ?_
    unfold evE at h
    refine tX.bind s k h fun ds m1 vs ρ1 H1 s1 e1 k1 r1 h => ?_
    have hb : Φ f ds m1 ≠ .bad := fun z => by rw [z] at h; exact h
    refine ⟨ds, m1, ρ1, by rw [← r1.length]; exact ec.gf.arity f _ ar ds m1 hf' hb, r1, k1, ?_⟩
    cases q : Φ f ds m1 with
    | ok d m2 => rw [q] at h; exact h
    | exc c fs m2 =>
      rw [q] at h
      intro cls dd ρ2 H2 e2 k2 r2
      exact h cls dd ρ2 H2 e2 k2 r2
    | bad => rw [q] at h; exact h
end
end G

set_option Elab.async false
set_option linter.all false
set_option maxRecDepth 100000
set_option maxHeartbeats 4000000
/-! G12: built-ins, methods, isinstance. -/
namespace G
open PySem PySem.Spec L2
variable {X : Cx} {W : WX} {T : Tab} {Φ : Fns} {Gv : List D} {ca : Nat → Addr} {n : Nat} {N : List Str} {sc : Scope} {cm : Bool}
theorem boot_blt (b : Blt) : bootBuiltins (bltN b : Str) = some (bltV b) := by cases b <;> decide +kernel
theorem blt_in (b : Blt) : (bltN b : Str) ∈ bltNames := by cases b <;> decide +kernel
section
variable (ec : EC X W T Φ Gv ca n N sc cm)
include ec
variable {a b c i : E} {a' b' c' i' : Expr} {p : Pos}
theorem s_blt {mu : Bool} {b : Blt} {x : Str} {as : Es} {es : List Expr} {q : Pos} (hc : cm = true) (hx : x = (bltN b : Str)) (hg : glB sc x = true) (ha : PA X es (tDs X.K ca W (evEs Φ Gv as))) (hs : es.all noStar = true) (hne : es ≠ []) :
    PE X (.Call (.Name x q) es [] p) (tD X.K ca W (evE Φ Gv (.blt mu b as))) := by
  have hm := ec.gf.blt x (by rw [hx]; exact blt_in b)
  have hv := boot_blt b
  rw [← hx] at hv
  have n1 : x ≠ "__name__" := by rw [hx]; cases b <;> decide +kernel
  have n2 : (x == ("__debug__" : Str)) = false := by rw [hx]; cases b <;> decide +kernel
  have hcr := cr_blt (X := X) (mu := mu) (ec.calm hc).1 (b := b)
  cases es with
  | nil => exact absurd rfl hne
  | cons e es =>
    simp only [List.all_cons, Bool.and_eq_true] at hs
    have fin : PE X (.Call (.Name x q) (e :: es) [] p) (tCB (rBlt X.K mu b) (tDs X.K ca W (evEs Φ Gv as))) := by
      have z1 := star_cons hs.1 es X.env
      have z2 := star_plain hs.2 X.env p
      cases b <;> first
        | exact pe_callB hcr (e_gl ec hg) hm hv ha n1 n2 z1 z2
        | exact pe_callTy hcr (e_gl ec hg) hm hv ha n1 n2 z1 z2
    refine PE.imp fin fun σ H Q ⟨σd, m, ρ, s, k, h⟩ => ?_
    unfold evE at h
    refine tX.bind s k h fun ds m1 vs ρ1 H1 s1 e1 k1 r1 h => ?_
    exact ⟨ρ1, m1, ds, k1, r1, h.ofP⟩
end
def mthId : Mth → String
  | .append => "list.append" | .extend => "list.extend" | .pop => "list.pop" | .popAt => "list.pop" | .join => "str.join" | .split => "str.split"
def rMth (K : PySem.W.Frag) (x : Mth) : V → List V → Hp → VK → Prop := fun o vs H Q => ∃ ρ m d ds, MemOk K ρ H m ∧ Rep K ρ H d o ∧ Reps K ρ H ds vs ∧ oP K ρ H (mthD x d ds m) Q
section
variable {pins : List (Addr × Obj)} {s : Shared} {σ : L2.St} {H : Hp} {Q : VK} {ρ : Rr} {m : Mem}
/-- a cell that is a list -/
theorem ref_lst {K : PySem.W.Frag} {nn : Nat} {xs : List D} {v : V} (hm : m[nn]? = some (.lst xs)) (k : MemOk K ρ H m) (r : Rep K ρ H (.ref nn) v) : ∃ a vs, v = .ref a ∧ ρ.c[nn]? = some a ∧ H a = some (.lst vs) ∧ vs.length ≤ sizeLine ∧ Reps K ρ H xs vs := by
  simp only [Rep] at r
  obtain ⟨a, e, q⟩ := r
  obtain ⟨vs, h1, h2, h3⟩ := k.cell nn _ a hm q
  exact ⟨a, vs, e, q, h1, h2, h3⟩
theorem ixN_of {l : Nat} {i : Int} {j : Nat} (h : ixN l i = some j) : seqIndex? i l = some j := (ixN_seq h).1
theorem mt_any {x : Mth} (hr : Room n X.A) : MtR X (mthId x) (rMth X.K x) := by
  intro pins s σ H o vs v us Q I ro rs h
  obtain ⟨ρ, m, d, ds, k, rd, rds, h⟩ := h
  unfold mthD at h
  split at h
  · obtain ⟨w, rfl, r1⟩ := rds.one
    split at h
    · rename_i xs hm
      split at h
      · rename_i hz
        obtain ⟨a, vs, rfl, q, h1, h2, h3⟩ := ref_lst hm k rd
        have hz' : vs.length < sizeLine := by rw [← h3.length, ← lim_eq]; exact hz
        have e1 := ext_set (List.mem_of_getElem? q) (H := H) (.lst (vs ++ [w]))
        refine mt_append pins s σ H _ _ v us Q I ro rs ⟨a, vs, w, rfl, rfl, h1, hz', ?_⟩
        exact h .non ρ _ e1 (k.set q (by rw [List.length_append]; exact hz') (h3.append (Reps.cons r1 Reps.nil))) rep_non
      · exact h.elim
    · exact h.elim
  · obtain ⟨w, rfl, r1⟩ := rds.one
    split at h
    · rename_i xs ys hm hy
      split at h
      · rename_i hz
        obtain ⟨a, vs, rfl, q, h1, h2, h3⟩ := ref_lst hm k rd
        obtain ⟨b, ws, rfl, g1, g2, g3⟩ := asL_rep hy k r1
        have hz' : vs.length + ws.length ≤ sizeLine := by rw [← h3.length, ← g3.length, ← lim_eq]; exact hz
        have e1 := ext_set (List.mem_of_getElem? q) (H := H) (.lst (vs ++ ws))
        refine mt_extend pins s σ H _ _ v us Q I ro rs ⟨a, b, vs, ws, rfl, rfl, h1, g1, hz', ?_⟩
        exact h .non ρ _ e1 (k.set q (by rw [List.length_append]; exact hz') (h3.append g3)) rep_non
      · exact h.elim
    · exact h.elim
  · obtain ⟨w, rfl, r1⟩ := rds.one
    split at h
    · rename_i xs hm
      split at h
      · rename_i hb
        split at h
        · rename_i j hj
          split at h
          · rename_i y hy
            obtain ⟨a, vs, rfl, q, h1, h2, h3⟩ := ref_lst hm k rd
            obtain ⟨z, hz, rz⟩ := h3.get hy
            have e1 := ext_set (List.mem_of_getElem? q) (H := H) (.lst (vs.eraseIdx j))
            refine mt_popAt pins s σ H _ _ v us Q I ro rs ⟨a, vs, _, j, z, rfl, by rw [r1.int], h1, hb.1, hb.2, by rw [← h3.length]; exact ixN_of hj, hz, ?_⟩
            exact h z ρ _ e1 (k.set q (Nat.le_trans (len_erase vs j) h2) (h3.eraseIdx j)) (Rep.ext e1 _ _ rz)
          · exact h.elim
        · exact h.elim
      · exact h.elim
    · exact h.elim
  · obtain ⟨w, rfl, r1⟩ := rds.one
    split at h
    · rename_i ys hy
      split at h
      · rename_i hz
        simp only [Option.bind_eq_some_iff] at hy
        obtain ⟨ds, g1, g2⟩ := hy
        obtain ⟨a, vs, rfl, t, l, q⟩ := items_rep g1 k r1
        have e := asStrs_rep g2 q
        subst e
        refine mt_join pins s σ H _ _ v us Q I ro rs ⟨_, a, ys, rd.str, rfl, t.imp id (·.1), ?_, h.val k rep_str⟩
        exact hz
      · exact h.elim
    · exact h.elim
  · obtain ⟨w, rfl, r1⟩ := rds.one
    split at h
    · rename_i z y hz
      refine mt_split pins s σ H _ _ v us Q I ro rs ⟨_, _, rd.str, by rw [r1.str], by rw [beq_eq_false_iff_ne]; exact hz.1, by rw [← lim_eq]; exact hz.2, ?_⟩
      have e0 : ∀ l : List Str, Reps X.K ρ H (l.map D.str) (l.map V.str) := fun l => by
        induction l with
        | nil => exact Reps.nil
        | cons a l ih => exact Reps.cons rep_str ih
      have hl : ((Txt.split z y).map V.str).length ≤ sizeLine := by
        rw [List.length_map]
        exact Nat.le_trans (PyProof.Rows.split_le _ _) (by rw [← lim_eq]; exact hz.2)
      exact oP.newL (mu := false) h k hl (e0 _)
    · exact h.elim
  · exact h.elim
end
section
variable (ec : EC X W T Φ Gv ca n N sc cm)
include ec
variable {a b c i : E} {a' b' c' i' : Expr} {p : Pos}
theorem few_one {cpos : Pos} {e : Expr} {env : Env} (h : noStar e = true) : ((backTo cpos (starEach [e] env)).all (fun x => !x.1) && (backToKw cpos (keywordEach [] env)).all (fun x => x.1.isSome)
      && decide (([e] : List Expr).length + ([] : List Keyword).length + (if ([] : List Keyword).isEmpty then 0 else 1) < 30)) = true := by
  rw [star_cons h]
  rfl
omit ec in
theorem tyV_ref {K : PySem.W.Frag} {ρ : Rr} {H : Hp} {m : Mem} {nn : Nat} {v : V} (k : MemOk K ρ H m) (r : Rep K ρ H (.ref nn) v) : tyV K "list" v H := by
  simp only [Rep] at r
  obtain ⟨a, rfl, q⟩ := r
  obtain ⟨xs, hm⟩ := cell_lst k q
  obtain ⟨vs, h1, _⟩ := k.cell nn _ a hm q
  exact .inl ⟨rfl, vs, SqL.of h1⟩
def mthT : Mth → String
  | .join => "str" | .split => "str" | _ => "list"
omit ec in
theorem mth_ty {K : PySem.W.Frag} {ρ : Rr} {H : Hp} {m : Mem} {x : Mth} {d : D} {v : V} (k : MemOk K ρ H m) (r : Rep K ρ H d v) (h : mthOk x d = true) : tyV K (mthT x) v H := by
  unfold mthOk at h
  split at h
  · rw [r.str]; rfl
  · rw [r.str]; rfl
  · exact tyV_ref k r
  · exact tyV_ref k r
  · exact tyV_ref k r
  · exact tyV_ref k r
  · cases h
theorem s_mth {x : Mth} {attr : Str} {as : Es} {e : Expr} {o : E} {o' : Expr} {p1 : Pos} (hc : cm = true) (hx : attr = (mthN x : Str)) (hsup : noSup o' = true) (hl : (p1.endLine == p.line) = true)
    (ho : PE X o' (tD X.K ca W (evE Φ Gv o))) (ha : PA X [e] (tDs X.K ca W (evEs Φ Gv as))) (hs : noStar e = true) : PE X (.Call (.Attribute o' attr p1) [e] [] p) (tD X.K ca W (evE Φ Gv (.mth x o as))) := by
  have hmt := mt_any (X := X) (x := x) (ec.calm hc).2
  have hb := sup_base (attr := attr) (env := X.env) hsup
  have hf := few_one ec (cpos := p) (env := X.env) hs
  have z1 := star_cons hs [] X.env
  have fin : PE X (.Call (.Attribute o' attr p1) [e] [] p) (tBM X.K (mthT x) (rMth X.K x) (tD X.K ca W (evE Φ Gv o)) (tDs X.K ca W (evEs Φ Gv as))) := by
    subst hx
    cases x with
    | append => exact pe_bm PySem.F.plainAttrs_list PySem.F.slot_list_append PySem.F.type_list_append hmt ho ha hb hf hl z1 rfl
    | extend => exact pe_bm PySem.F.plainAttrs_list PySem.F.slot_list_extend PySem.F.type_list_extend hmt ho ha hb hf hl z1 rfl
    | pop => exact pe_bm PySem.F.plainAttrs_list PySem.F.slot_list_pop PySem.F.type_list_pop hmt ho ha hb hf hl z1 rfl
    | popAt => exact pe_bm PySem.F.plainAttrs_list PySem.F.slot_list_pop PySem.F.type_list_pop hmt ho ha hb hf hl z1 rfl
    | join => exact pe_bm PySem.F.plainAttrs_str PySem.F.slot_str_join PySem.F.type_str_join hmt ho ha hb hf hl z1 rfl
    | split => exact pe_bm PySem.F.plainAttrs_str PySem.F.slot_str_split PySem.F.type_str_split hmt ho ha hb hf hl z1 rfl
  refine PE.imp fin fun σ H Q ⟨σd, m, ρ, s, k, h⟩ => ?_
  unfold evE at h
  refine tX.bind s k h fun d m1 v ρ1 H1 s1 e1 k1 r1 h => ?_
  split at h
  · rename_i hok
    refine ⟨mth_ty k1 r1 hok, tX.bind s1 k1 h fun ds m2 vs ρ2 H2 s2 e2 k2 r2 h => ?_⟩
    exact ⟨ρ2, m2, d, ds, k2, Rep.ext e2 _ _ r1, r2, h.ofP⟩
  · exact h.elim
end
end G

set_option Elab.async false
set_option linter.all false
set_option maxRecDepth 100000
set_option maxHeartbeats 4000000
/-! G13: isinstance; what is walked; targets. -/
namespace G
open PySem PySem.Spec L2
variable {X : Cx} {W : WX} {T : Tab} {Φ : Fns} {Gv : List D} {ca : Nat → Addr} {n : Nat} {N : List Str} {sc : Scope} {cm : Bool}
theorem kit_all : ∀ t : Ty, kitB "NoneType" (tyN t) = some false ∧ kitB "bool" (tyN t) = some (decide (t = .bool) || decide (t = .int)) ∧ kitB "int" (tyN t) = some (decide (t = .int)) ∧
    kitB "str" (tyN t) = some (decide (t = .str)) ∧ kitB "tuple" (tyN t) = some (decide (t = .tuple)) ∧ kitB "list" (tyN t) = some (decide (t = .list)) := by
  intro t
  cases t <;> refine ⟨?_, ?_, ?_, ?_, ?_, ?_⟩ <;> decide +kernel
/-- the type's name of a value -/
theorem ty_of {K : PySem.W.Frag} {ρ : Rr} {H : Hp} {m : Mem} {d : D} {v : V} (k : MemOk K ρ H m) (r : Rep K ρ H d v) : (∃ t b, isTy m d t = some b) → ∃ tn, TyX K H v (.type tn) ∧ ∀ t b, isTy m d t = some b → kitB tn (tyN t) = some b := by
  rintro ⟨t0, b0, h0⟩
  cases d with
  | non => rw [r.non]; exact ⟨"NoneType", .base .non, fun t b h => by rw [(kit_all t).1]; simpa [isTy] using h⟩
  | bl x =>
    rw [r.bl]
    refine ⟨"bool", .base (.bl _), fun t b h => ?_⟩
    rw [(kit_all t).2.1, ← h]
    cases t <;> rfl
  | int x =>
    rw [r.int]
    refine ⟨"int", .base (.int _), fun t b h => ?_⟩
    rw [(kit_all t).2.2.1, ← h]
    cases t <;> rfl
  | str x =>
    rw [r.str]
    refine ⟨"str", .base (.str _), fun t b h => ?_⟩
    rw [(kit_all t).2.2.2.1, ← h]
    cases t <;> rfl
  | tup xs =>
    simp only [Rep] at r
    obtain ⟨a, vs, rfl, t, _⟩ := r
    refine ⟨"tuple", ?_, fun t b h => ?_⟩
    · rcases t with ⟨t | ⟨o, t⟩, _⟩ | ⟨o, its, nn, h1, h2, _⟩
      · exact .base (.tup t)
      · exact .fTuple t
      · exact .kTuple h1 h2
    · rw [(kit_all t).2.2.2.2.1, ← h]
      cases t <;> rfl
  | lst xs =>
    simp only [Rep] at r
    obtain ⟨a, vs, rfl, t, _⟩ := r
    refine ⟨"list", .base (.lst t), fun t b h => ?_⟩
    rw [(kit_all t).2.2.2.2.2, ← h]
    cases t <;> rfl
  | ref nn =>
    simp only [Rep] at r
    obtain ⟨a, rfl, q⟩ := r
    obtain ⟨xs, hm⟩ := cell_lst k q
    obtain ⟨vs, h1, _⟩ := k.cell nn _ a hm q
    refine ⟨"list", .base (.lst h1), fun t b h => ?_⟩
    rw [(kit_all t).2.2.2.2.2, ← h]
    simp only [isTy, hm]
  | scr _ => simp [isTy] at h0
  | dct _ _ => simp [isTy] at h0
  | exn _ _ => simp [isTy] at h0
theorem kitAny_ty {K : PySem.W.Frag} {m : Mem} {d : D} {tn : String} (h : ∀ t b, isTy m d t = some b → kitB tn (tyN t) = some b) : ∀ {ts : List Ty} {b : Bool}, isTys m d ts = some b → PySem.W.kitAny K (.type tn) (ts.map fun t => .type (tyN t)) = some b
  | [], b, e => by simp only [isTys, Option.some.injEq] at e; subst e; exact kitAny_nil
  | t :: ts, b, e => by
    simp only [isTys] at e
    split at e
    · rename_i e1
      simp only [Option.some.injEq] at e; subst e
      exact kitAny_cons (b := true) (kit_ty (h t _ e1)) (fun z => nomatch z) (fun _ => rfl)
    · rename_i e1
      exact kitAny_cons (b := false) (kit_ty (h t _ e1)) (fun _ => kitAny_ty h e) (fun z => nomatch z)
    · cases e
theorem boot_ty (t : Ty) : bootBuiltins (tyN t : Str) = some (.type (tyN t)) := by cases t <;> decide +kernel
theorem ty_in (t : Ty) : (tyN t : Str) ∈ bltNames := by cases t <;> decide +kernel
section
variable (ec : EC X W T Φ Gv ca n N sc cm)
include ec
variable {a b c i : E} {a' b' c' i' : Expr} {p : Pos}
theorem s_ty {t : Ty} {x : Str} (hx : x = (tyN t : Str)) (hg : glB sc x = true) : PE X (.Name x p) (tC (.ty (tyN t))) := by
  have hm := ec.gf.blt x (by rw [hx]; exact ty_in t)
  have hv := boot_ty t
  rw [← hx] at hv
  exact pe_bltn (e_gl ec hg) hm hv rfl (by rw [hx]; cases t <;> decide +kernel) (by rw [hx]; cases t <;> decide +kernel)
theorem s_tys : ∀ {ts : List Ty} {es : List Expr}, tysB sc ts es = true → PA X es (fun σ H Q => Q (ts.map fun t => V.ty (tyN t)) H) ∧ es.all noStar = true
  | [], [], _ => ⟨pa_nil, rfl⟩
  | [], _ :: _, h => by simp [tysB] at h
  | _ :: _, [], h => by simp [tysB] at h
  | t :: ts, e :: es, h => by
    cases e with
    | Name x q =>
      simp only [tysB, Bool.and_eq_true, decide_eq_true_eq] at h
      obtain ⟨h1, h2⟩ := s_tys h.2
      exact ⟨PA.imp (pa_cons (s_ty ec h.1.1 h.1.2) h1 (star_cons rfl _ _)) fun σ H Q q => q, by simpa [noStar] using h2⟩
    | _ => simp [tysB] at h
theorem s_isi {ts : List Ty} {x : Str} {q : Pos} (hc : cm = true) (hx : x = ("isinstance" : Str)) (hg : glB sc x = true) (ha : PE X a' (tD X.K ca W (evE Φ Gv a))) (ht : tyB sc ts b' = true) (hs : noStar a' = true) :
    PE X (.Call (.Name x q) [a', b'] [] p) (tD X.K ca W (evE Φ Gv (.isi a ts))) := by
  have hm := ec.gf.blt x (by rw [hx]; decide +kernel)
  have hv : bootBuiltins x = some (.builtin "isinstance") := by rw [hx]; decide +kernel
  have n1 : x ≠ "__name__" := by rw [hx]; decide +kernel
  have n2 : (x == ("__debug__" : Str)) = false := by rw [hx]; decide +kernel
  unfold tyB at ht
  split at ht
  · rename_i t y p'
    simp only [Bool.and_eq_true, decide_eq_true_eq] at ht
    refine PE.imp (pe_callB call_isi (e_gl ec hg) hm hv (pa_cons ha (pa_cons (s_ty ec ht.1 ht.2) pa_nil (star_cons rfl _ _)) (star_cons hs _ _)) n1 n2 (star_cons hs _ _) rfl) fun σ H Q ⟨σd, m, ρ, s, k, h⟩ => ?_
    unfold evE at h
    refine tX.bind s k h fun d m1 v ρ1 H1 s1 e1 k1 r1 h => ?_
    obtain ⟨z, hz, h⟩ := h.ofB
    simp only [isTys] at hz
    have h2 : isTy m1 d t = some z := by
      split at hz
      · rename_i q2; rw [q2]; exact hz
      · rename_i q2; rw [q2]; exact hz
      · cases hz
    obtain ⟨tn, T1, T2⟩ := ty_of k1 r1 ⟨t, z, h2⟩
    exact ⟨v, .ty (tyN t), .type tn, .type (tyN t), z, rfl, .ty _, T1, kit_ty (T2 t z h2), oX.val h k1 rep_bl⟩
  · rename_i es kk p' _
    simp only [Bool.and_eq_true, decide_eq_true_eq] at ht
    obtain ⟨P1, P2⟩ := s_tys ec ht.2
    refine PE.imp (pe_callB call_isiT (e_gl ec hg) hm hv (pa_cons ha (pa_cons (pe_tup P1) pa_nil (star_cons rfl _ _)) (star_cons hs _ _)) n1 n2 (star_cons hs _ _) rfl) fun σ H Q ⟨σd, m, ρ, s, k, h⟩ => ?_
    unfold evE at h
    refine tX.bind s k h fun d m1 v ρ1 H1 s1 e1 k1 r1 h => ?_
    obtain ⟨z, hz, h⟩ := h.ofB
    have h2 : ∃ t b, isTy m1 d t = some b := by
      cases ts with
      | nil => exact absurd ht.1.1 (by decide)
      | cons t ts =>
        simp only [isTys] at hz
        split at hz
        · rename_i q2; exact ⟨t, _, q2⟩
        · rename_i q2; exact ⟨t, _, q2⟩
        · cases hz
    refine ⟨by rw [List.length_map, sizeLine_eq]; omega, fun q0 hq => ?_⟩
    have e2 := ext_new k1 hq (.tup (ts.map fun t => V.ty (tyN t)))
    have k2 := k1.new hq (.tup (ts.map fun t => V.ty (tyN t)))
    obtain ⟨tn, T1, T2⟩ := ty_of k2 (Rep.ext e2 _ _ r1) h2
    have cl : ∀ l : List Ty, Paired ClsV (l.map fun t => V.ty (tyN t)) (l.map fun t => Value.type (tyN t)) := fun l => by
      induction l with
      | nil => exact .nil
      | cons t l ih => exact .cons (.ty _) ih
    exact ⟨v, q0, _, .type tn, _, z, rfl, upd_same, cl ts, T1, kitAny_ty T2 hz, h _ ρ1 _ e2 k2 rep_bl⟩
  · cases ht
end
end G

set_option Elab.async false
set_option linter.all false
set_option maxRecDepth 100000
set_option maxHeartbeats 4000000
/-! G14: what is walked. -/
namespace G
open PySem PySem.Spec L2
variable {X : Cx} {W : WX} {T : Tab} {Φ : Fns} {Gv : List D} {ca : Nat → Addr} {n : Nat} {N : List Str} {sc : Scope} {cm : Bool}
theorem Rd.ex2 {ρ ρ' : Rr} {H H' : Hp} (e : Ex2 ρ ρ' H H') {a : Addr} {u : HO} (h : Rd H a u) (n : a ∉ ρ) : Rd H' a u := by
  rcases h with h | ⟨o, h⟩
  · exact .inl (e.kept h n)
  · exact .inr ⟨o, e.kept h n⟩
/-- S tells what the iterator J yields, from (ρ₀, H₀) on -/
def SrcRel (K : PySem.W.Frag) (ρ₀ : Rr) (H₀ : Hp) (S : Src) (J : L2.It) : Prop :=
  ∀ ρ H m, Ex2 ρ₀ ρ H₀ H → MemOk K ρ H m →
    (∀ i d, S.at' i m = some d → J.go i H ∧ ∀ x H', J.yld i H x H' → ∃ ρ', Ext ρ ρ' H H' ∧ MemOk K ρ' H' m ∧ Rep K ρ' H' d x) ∧ (S.ok m = true → J.stop S.len H)
section
variable {K : PySem.W.Frag} {ρ : Rr} {H : Hp} {m : Mem} {a b : Addr} {vs ws : List V} {xs ys : List D} {v w : V} {S S' : Src}
/-- the list (the tuple) at a gives the items of S, whatever comes -/
structure LRel (K : PySem.W.Frag) (Sq : Hp → Addr → List V → Prop) (ρ₀ : Rr) (H₀ : Hp) (S : Src) (a : Addr) : Prop where
  it : ∀ ρ H m, Ex2 ρ₀ ρ H₀ H → MemOk K ρ H m → ∀ i d, S.at' i m = some d → ∃ vs v, Sq H a vs ∧ vs[i]? = some v ∧ Rep K ρ H d v
  st : ∀ ρ H m, Ex2 ρ₀ ρ H₀ H → MemOk K ρ H m → S.ok m = true → ∃ vs, Sq H a vs ∧ vs.length ≤ S.len
abbrev LL (K : PySem.W.Frag) := LRel K (SqL K)
abbrev LT (K : PySem.W.Frag) := LRel K (SqT K)
theorem LL.static (h : ∀ ρ' H', Ex2 ρ ρ' H H' → SqL K H' a vs) (r : Reps K ρ H xs vs) : LL K ρ H (srcS xs) a where
  it := fun ρ2 H2 m e k i d hd => by
    obtain ⟨v, hv, rv⟩ := (Reps.ex2 e xs vs r).get hd
    exact ⟨vs, v, h _ _ e, hv, rv⟩
  st := fun ρ2 H2 m e k _ => ⟨vs, h _ _ e, by rw [← r.length]; exact Nat.le_refl _⟩
theorem LT.static (h : ∀ ρ' H', Ex2 ρ ρ' H H' → SqT K H' a vs) (r : Reps K ρ H xs vs) : LT K ρ H (srcS xs) a where
  it := fun ρ2 H2 m e k i d hd => by
    obtain ⟨v, hv, rv⟩ := (Reps.ex2 e xs vs r).get hd
    exact ⟨vs, v, h _ _ e, hv, rv⟩
  st := fun ρ2 H2 m e k _ => ⟨vs, h _ _ e, by rw [← r.length]; exact Nat.le_refl _⟩
theorem LL.cell {nn len : Nat} (q : ρ.c[nn]? = some a) : LL K ρ H (srcR nn len) a where
  it := fun ρ2 H2 m e k i d hd => by
    simp only [srcR] at hd
    split at hd
    · rename_i ys hm
      split at hd
      · obtain ⟨vs, h1, h2, h3⟩ := k.cell nn _ a hm (e.get q)
        obtain ⟨v, hv, rv⟩ := h3.get hd
        exact ⟨vs, v, SqL.of h1, hv, rv⟩
      · cases hd
    · cases hd
  st := fun ρ2 H2 m e k ho => by
    simp only [srcR] at ho
    split at ho
    · rename_i ys hm
      obtain ⟨vs, h1, h2, h3⟩ := k.cell nn _ a hm (e.get q)
      exact ⟨vs, SqL.of h1, by rw [← h3.length]; exact Nat.le_of_eq (of_decide_eq_true ho)⟩
    · cases ho
/-- a list-like value: lst, scr, ref -/
theorem LL.of {d : D} (k : MemOk K ρ H m) (h : srcD d m = some S) (r : Rep K ρ H d v) (ht : ∀ xs, d ≠ .tup xs) (hs : ∀ x, d ≠ .str x) : ∃ a vs, v = .ref a ∧ SqL K H a vs ∧ LL K ρ H S a := by
  cases d with
  | lst xs =>
    simp only [srcD, Option.some.injEq] at h; subst h
    simp only [Rep] at r
    obtain ⟨a, vs, rfl, t, no, l, q⟩ := r
    exact ⟨a, vs, rfl, SqL.of t, LL.static (fun ρ' H' e => SqL.of (e.kept t no)) q⟩
  | scr xs =>
    simp only [srcD, Option.some.injEq] at h; subst h
    simp only [Rep] at r
    obtain ⟨a, vs, rfl, t, l, q⟩ := r
    refine ⟨a, vs, rfl, t.sq, LL.static (fun ρ' H' e => ?_) q⟩
    rcases t with ⟨t, no⟩ | t
    · exact .inl (Rd.ex2 e t no)
    · exact .inr t
  | ref nn =>
    simp only [srcD] at h
    split at h
    · rename_i xs hm
      simp only [Option.some.injEq] at h; subst h
      obtain ⟨a, vs, rfl, q, h1, h2, h3⟩ := ref_lst hm k r
      exact ⟨a, vs, rfl, SqL.of h1, LL.cell q⟩
    · cases h
  | tup xs => exact absurd rfl (ht xs)
  | str x => exact absurd rfl (hs x)
  | _ => simp [srcD] at h
theorem LT.of (r : Rep K ρ H (.tup xs) v) : ∃ a vs, v = .ref a ∧ SqT K H a vs ∧ LT K ρ H (srcS xs) a := by
  simp only [Rep] at r
  obtain ⟨a, vs, rfl, t, l, q⟩ := r
  refine ⟨a, vs, rfl, t.sq, LT.static (fun ρ' H' e => ?_) q⟩
  rcases t with ⟨t, no⟩ | t
  · exact .inl (Rd.ex2 e t no)
  · exact .inr t
theorem LL.rel (l : LL K ρ H S a) : SrcRel K ρ H S (Itl K a) := fun ρ2 H2 m e k => by
  refine ⟨fun i d hd => ?_, fun ho => ?_⟩
  · obtain ⟨vs, v, h1, h2, h3⟩ := l.it ρ2 H2 m e k i d hd
    refine ⟨⟨vs, v, h1, h2⟩, fun x H' hy => ?_⟩
    obtain ⟨rfl, hy⟩ := hy
    have := hy vs h1
    rw [h2] at this; cases this
    exact ⟨ρ2, Ext.refl _ _, k, h3⟩
  · exact l.st ρ2 H2 m e k ho
theorem LT.rel (l : LT K ρ H S a) : SrcRel K ρ H S (Itt K a) := fun ρ2 H2 m e k => by
  refine ⟨fun i d hd => ?_, fun ho => ?_⟩
  · obtain ⟨vs, v, h1, h2, h3⟩ := l.it ρ2 H2 m e k i d hd
    refine ⟨⟨vs, v, h1, h2⟩, fun x H' hy => ?_⟩
    obtain ⟨rfl, hy⟩ := hy
    have := hy vs h1
    rw [h2] at this; cases this
    exact ⟨ρ2, Ext.refl _ _, k, h3⟩
  · exact l.st ρ2 H2 m e k ho
/-- a new pair -/
theorem pair_rep {d e : D} {x y : V} (k : MemOk K ρ H m) {p : Addr} (hp : H p = none) (rx : Rep K ρ H d x) (ry : Rep K ρ H e y) : Ext ρ ρ H (upd H p (.tup [x, y])) ∧ MemOk K ρ (upd H p (.tup [x, y])) m ∧ Rep K ρ (upd H p (.tup [x, y])) (.tup [d, e]) (.ref p) := by
  have e1 := ext_new k hp (.tup [x, y])
  refine ⟨e1, k.new hp _, ?_⟩
  simp only [Rep]
  exact ⟨p, _, rfl, .inl ⟨.inl upd_same, k.fresh hp⟩, by rw [sizeLine_eq]; show 2 ≤ _; decide, Reps.ext e1 _ _ (Reps.cons rx (Reps.cons ry Reps.nil))⟩
theorem LL.zip (l : LL K ρ H S a) (l' : LL K ρ H S' b) : SrcRel K ρ H (srcZ S S') (Itz K a b) := fun ρ2 H2 m e k => by
  refine ⟨fun i d hd => ?_, fun ho => ?_⟩
  · simp only [srcZ] at hd
    split at hd
    · rename_i x y hx hy
      simp only [Option.some.injEq] at hd; subst hd
      obtain ⟨vs, v, h1, h2, h3⟩ := l.it ρ2 H2 m e k i x hx
      obtain ⟨ws, w, g1, g2, g3⟩ := l'.it ρ2 H2 m e k i y hy
      refine ⟨⟨vs, ws, v, w, h1, g1, h2, g2⟩, fun z H' hz => ?_⟩
      obtain ⟨p, x', y', rfl, hp, rfl, z1, z2⟩ := hz
      have q1 := z1 vs h1; rw [h2] at q1; cases q1
      have q2 := z2 ws g1; rw [g2] at q2; cases q2
      exact ⟨ρ2, pair_rep k hp h3 g3⟩
    · cases hd
  · simp only [srcZ, Bool.and_eq_true] at ho
    obtain ⟨vs, h1, h2⟩ := l.st ρ2 H2 m e k ho.1
    obtain ⟨ws, g1, g2⟩ := l'.st ρ2 H2 m e k ho.2
    refine ⟨vs, ws, h1, g1, ?_⟩
    show vs.length ≤ min S.len S'.len ∨ ws.length ≤ min S.len S'.len
    omega
theorem LT.zip (l : LT K ρ H S a) (l' : LT K ρ H S' b) : SrcRel K ρ H (srcZ S S') (RZ.ItzT K a b) := fun ρ2 H2 m e k => by
  refine ⟨fun i d hd => ?_, fun ho => ?_⟩
  · simp only [srcZ] at hd
    split at hd
    · rename_i x y hx hy
      simp only [Option.some.injEq] at hd; subst hd
      obtain ⟨vs, v, h1, h2, h3⟩ := l.it ρ2 H2 m e k i x hx
      obtain ⟨ws, w, g1, g2, g3⟩ := l'.it ρ2 H2 m e k i y hy
      refine ⟨⟨vs, ws, v, w, h1, g1, h2, g2⟩, fun z H' hz => ?_⟩
      obtain ⟨p, x', y', rfl, hp, rfl, z1, z2⟩ := hz
      have q1 := z1 vs h1; rw [h2] at q1; cases q1
      have q2 := z2 ws g1; rw [g2] at q2; cases q2
      exact ⟨ρ2, pair_rep k hp h3 g3⟩
    · cases hd
  · simp only [srcZ, Bool.and_eq_true] at ho
    obtain ⟨vs, h1, h2⟩ := l.st ρ2 H2 m e k ho.1
    obtain ⟨ws, g1, g2⟩ := l'.st ρ2 H2 m e k ho.2
    refine ⟨vs, ws, h1, g1, ?_⟩
    show vs.length ≤ min S.len S'.len ∨ ws.length ≤ min S.len S'.len
    omega
theorem evEs_len : ∀ {as : Es} {σ : Sl} {m : Mem} {ds : List D} {m' : Mem}, evEs Φ Gv as σ m = .ok ds m' → ds.length = as.len
  | .nil, _, _, _, _, h => by
    unfold evEs at h
    cases h; rfl
  | .cons a r, σ, m, ds, m', h => by
    unfold evEs at h
    cases q : evE Φ Gv a σ m with
    | ok d m1 =>
      rw [q] at h
      simp only [XR.bind] at h
      cases q2 : evEs Φ Gv r σ m1 with
      | ok es m2 =>
        rw [q2] at h
        simp only [XR.ok.injEq] at h
        rw [← h.1]
        simp [Es.len, evEs_len q2]
      | exc _ _ _ => rw [q2] at h; cases h
      | bad => rw [q2] at h; cases h
    | exc _ _ _ => rw [q] at h; cases h
    | bad => rw [q] at h; cases h
theorem LL.enu (l : LL K ρ H S a) : SrcRel K ρ H (srcE S) (Ite K a) := fun ρ2 H2 m e k => by
  refine ⟨fun i d hd => ?_, fun ho => ?_⟩
  · simp only [srcE, Option.map_eq_some_iff] at hd
    obtain ⟨x, hx, rfl⟩ := hd
    obtain ⟨vs, v, h1, h2, h3⟩ := l.it ρ2 H2 m e k i x hx
    refine ⟨⟨vs, v, h1, h2⟩, fun z H' hz => ?_⟩
    obtain ⟨p, x', rfl, hp, rfl, z1⟩ := hz
    have q1 := z1 vs h1; rw [h2] at q1; cases q1
    exact ⟨ρ2, pair_rep k hp rep_int h3⟩
  · exact l.st ρ2 H2 m e k ho
theorem rng_rel {lo : Int} {nn : Nat} : SrcRel K ρ H (srcN lo nn 1) (Itr lo nn) := fun ρ2 H2 m e k => by
  refine ⟨fun i d hd => ?_, fun _ => Nat.le_refl _⟩
  simp only [srcN] at hd
  split at hd
  · rename_i hi
    simp only [Option.some.injEq] at hd; subst hd
    refine ⟨hi, fun x H' hy => ?_⟩
    obtain ⟨rfl, rfl⟩ := hy
    exact ⟨ρ2, Ext.refl _ _, k, by rw [Int.mul_one]; exact rep_int⟩
  · cases hd
theorem str_rel {x : Str} : SrcRel K ρ H (srcS (x.cps.toList.map fun c => .str ⟨#[c]⟩)) (Its x) := fun ρ2 H2 m e k => by
  refine ⟨fun i d hd => ?_, fun _ => by show x.cps.size ≤ _; simp [srcS]⟩
  simp only [srcS, List.getElem?_map, Option.map_eq_some_iff, Array.getElem?_toList] at hd
  obtain ⟨c, hc, rfl⟩ := hd
  refine ⟨(Array.getElem?_eq_some_iff.mp hc).1, fun z H' hy => ?_⟩
  obtain ⟨rfl, c', hc', rfl⟩ := hy
  rw [hc] at hc'; cases hc'
  exact ⟨ρ2, Ext.refl _ _, k, rep_str⟩
end
abbrev tS (K : PySem.W.Frag) (ca : Nat → Addr) (W : WX) (ev : Sl → Mem → XR Src) : L2.TI := tX K ca W (SrcRel K) ev
section
variable (ec : EC X W T Φ Gv ca n N sc cm)
include ec
variable {a b c i : E} {a' b' c' i' tg' : Expr} {p : Pos}
theorem i_seq (ha : PE X a' (tD X.K ca W (evE Φ Gv a))) : PI X tg' a' (tS X.K ca W (evI Φ Gv (.seq a))) := by
  refine ⟨fun pins s σ H R I ⟨σd, m, ρ, sl, k, h⟩ => ?_⟩
  unfold evI at h
  cases q : evE Φ Gv a σd m with
  | bad => rw [q] at h; exact h.elim
  | exc c fs m1 => exact (pi_list ha).run pins s σ H R I (tX.bindE sl k h fun d m1 v ρ1 H1 z => by rw [q] at z; cases z)
  | ok d m1 =>
    by_cases d1 : ∃ xs, d = .tup xs
    · obtain ⟨xs, rfl⟩ := d1
      refine (pi_tup ha).run pins s σ H R I (tX.bindE sl k h fun d m1 v ρ1 H1 z s1 e1 k1 r1 h => ?_)
      rw [q] at z; cases z
      obtain ⟨S, hS, h⟩ := h.ofS
      simp only [srcD, Option.some.injEq] at hS; subst hS
      obtain ⟨a, vs, rfl, t, l⟩ := LT.of r1
      exact ⟨a, rfl, ⟨vs, t⟩, h _ ρ1 H1 (Ext.refl _ _) k1 l.rel⟩
    · by_cases d2 : ∃ x, d = .str x
      · obtain ⟨x, rfl⟩ := d2
        refine (pi_str ha).run pins s σ H R I (tX.bindE sl k h fun d m1 v ρ1 H1 z s1 e1 k1 r1 h => ?_)
        rw [q] at z; cases z
        obtain ⟨S, hS, h⟩ := h.ofS
        simp only [srcD, Option.some.injEq] at hS; subst hS
        exact ⟨x, r1.str, h _ ρ1 H1 (Ext.refl _ _) k1 str_rel⟩
      · refine (pi_list ha).run pins s σ H R I (tX.bindE sl k h fun d m1 v ρ1 H1 z s1 e1 k1 r1 h => ?_)
        rw [q] at z; cases z
        obtain ⟨S, hS, h⟩ := h.ofS
        obtain ⟨a, vs, rfl, t, l⟩ := LL.of k1 hS r1 (fun xs z => d1 ⟨xs, z⟩) (fun xs z => d2 ⟨xs, z⟩)
        exact ⟨a, rfl, ⟨vs, t⟩, h _ ρ1 H1 (Ext.refl _ _) k1 l.rel⟩
theorem i_rng {as : Es} {es : List Expr} {x : Str} {q : Pos} (hx : x = ("range" : Str)) (hg : glB sc x = true) (ha : PA X es (tDs X.K ca W (evEs Φ Gv as))) (hal : as.len = es.length) (hl : as.len = 1 ∨ as.len = 2) (hs : es.all noStar = true) :
    PI X tg' (.Call (.Name x q) es [] p) (tS X.K ca W (evI Φ Gv (.rng as))) := by
  subst hx
  have hm := ec.gf.blt "range" (by decide +kernel)
  have hG := e_gl ec hg
  rw [hal] at hl
  match es, hl, hs, ha, hal with
  | [e1], _, hs, ha, hal =>
    simp only [List.all_cons, Bool.and_eq_true] at hs
    refine PI.imp (pi_range1 hG hm ha (star_cons hs.1 _ _)) fun σ H R ⟨σd, m, ρ, s, k, h⟩ => ?_
    unfold evI at h
    refine tX.bindE s k h fun ds m1 vs ρ1 H1 hq s1 e1 k1 r1 h => ?_
    have hlen := evEs_len hq
    rw [hal] at hlen
    obtain ⟨S, hS, h⟩ := h.ofS
    unfold rngS at hS
    split at hS
    · split at hS
      · rename_i j hj
        cases hS
        obtain ⟨v, rfl, g1⟩ := Reps.one r1
        exact ⟨j, by rw [g1.int], hj.1, hj.2, h _ ρ1 H1 (Ext.refl _ _) k1 rng_rel⟩
      · cases hS
    · cases hlen
    · cases hS
  | [e1, e2], _, hs, ha, hal =>
    simp only [List.all_cons, Bool.and_eq_true] at hs
    refine PI.imp (pi_range2 hG hm ha (by rw [star_cons hs.1, star_cons hs.2.1]; rfl) (star_cons hs.2.1 _ _)) fun σ H R ⟨σd, m, ρ, s, k, h⟩ => ?_
    unfold evI at h
    refine tX.bindE s k h fun ds m1 vs ρ1 H1 hq s1 e1 k1 r1 h => ?_
    have hlen := evEs_len hq
    rw [hal] at hlen
    obtain ⟨S, hS, h⟩ := h.ofS
    unfold rngS at hS
    split at hS
    · cases hlen
    · split at hS
      · rename_i j hj
        cases hS
        obtain ⟨v, w, rfl, g1, g2⟩ := Reps.two r1
        exact ⟨_, _, by rw [g1.int, g2.int], hj, h _ ρ1 H1 (Ext.refl _ _) k1 rng_rel⟩
      · cases hS
    · cases hS
theorem i_zip {e1 e2 : Expr} {x : Str} {q : Pos} {elts : List Expr} {kk : Nat} {tp : Pos} (hx : x = ("zip" : Str)) (hg : glB sc x = true) (ha : PE X e1 (tD X.K ca W (evE Φ Gv a))) (hb : PE X e2 (tD X.K ca W (evE Φ Gv b))) (h1 : noStar e1 = true) (h2 : noStar e2 = true) :
    PI X (.Tuple elts kk tp) (.Call (.Name x q) [e1, e2] [] p) (tS X.K ca W (evI Φ Gv (.zip a b))) := by
  subst hx
  have hm := ec.gf.blt "zip" (by decide +kernel)
  have hG := e_gl ec hg
  refine PI.imp (RZ.pi_zipA hG hm (pa_cons ha (pa_cons hb pa_nil (star_cons h2 _ _)) (star_cons h1 _ _)) (star_cons h1 _ _) (star_plain (by simp [h2]) _ _)) fun σ H R ⟨σd, m, ρ, s, k, h⟩ => ?_
  unfold evI at h
  refine tX.bind s k h fun d m1 v ρ1 H1 s1 e1 k1 r1 h => ?_
  refine tX.bind s1 k1 h fun e m2 w ρ2 H2 s2 e2 k2 r2 h => ?_
  have r1' := Rep.ext e2 _ _ r1
  split at h
  · obtain ⟨a1, vs, rfl, t1, l1⟩ := LT.of r1'
    obtain ⟨a2, ws, rfl, t2, l2⟩ := LT.of r2
    exact ⟨a1, a2, vs, ws, rfl, .inr ⟨t1, t2, h _ ρ2 H2 (Ext.refl _ _) k2 (l1.zip l2)⟩⟩
  · exact h.elim
  · exact h.elim
  · exact h.elim
  · exact h.elim
  · split at h
    · rename_i z1 z2 z3 z4 S1 S2 q1 q2
      obtain ⟨a1, vs, rfl, t1, l1⟩ := LL.of k2 q1 r1' (fun xs z => by subst z; simp_all) (fun xs z => by subst z; simp_all)
      obtain ⟨a2, ws, rfl, t2, l2⟩ := LL.of k2 q2 r2 (fun xs z => by subst z; simp_all) (fun xs z => by subst z; simp_all)
      exact ⟨a1, a2, vs, ws, rfl, .inl ⟨t1, t2, h _ ρ2 H2 (Ext.refl _ _) k2 (l1.zip l2)⟩⟩
    · exact h.elim
theorem i_enu {e1 : Expr} {x : Str} {q : Pos} {elts : List Expr} {kk : Nat} {tp : Pos} (hx : x = ("enumerate" : Str)) (hg : glB sc x = true) (ha : PE X e1 (tD X.K ca W (evE Φ Gv a))) (h1 : noStar e1 = true) :
    PI X (.Tuple elts kk tp) (.Call (.Name x q) [e1] [] p) (tS X.K ca W (evI Φ Gv (.enu a))) := by
  subst hx
  have hm := ec.gf.blt "enumerate" (by decide +kernel)
  have hG := e_gl ec hg
  refine PI.imp (pi_enum hG hm (pa_cons ha pa_nil (star_cons h1 _ _)) (star_cons h1 _ _)) fun σ H R ⟨σd, m, ρ, s, k, h⟩ => ?_
  unfold evI at h
  refine tX.bind s k h fun d m1 v ρ1 H1 s1 e1 k1 r1 h => ?_
  split at h
  · exact h.elim
  · exact h.elim
  · split at h
    · rename_i S1 q1
      obtain ⟨a1, vs, rfl, t1, l1⟩ := LL.of k1 q1 r1 (fun xs z => by subst z; simp_all) (fun xs z => by subst z; simp_all)
      exact ⟨a1, vs, rfl, t1, h _ ρ1 H1 (Ext.refl _ _) k1 l1.enu⟩
    · exact h.elim
end
end G

set_option Elab.async false
set_option linter.all false
set_option maxRecDepth 100000
set_option maxHeartbeats 4000000
/-! G15: targets made of names; list comprehensions. -/
namespace G
open PySem PySem.Spec L2
variable {X : Cx} {W : WX} {T : Tab} {Φ : Fns} {Gv : List D} {ca : Nat → Addr} {n : Nat} {N : List Str} {sc : Scope} {cm : Bool}
theorem asg_cons {e : Expr} (h : noStar e = true) (es : List Expr) (env : Env) : assignEach (e :: es) env = (false, assign e env) :: assignEach es env := by
  cases e <;> first | rfl | (simp [noStar] at h)
theorem wipe_len (σ : St) : ∀ vs : List Nat, (wipe σ vs).length = σ.length := wipe_length σ
theorem wipe_get {σ : L2.St} {j : Nat} : ∀ {vs : List Nat}, j < σ.length → (wipe σ vs)[j]? = if j ∈ vs then some none else σ[j]?
  | [], h => by simp [wipe]
  | v :: vs, h => by
    unfold wipe
    by_cases hv : v = j
    · subst hv
      rw [List.getElem?_set_self (by rw [wipe_length]; exact h)]
      simp
    · rw [List.getElem?_set_ne hv, wipe_get h]
      simp [List.mem_cons, Ne.symm hv]
theorem wipe_set {σ : L2.St} {i : Nat} {x : Option V} {vs : List Nat} (h : i ∈ vs) : wipe (σ.set i x) vs = wipe σ vs := by
  apply List.ext_getElem?
  intro j
  by_cases hj : j < σ.length
  · rw [wipe_get (by simpa using hj), wipe_get hj]
    by_cases hm : j ∈ vs
    · rw [if_pos hm, if_pos hm]
    · rw [if_neg hm, if_neg hm, List.getElem?_set_ne (fun z => hm (by rw [← z]; exact h))]
  · rw [List.getElem?_eq_none (by rw [wipe_length]; simpa using hj), List.getElem?_eq_none (by rw [wipe_length]; simpa using hj)]
def gX (K : PySem.W.Frag) (tg : Tg) : TG := fun v σ H Q => ∃ ρ m d σd σd', SlOk K ρ H σd σ ∧ MemOk K ρ H m ∧ Rep K ρ H d v ∧ asgG tg d σd = some σd' ∧
  ∀ σ', SlOk K ρ H σd' σ' → (∀ vs, (∀ i ∈ tg.ids, i ∈ vs) → wipe σ' vs = wipe σ vs) → Q σ' H
def gXs (K : PySem.W.Frag) (tg : Tgs) : TGs := fun ws σ H Q => ∃ ρ m ds σd σd', SlOk K ρ H σd σ ∧ MemOk K ρ H m ∧ Reps K ρ H ds ws ∧ asgGs tg ds σd = some σd' ∧
  ∀ σ', SlOk K ρ H σd' σ' → (∀ vs, (∀ i ∈ tg.ids, i ∈ vs) → wipe σ' vs = wipe σ vs) → Q σ' H
theorem PG.imp {e : Expr} {t t' : TG} (h : PG X e t) (i : ∀ v σ H Q, t' v σ H Q → t v σ H Q) : PG X e t' := ⟨fun pins s σ H v u Q I r q => h.run pins s σ H v u Q I r (i _ _ _ _ q)⟩
theorem PGs.imp {e : List Expr} {t t' : TGs} (h : PGs X e t) (i : ∀ v σ H Q, t' v σ H Q → t v σ H Q) : PGs X e t' := ⟨fun pins s σ H v u Q I r q => h.run pins s σ H v u Q I r (i _ _ _ _ q)⟩
theorem cTgs_len : ∀ {ts : Tgs} {es : List Expr}, cTgs N sc ts es = true → (∀ env, (assignEach es env).findIdx? (·.1) = none) ∧ (∀ env, (assignEach es env).length = es.length) ∧ es.all noStar = true
  | .nil, [], _ => ⟨fun _ => rfl, fun _ => rfl, rfl⟩
  | .nil, _ :: _, h => by simp [cTgs] at h
  | .cons _ _, [], h => by simp [cTgs] at h
  | .cons t r, e :: es, h => by
    simp only [cTgs, Bool.and_eq_true] at h
    have hn : noStar e = true := by
      cases e <;> first | rfl | (cases t <;> simp [cTg] at h)
    obtain ⟨z1, z2, z3⟩ := cTgs_len h.2
    refine ⟨fun env => ?_, fun env => ?_, by simp [hn, z3]⟩
    · rw [asg_cons hn, List.findIdx?_cons, z1 env]; rfl
    · rw [asg_cons hn, List.length_cons, z2 env, List.length_cons]
theorem asgGs_len : ∀ (ts : Tgs) (es : List Expr) (xs : List D) (σ σ' : Sl), cTgs N sc ts es = true → asgGs ts xs σ = some σ' → xs.length = es.length
  | .nil, [], [], _, _, _, _ => rfl
  | .nil, [], _ :: _, _, _, _, h => by simp [asgGs] at h
  | .nil, _ :: _, _, _, _, h, _ => by simp [cTgs] at h
  | .cons _ _, [], _, _, _, h, _ => by simp [cTgs] at h
  | .cons _ _, _ :: _, [], _, _, _, h => by simp [asgGs] at h
  | .cons t r, e :: es, x :: xs, σ, σ', h, ha => by
    simp only [cTgs, Bool.and_eq_true] at h
    simp only [asgGs] at ha
    split at ha
    · rename_i σ1 _
      rw [List.length_cons, List.length_cons, asgGs_len r es xs σ1 σ' h.2 ha]
    · cases ha
section
variable (nd : X.N.Nodup) (hN : X.N = N) (hst : ∀ x, locB sc x = true → L2.Loc X.env.scope x ∧ (X.fn x = true ∨ X.env.scope.names.lookup x = some .local)) (calm : X.calm = true)
include nd hN hst calm
mutual
theorem g_tg : ∀ (tg : Tg) (e : Expr), cTg N sc tg e = true → PG X e (gX X.K tg)
  | .nm i, e, h => by
    cases e with
    | Name x p =>
      simp only [cTg, Bool.and_eq_true] at h
      have h1 : X.N[i]? = some x := by rw [hN]; exact isN_some h.1
      obtain ⟨h2, h3⟩ := hst x h.2
      refine PG.imp (pg_name nd h1 h2 h3) fun v σ H Q ⟨ρ, m, d, σd, σd', s, k, r, ha, q⟩ => ?_
      simp only [asgG, Option.some.injEq] at ha
      subst ha
      exact q _ (s.set i r) fun vs hv => wipe_set (hv i (by simp [Tg.ids]))
    | _ => simp [cTg] at h
  | .tp ts, e, h => by
    cases e with
    | Tuple es k p =>
      simp only [cTg] at h
      obtain ⟨z1, z2, z3⟩ := cTgs_len h
      refine PG.imp (pg_tup (n := es.length) calm (g_tgs ts es h) (z2 _) (z1 _)) fun v σ H Q ⟨ρ, m, d, σd, σd', s, k, r, ha, q⟩ => ?_
      cases d with
      | tup xs =>
        simp only [asgG] at ha
        obtain ⟨a, vs, rfl, t, l, r⟩ := r.tup
        refine ⟨a, vs, rfl, t, ?_, ρ, m, xs, σd, σd', s, k, r, ha, fun σ' s' hw => q σ' s' fun vs hv => hw vs fun i hi => hv i (by simpa [Tg.ids] using hi)⟩
        rw [← r.length]
        exact asgGs_len ts es xs σd σd' h ha
      | _ => simp [asgG] at ha
    | _ => simp [cTg] at h
theorem g_tgs : ∀ (ts : Tgs) (es : List Expr), cTgs N sc ts es = true → PGs X es (gXs X.K ts)
  | .nil, [], _ => by
    refine PGs.imp pgs_nil fun vs σ H Q ⟨ρ, m, d, σd, σd', s, k, r, ha, q⟩ => ?_
    cases d with
    | nil =>
      simp only [asgGs, Option.some.injEq] at ha
      subst ha
      simp only [Reps] at r
      exact ⟨r, q σ s fun _ _ => rfl⟩
    | cons _ _ => simp [asgGs] at ha
  | .nil, _ :: _, h => by simp [cTgs] at h
  | .cons _ _, [], h => by simp [cTgs] at h
  | .cons t r, e :: es, h => by
    have hh := h
    simp only [cTgs, Bool.and_eq_true] at h
    obtain ⟨z1, z2, z3⟩ := cTgs_len hh
    simp only [List.all_cons, Bool.and_eq_true] at z3
    refine PGs.imp (pgs_cons (g_tg t e h.1) (g_tgs r es h.2) (by rw [asg_cons z3.1]; rfl)) fun vs σ H Q ⟨ρ, m, d, σd, σd', s, k, r', ha, q⟩ => ?_
    cases d with
    | nil => simp [asgGs] at ha
    | cons x xs =>
      simp only [Reps] at r'
      obtain ⟨v, w, rfl, a, b⟩ := r'
      simp only [asgGs] at ha
      cases q1 : asgG t x σd with
      | none => rw [q1] at ha; cases ha
      | some σ1 =>
        rw [q1] at ha
        refine ⟨v, w, rfl, ρ, m, x, σd, σ1, s, k, a, q1, fun σ2 s2 hw => ⟨ρ, m, xs, σ1, σd', s2, k, b, ha, fun σ3 s3 hw3 => q σ3 s3 fun vs hv => ?_⟩⟩
        rw [hw3 vs fun i hi => hv i (by simp [Tgs.ids, hi]), hw vs fun i hi => hv i (by simp [Tgs.ids, hi])]
end
end

/-! ### comprehensions -/
/-- how the turns end: the list at D has been filled; (ρ₁, H₁) is where they began -/
def finL (K : PySem.W.Frag) (ρ₁ : Rr) (H₁ : Hp) (D : Addr) (Q : Hp → Prop) : XR (List G.D) → Prop
  | .ok xs m' => ∀ vs ρ' H', Ex2 ρ₁ ρ' H₁ H' → ρ'.z = D :: ρ₁.z → MemOk K ρ' H' m' → H' D = some (.lst vs) → vs.length ≤ sizeLine → Reps K ρ' H' xs vs → Q H'
  | _ => False
theorem wipe2 (σ : L2.St) (own : List Nat) : wipe (wipe σ own) own = wipe σ own := by
  apply List.ext_getElem?
  intro j
  by_cases hj : j < σ.length
  · rw [wipe_get (by rw [wipe_length]; exact hj), wipe_get hj]
    split <;> simp_all
  · rw [List.getElem?_eq_none (by rw [wipe_length, wipe_length]; simpa using hj), List.getElem?_eq_none (by rw [wipe_length]; simpa using hj)]
/-- the list at D is hidden, then changed -/
theorem ex2_hide {ρ : Rr} {H : Hp} {D : Addr} (hD : H D = none) (o : HO) : Ex2 ρ (ρ.hide D) H (upd H D o) where
  pre := ⟨[], by simp [Rr.hide]⟩
  keep := fun a u h _ => by rw [upd_ne (ne_of_none h hD)]; exact h
  new := fun a m => by
    rcases m with m | m
    · exact .inl (.inl m)
    · rcases List.mem_cons.mp (show a ∈ D :: ρ.z from m) with z | z
      · subst z; exact .inr hD
      · exact .inl (.inr z)
  newC := fun a m => .inl m
  live := fun a h q => by rw [upd_ne (fun z => by subst z; exact q hD)]; exact q
theorem MemOk.hide {K : PySem.W.Frag} {ρ : Rr} {H : Hp} {m : Mem} (k : MemOk K ρ H m) {D : Addr} (hD : H D = none) (o : HO) : MemOk K (ρ.hide D) (upd H D o) m := by
  have e := ex2_hide (ρ := ρ) hD o
  refine ⟨k.len, k.nd, fun n u a e1 e2 => ?_, fun a ha => ?_⟩
  · exact (k.cell n u a e1 e2).world (fun _ _ => e.get) (fun a o h n => ⟨e.kept h n, e.out h n⟩) (upd_ne (k.ne hD e2))
  · rcases List.mem_cons.mp (show a ∈ D :: ρ.z from ha) with z | z
    · rw [z]; exact ⟨by rw [upd_same]; exact (fun z => nomatch z), fun z => k.liveC _ z hD⟩
    · exact ⟨by rw [upd_ne (fun w => by subst w; exact (k.hid _ z).1 hD)]; exact (k.hid a z).1, (k.hid a z).2⟩
theorem stepD {ρ : Rr} {H : Hp} {D : Addr} (h : D ∈ ρ) (o : HO) : ∀ a u, H a = some u → a ∉ ρ → upd H D o a = some u ∧ a ∉ ρ := fun a u q n => by
  rw [upd_ne (fun z => by subst z; exact n h)]
  exact ⟨q, n⟩
theorem MemOk.stepD {K : PySem.W.Frag} {ρ : Rr} {H : Hp} {m : Mem} (k : MemOk K ρ H m) {D : Addr} (h : D ∈ ρ.z) (o : HO) : MemOk K ρ (upd H D o) m := by
  refine ⟨k.len, k.nd, fun n u a e1 e2 => ?_, fun a ha => ⟨?_, (k.hid a ha).2⟩⟩
  · exact (k.cell n u a e1 e2).world (fun _ _ z => z) (G.stepD (.inr h) o) (upd_ne fun z => by subst z; exact (k.hid _ h).2 (List.mem_of_getElem? e2))
  · by_cases z : a = D
    · subst z; rw [upd_same]; exact fun z => nomatch z
    · rw [upd_ne z]; exact (k.hid a ha).1
theorem lc_turns {K : PySem.W.Frag} {ρ₁ : Rr} {H₁ : Hp} {D : Addr} {Q : VK} {S : Src} {J : L2.It} {tg : Tg} {ct : Sl → Mem → XR Bool} {ce : Sl → Mem → XR G.D} {σd : Sl} {σ : L2.St} {own : List Nat} {m : Mem}
    (hJ : SrcRel K ρ₁ H₁ S J) (hD : H₁ D = none) (s : SlOk K ρ₁ H₁ (wipeD σd own) (wipe σ own)) (k₁ : MemOk K ρ₁ H₁ m) (hids : ∀ i ∈ tg.ids, i ∈ own)
    (fin : finL K ρ₁ H₁ D (fun H' => Q (.ref D) H') (lcLoop S (asgG tg) ct ce (wipeD σd own) S.len 0 [] m)) :
    ∃ W : Nat → Nat → Hp → Prop, (∃ j, W 0 j (upd H₁ D (.lst []))) ∧ ∀ i j H, W i j H →
      (J.stop i H ∧ Q (.ref D) H) ∨ (J.go i H ∧ ∃ Nx : Hp → Prop, (∀ H', Nx H' → ∃ j', j' < j ∧ W (i + 1) j' H') ∧ ∀ x H', J.yld i H x H' → gX K tg x (wipe σ own) H' fun σ2 H2 => wipe σ2 own = wipe σ own ∧ tX K ca (fun _ _ _ _ => False) RB ct σ2 H2 fun b H3 =>
        if b = true then tX K ca (fun _ _ _ _ => False) (Rep K) ce σ2 H3 fun y H4 => ∃ acc, H4 D = some (.lst acc) ∧ acc.length < sizeLine ∧ Nx (upd H4 D (.lst (acc ++ [y]))) else Nx H3) := by
  let P : Nat → Nat → Hp → Prop := fun i j H => ∃ ρi mi acc vs, Ex2 ρ₁ ρi H₁ H ∧ ρi.z = D :: ρ₁.z ∧ MemOk K ρi H mi ∧ H D = some (.lst vs) ∧ vs.length ≤ sizeLine ∧ Reps K ρi H acc vs ∧ i + j = S.len ∧
    finL K ρ₁ H₁ D (fun H' => Q (.ref D) H') (lcLoop S (asgG tg) ct ce (wipeD σd own) j i acc mi)
  refine ⟨P, ⟨S.len, ρ₁.hide D, m, [], [], ex2_hide hD _, rfl, k₁.hide hD _, upd_same, by simp, Reps.nil, by omega, fin⟩, ?_⟩
  rintro i j H ⟨ρi, mi, acc, vs, e, hz0, k, hl, hz, r, hij, hf⟩
  obtain ⟨hgo, hst⟩ := hJ ρi H mi e k
  have hDz : D ∈ ρi.z := by rw [hz0]; exact List.mem_cons_self
  have hDc : D ∉ ρi.c := (k.hid D hDz).2
  cases j with
  | zero =>
    unfold lcLoop at hf
    split at hf
    · rename_i ho
      have : i = S.len := by omega
      subst this
      exact .inl ⟨hst ho, hf vs ρi H e hz0 k hl hz r⟩
    · exact hf.elim
  | succ j =>
    unfold lcLoop at hf
    split at hf
    · exact hf.elim
    · rename_i d hd
      obtain ⟨h1, h2⟩ := hgo i d hd
      refine .inr ⟨h1, P (i + 1) j, fun H' q => ⟨j, by omega, q⟩, fun x H' hy => ?_⟩
      obtain ⟨ρ', e', k', r'⟩ := h2 x H' hy
      split at hf
      · exact hf.elim
      · rename_i σ' ha
        have eA := e.trans e'
        refine ⟨ρ', mi, d, wipeD σd own, σ', s.ex2 eA, k', r', ha, fun σ2 s2 hw => ⟨?_, ?_⟩⟩
        · rw [hw own hids, wipe2]
        have hl' := e'.keep _ _ hl hDc
        have rr' := Reps.ext e' _ _ r
        refine ⟨σ', mi, ρ', s2, k', ?_⟩
        cases q1 : ct σ' mi with
        | ok bb m1 =>
          rw [q1] at hf
          intro b ρ3 H3 e3 k3 hb
          cases hb
          have hDc' : D ∉ ρ'.c := (k'.hid D (by rw [e'.z]; exact hDz)).2
          cases bb with
          | false =>
            refine iteF ⟨ρ3, m1, acc, vs, eA.trans e3, by rw [e3.z, e'.z, hz0], k3, e3.keep _ _ hl' hDc', hz, Reps.ext e3 _ _ rr', by omega, hf⟩
          | true =>
            refine iteT ⟨σ', m1, ρ3, s2.ext e3, k3, ?_⟩
            dsimp only at hf
            cases q2 : ce σ' m1 with
            | ok y m2 =>
              rw [q2] at hf
              intro v ρ4 H4 e4 k4 r4
              dsimp only at hf
              have eB := e3.trans e4
              have hl4 := eB.keep _ _ hl' hDc'
              have hz4 : ρ4.z = D :: ρ₁.z := by rw [eB.z, e'.z, hz0]
              have hD4 : D ∈ ρ4.z := by rw [hz4]; exact List.mem_cons_self
              split at hf
              · rename_i hlt
                have hlt' : vs.length < sizeLine := by rw [← r.length, ← lim_eq]; exact hlt
                refine ⟨vs, hl4, hlt', ρ4, m2, acc ++ [y], vs ++ [v], ?_, hz4, k4.stepD hD4 _, upd_same, by rw [List.length_append]; exact hlt', ?_, by omega, hf⟩
                · have eC := eA.trans eB
                  refine ⟨eC.pre, fun a o h1 h2 => ?_, eC.new, eC.newC, fun a h1 h2 => ?_⟩
                  · rw [upd_ne (ne_of_none h1 hD)]; exact eC.keep a o h1 h2
                  · by_cases z : a = D
                    · subst z; exact absurd hD h2
                    · rw [upd_ne z]; exact eC.live a h1 h2
                · exact Reps.world (fun _ _ z => z) (G.stepD (.inr hD4) _) _ _ (Reps.append (Reps.ext eB _ _ rr') (Reps.cons r4 Reps.nil))
              · exact hf.elim
            | exc c fs m2 => rw [q2] at hf; exact hf.elim
            | bad => rw [q2] at hf; exact hf.elim
        | exc c fs m1 => rw [q1] at hf; exact hf.elim
        | bad => rw [q1] at hf; exact hf.elim
/-- the end: frozen, or a cell -/
theorem finL_of {K : PySem.W.Frag} {W : WX} {ρ₁ : Rr} {H₁ : Hp} {D : Addr} {Q : VK} {mu : Bool} {r : XR (List G.D)} {σ : L2.St} {m : Mem} (hD : H₁ D = none) (k₁ : MemOk K ρ₁ H₁ m)
    (h : oX K ca W (Rep K) ρ₁ σ H₁ (r.bind fun xs m2 => ofP (mkL mu xs m2)) Q) (hx : ∀ c fs m, r ≠ .exc c fs m) : finL K ρ₁ H₁ D (fun H' => Q (.ref D) H') r := by
  cases r with
  | bad => exact h.elim
  | exc c fs m => exact absurd rfl (hx c fs m)
  | ok xs m' =>
    intro vs ρ' H' e hz0 k hl hz r
    have hDz : D ∈ ρ'.z := by rw [hz0]; exact List.mem_cons_self
    have hDc : D ∉ ρ'.c := (k.hid D hDz).2
    have hDz1 : D ∉ ρ₁.z := fun z => (k₁.hid D z).1 hD
    obtain ⟨t, et⟩ := e.pre
    cases mu with
    | false =>
      have w : ∀ a o, H' a = some o → a ∉ ρ' → H' a = some o ∧ a ∉ (⟨ρ'.c, ρ₁.z⟩ : Rr) := fun a o q n => ⟨q, fun z => n (z.imp id fun z => by rw [hz0]; exact List.mem_cons_of_mem _ z)⟩
      have wc0 : ∀ (n : Nat) (a : Addr), ρ'.c[n]? = some a → (⟨ρ'.c, ρ₁.z⟩ : Rr).c[n]? = some a := fun _ _ z => z
      refine h (.ref D) ⟨ρ'.c, ρ₁.z⟩ H' ⟨⟨t, by rw [et]⟩, e.keep, e.newC, e.live⟩ ⟨k.len, k.nd, fun n u a e1 e2 => Cell.world wc0 w rfl (k.cell n u a e1 e2), fun a ha => k.hid a (by rw [hz0]; exact List.mem_cons_of_mem _ ha)⟩ ?_
      show Rep K _ _ (.lst xs) _
      simp only [Rep]
      exact ⟨D, vs, rfl, hl, fun z => z.elim hDc hDz1, hz, Reps.world wc0 w _ _ r⟩
    | true =>
      have w : ∀ a o, H' a = some o → a ∉ ρ' → H' a = some o ∧ a ∉ (⟨ρ'.c ++ [D], ρ₁.z⟩ : Rr) := fun a o q n => ⟨q, fun z => by
        rcases z with z | z
        · rcases List.mem_append.mp z with z | z
          · exact n (.inl z)
          · rw [List.mem_singleton] at z; subst z; exact n (.inr hDz)
        · exact n (.inr (by rw [hz0]; exact List.mem_cons_of_mem _ z))⟩
      have wc : ∀ (nn : Nat) (a : Addr), ρ'.c[nn]? = some a → (ρ'.c ++ [D])[nn]? = some a := fun nn a q => by
        rw [List.getElem?_append_left (List.getElem?_eq_some_iff.mp q).1]; exact q
      refine h (.ref D) ⟨ρ'.c ++ [D], ρ₁.z⟩ H' ⟨⟨t ++ [D], by rw [et, List.append_assoc]⟩, e.keep, fun a z => ?_, e.live⟩ ?_ ?_
      · rcases List.mem_append.mp (show a ∈ ρ'.c ++ [D] from z) with z | z
        · exact e.newC a z
        · rw [List.mem_singleton] at z; subst z; exact .inr hD
      · have := push_cell (ρ := ⟨ρ'.c, ρ₁.z⟩) (H' := H') (m := m') (p := D) (xs := xs) (vs := vs) k.len (fun n u a e1 e2 => (k.cell n u a e1 e2).world wc w rfl) hl hz (Reps.world wc w _ _ r)
        refine ⟨by simp [k.len], push_nd k.nd hDc, this, fun a ha => ⟨(k.hid a (by rw [hz0]; exact List.mem_cons_of_mem _ ha)).1, fun z => ?_⟩⟩
        rcases List.mem_append.mp (show a ∈ ρ'.c ++ [D] from z) with z | z
        · exact (k.hid a (by rw [hz0]; exact List.mem_cons_of_mem _ ha)).2 z
        · rw [List.mem_singleton] at z; subst z; exact hDz1 ha
      · show Rep K _ _ (.ref m'.length) _
        simp only [Rep]
        exact ⟨D, rfl, by show (ρ'.c ++ [D])[m'.length]? = some D; rw [← k.len]; simp⟩
theorem lcLoop_exc {S : Src} {g : G.D → Sl → Option Sl} {ct : Sl → Mem → XR Bool} {ce : Sl → Mem → XR G.D} {σ : Sl} : ∀ (j i : Nat) (acc : List G.D) (m : Mem) (c : Nat) (fs : List G.D) (m' : Mem), lcLoop S g ct ce σ j i acc m ≠ .exc c fs m'
  | 0, i, acc, m, c, fs, m' => by
    unfold lcLoop
    split <;> exact fun z => nomatch z
  | j + 1, i, acc, m, c, fs, m' => by
    unfold lcLoop
    split
    · exact fun z => nomatch z
    · split
      · exact fun z => nomatch z
      · split
        · split
          · split
            · exact lcLoop_exc j _ _ _ c fs m'
            · exact fun z => nomatch z
          · exact fun z => nomatch z
        · exact lcLoop_exc j _ _ _ c fs m'
        · exact fun z => nomatch z
end G

set_option Elab.async false
set_option linter.all false
set_option maxRecDepth 100000
set_option maxHeartbeats 4000000
/-! G16: every expression. -/
namespace G
open PySem PySem.Spec L2
variable {X : Cx} {W : WX} {T : Tab} {Φ : Fns} {Gv : List D} {ca : Nat → Addr} {n : Nat} {N : List Str} {sc : Scope} {cm : Bool}
theorem set_free {e : Expr} (h : noSet e = true) (env : Env) (x : Value) : foldedSetIterable e env x = pure x := by
  cases e <;> first | rfl | (simp [noSet] at h)
theorem own_snd (N : List Str) (own : List Nat) : (ownP N own).map (·.2) = own := by
  unfold ownP
  induction own with
  | nil => rfl
  | cons a l ih => simp only [List.map_cons, ih]
theorem lookup_map {g : Str → NameKind → NameKind} {x : Str} : ∀ l : List (Str × NameKind), (l.map fun (p : Str × NameKind) => (p.1, g p.1 p.2)).lookup x = (l.lookup x).map (g x)
  | [] => rfl
  | (a, k) :: l => by
    rw [List.map_cons, List.lookup_cons, List.lookup_cons]
    cases h : x == a with
    | true => have := eq_of_beq h; subst this; rfl
    | false => exact lookup_map l
theorem relS_look (scope sc : Scope) (x : Str) : (relS scope sc).names.lookup x = (scope.names.lookup x).map fun k => if (k == .free && sc.kind == .function && sc.names.lookup x == some .cell) then .cell else k := by
  have h : (relS scope sc).names = scope.names.map fun (p : Str × NameKind) => (p.1, (fun (x : Str) (k : NameKind) => if (k == .free && sc.kind == .function && sc.names.lookup x == some .cell) then NameKind.cell else k) p.1 p.2) := by
    unfold relS
    apply List.map_congr_left
    intro p _
    obtain ⟨a, k⟩ := p
    show (if _ then _ else _) = _
    split <;> simp_all
  rw [h]
  exact lookup_map (g := fun (x : Str) (k : NameKind) => if (k == .free && sc.kind == .function && sc.names.lookup x == some .cell) then NameKind.cell else k) scope.names
theorem blk_ec (ec : EC X W T Φ Gv ca n N sc cm) (s : Shared) (H : Hp) (scope : Scope) (C : Addr) (cl : List (Str × Addr)) (fp : List Addr) :
    EC (X.blk s H scope (compEnvC scope cl C X.env) fp) (fun _ _ _ _ => False) T Φ Gv ca n N (relS scope sc) cm where
  gf := ec.gf
  hN := ec.hN
  hsc := by rw [← ec.hsc]; rfl
  nd := ec.nd
  calm := ec.calm
  takes := takes0
theorem blk_st (scope : Scope) (s : Shared) (H : Hp) (C : Addr) (cl : List (Str × Addr)) (fp : List Addr) (x : Str) (h : locB scope x = true) :
    L2.Loc (X.blk s H scope (compEnvC scope cl C X.env) fp).env.scope x ∧ ((X.blk s H scope (compEnvC scope cl C X.env) fp).fn x = true ∨ (X.blk s H scope (compEnvC scope cl C X.env) fp).env.scope.names.lookup x = some .local) := by
  have e : (X.blk s H scope (compEnvC scope cl C X.env) fp).env.scope.names.lookup x = (relS scope X.env.scope).names.lookup x := rfl
  unfold L2.Loc
  rw [e, relS_look]
  unfold locB at h
  split at h
  · rename_i q
    rw [q]
    exact ⟨.inl rfl, .inr rfl⟩
  · rename_i q
    rw [q]
    refine ⟨.inr rfl, .inl ?_⟩
    show (scope.names.lookup x == some .cell) = true
    rw [q]; rfl
  · cases h
section
variable (ec : EC X W T Φ Gv ca n N sc cm)
include ec
omit ec in
theorem lc_imp {X : Cx} {W : WX} {mu : Bool} {own : List Nat} {tg : Tg} {it : It} {cs : Es} {elt : E} (hids : tg.ids.all (fun i => own.contains i) = true) (σ : L2.St) (H : Hp) (Q : VK) :
    tD X.K ca W (evE Φ Gv (.lc mu own tg it cs elt)) σ H Q → tLc (tS X.K ca W (evI Φ Gv it)) (gX X.K tg) (tBl X.K ca (fun _ _ _ _ => False) (evC Φ Gv cs)) (tD X.K ca (fun _ _ _ _ => False) (evE Φ Gv elt)) own σ H Q := fun ⟨σd, m, ρ, s, k, h⟩ => by
  have hids' : ∀ i ∈ tg.ids, i ∈ own := fun i hi => by
    have := List.all_eq_true.mp hids i hi
    simpa using this
  unfold evE at h
  refine tX.bind s k h fun S m1 J ρ1 H1 s1 e1 k1 hJ h D hD => ?_
  exact lc_turns hJ hD (s1.wipe own) k1 hids' (finL_of hD k1 h fun c fs m => lcLoop_exc _ _ _ _ c fs m)
theorem s_lc {mu : Bool} {own : List Nat} {tg : Tg} {it : It} {cs : Es} {elt : E} {elt' tg' it' : Expr} {ifs' : List Expr} {scope : Scope} {p : Pos} (hc : cm = true) (hids : tg.ids.all (fun i => own.contains i) = true) (hset : noSet it' = true) (hblk : blkC N sc scope (ownP N own) = true)
    (hi : PI X tg' it' (tS X.K ca W (evI Φ Gv it))) (htg : cTg N scope tg tg' = true)
    (ht : ∀ (s : Shared) (H : Hp) (C : Addr) (cl : List (Str × Addr)) (fp : List Addr), PTs (X.blk s H scope (compEnvC scope cl C X.env) fp) ifs' (tBl X.K ca (fun _ _ _ _ => False) (evC Φ Gv cs)))
    (he : ∀ (s : Shared) (H : Hp) (C : Addr) (cl : List (Str × Addr)) (fp : List Addr), PE (X.blk s H scope (compEnvC scope cl C X.env) fp) elt' (tD X.K ca (fun _ _ _ _ => False) (evE Φ Gv elt))) :
    PE X (.ListComp elt' [⟨tg', it', ifs', 0⟩] scope p) (tD X.K ca W (evE Φ Gv (.lc mu own tg it cs elt))) := by
  have hcalm := (ec.calm hc).1
  have ndX : X.N.Nodup := by rw [ec.hN]; exact ec.nd
  have ok : BlkOk X.N X.env.scope scope (ownP N own) := by rw [ec.hN, ec.hsc]; exact blkOk_by hblk
  have hg : ∀ (s : Shared) (H : Hp) (C : Addr) (cl : List (Str × Addr)) (fp : List Addr), PG (X.blk s H scope (compEnvC scope cl C X.env) fp) tg' (gX X.K tg) := fun s H C cl fp =>
    g_tg (X := X.blk s H scope (compEnvC scope cl C X.env) fp) (N := N) (sc := scope) ndX ec.hN (blk_st scope s H C cl fp) hcalm tg tg' htg
  have fin := pe_lc (pos := p) hcalm ndX hi ok hg ht he (fun x => set_free hset X.env x)
  rw [own_snd] at fin
  exact PE.imp fin (lc_imp hids)
end
end G

set_option Elab.async false
set_option linter.all false
set_option maxRecDepth 100000
set_option maxHeartbeats 8000000
/-! G17: every expression, by induction. -/
namespace G
open PySem PySem.Spec L2
variable {T : Tab} {Φ : Fns} {Gv : List D} {ca : Nat → Addr} {n : Nat} {N : List Str} {cm : Bool}
theorem PW.bool {X : Cx} {op : BoolOp} {vs : List Expr} {p : Pos} {t : TT} (h : PT X (.BoolOp op vs p) t) : PW X (.BoolOp op vs p) t :=
  ⟨fun wh pins s σ H Q I q => h.run pins s σ H Q I q⟩
theorem PTs.imp {X : Cx} {e : List Expr} {t t' : TT} (h : PTs X e t) (i : ∀ σ H Q, t' σ H Q → t σ H Q) : PTs X e t' := ⟨fun pins s σ H Q I q => h.run pins s σ H Q I (i _ _ _ q)⟩
theorem dflt2 {X : Cx} {W : WX} {sc : Scope} (ec : EC X W T Φ Gv ca n N sc cm) {e : E} {e' : Expr} {c : Prop} (h : plainT e' = true) (P : PE X e' (tD X.K ca W (evE Φ Gv e))) :
    PE X e' (tD X.K ca W (evE Φ Gv e)) ∧ (c → PT X e' (tBl X.K ca W (evT Φ Gv e))) := ⟨P, fun _ => t_dflt ec P h⟩
mutual
theorem snd_E : ∀ (e : E) (X : Cx) (W : WX) (sc : Scope) (e' : Expr), EC X W T Φ Gv ca n N sc cm → cE T N cm sc e e' = true → PE X e' (tD X.K ca W (evE Φ Gv e)) ∧ (tOk e = true → PT X e' (tBl X.K ca W (evT Φ Gv e)))
  | .var i, X, W, sc, e', ec, h => by
    unfold cE at h
    split at h
    · simp only [Bool.and_eq_true] at h
      exact dflt2 ec rfl (s_var ec h.1.1 h.1.2 h.2)
    · cases h
  | .cst c, X, W, sc, e', ec, h => by
    unfold cE at h
    split at h
    · simp only [Bool.and_eq_true, decide_eq_true_eq] at h
      exact dflt2 ec rfl (s_cst ec h.1 h.2)
    · cases h
  | .glo k, X, W, sc, e', ec, h => by
    unfold cE at h
    split at h
    · simp only [Bool.and_eq_true] at h
      exact dflt2 ec rfl (s_glo ec h.1.1 h.1.2 h.2)
    · cases h
  | .bin mu op a b, X, W, sc, e', ec, h => by
    unfold cE at h
    split at h
    · simp only [Bool.and_eq_true, decide_eq_true_eq] at h
      obtain ⟨⟨ho, ha⟩, hb⟩ := h
      subst ho
      exact dflt2 ec rfl (s_bin (mu := mu) ec (snd_E a X W sc _ ec ha).1 (snd_E b X W sc _ ec hb).1)
    · cases h
  | .neg a, X, W, sc, e', ec, h => by
    unfold cE at h
    split at h
    · exact dflt2 ec rfl (s_neg ec (snd_E a X W sc _ ec h).1)
    · cases h
  | .not a, X, W, sc, e', ec, h => by
    unfold cE at h
    split at h
    · have P := snd_E a X W sc _ ec h
      exact ⟨s_not ec P.1, fun z => t_not ec (P.2 (by simpa [tOk] using z))⟩
    · cases h
  | .cmp op a b, X, W, sc, e', ec, h => by
    unfold cE at h
    split at h
    · simp only [Bool.and_eq_true, decide_eq_true_eq, Bool.not_eq_true'] at h
      obtain ⟨⟨⟨⟨hc, ho⟩, hm⟩, ha⟩, hb⟩ := h
      subst ho
      have P1 := (snd_E a X W sc _ ec ha).1
      have P2 := (snd_E b X W sc _ ec hb).1
      exact ⟨s_cmp ec hm hc P1 P2, fun _ => t_cmp ec hm hc P1 P2⟩
    · cases h
  | .chn o1 o2 a b c, X, W, sc, e', ec, h => by
    unfold cE at h
    split at h
    · simp only [Bool.and_eq_true, decide_eq_true_eq, Bool.not_eq_true'] at h
      obtain ⟨⟨⟨⟨⟨⟨⟨hc, h1⟩, h2⟩, hm⟩, hm'⟩, ha⟩, hb⟩, hd⟩ := h
      subst h1 h2
      have P1 := (snd_E a X W sc _ ec ha).1
      have P2 := (snd_E b X W sc _ ec hb).1
      have P3 := (snd_E c X W sc _ ec hd).1
      exact ⟨s_chn ec hc P1 P2 P3 hm', fun _ => t_chn ec hc P1 P2 P3 hm'⟩
    · cases h
  | .and a b, X, W, sc, e', ec, h => by
    unfold cE at h
    split at h
    · simp only [Bool.and_eq_true] at h
      have P1 := snd_E a X W sc _ ec h.1
      have h2 := h.2
      split at h2
      · have P2 := snd_E b X W sc _ ec h2
        exact ⟨s_and ec P1.1 (pe_one P2.1), fun z => by
          simp only [tOk, Bool.and_eq_true] at z
          exact (t_and ec (P1.2 z.1) (t_one ec (P2.2 z.2))).pt⟩
      · have P2 := snd_E b X W sc _ ec h2
        exact ⟨s_and ec P1.1 P2.1, fun z => by
          simp only [tOk, Bool.and_eq_true] at z
          exact (t_and ec (P1.2 z.1) (PW.bool (P2.2 z.2))).pt⟩
    · cases h
  | .or a b, X, W, sc, e', ec, h => by
    unfold cE at h
    split at h
    · simp only [Bool.and_eq_true] at h
      have P1 := snd_E a X W sc _ ec h.1
      have h2 := h.2
      split at h2
      · have P2 := snd_E b X W sc _ ec h2
        exact ⟨s_or ec P1.1 (pe_one P2.1), fun z => by
          simp only [tOk, Bool.and_eq_true] at z
          exact (t_or ec (P1.2 z.1) (t_one ec (P2.2 z.2))).pt⟩
      · have P2 := snd_E b X W sc _ ec h2
        exact ⟨s_or ec P1.1 P2.1, fun z => by
          simp only [tOk, Bool.and_eq_true] at z
          exact (t_or ec (P1.2 z.1) (PW.bool (P2.2 z.2))).pt⟩
    · cases h
  | .ife c a b, X, W, sc, e', ec, h => by
    unfold cE at h
    split at h
    · simp only [Bool.and_eq_true] at h
      exact ⟨s_ife ec ((snd_E c X W sc _ ec h.1.1.2).2 h.1.1.1) (snd_E a X W sc _ ec h.1.2).1 (snd_E b X W sc _ ec h.2).1, fun z => by simp [tOk] at z⟩
    · cases h
  | .call f as, X, W, sc, e', ec, h => by
    unfold cE at h
    split at h
    · simp only [Bool.and_eq_true, decide_eq_true_eq] at h
      obtain ⟨⟨⟨⟨⟨hc, hf⟩, hg⟩, ho⟩, hl⟩, ha⟩ := h
      obtain ⟨z1, z2⟩ := cEs_star ha
      exact dflt2 ec rfl (s_call (ar := 0) ec hc hf hg ho (snd_Es as X W sc _ ec ha).1 z1 (by rintro rfl; rw [z2] at hl; exact absurd hl (by decide)))
    · cases h
  | .blt mu b as, X, W, sc, e', ec, h => by
    unfold cE at h
    split at h
    · simp only [Bool.and_eq_true, decide_eq_true_eq] at h
      obtain ⟨⟨⟨⟨hc, hx⟩, hg⟩, hl⟩, ha⟩ := h
      obtain ⟨z1, z2⟩ := cEs_star ha
      exact dflt2 ec rfl (s_blt (mu := mu) ec hc hx hg (snd_Es as X W sc _ ec ha).1 z1 (by rintro rfl; rw [z2] at hl; cases b <;> exact absurd hl (by decide)))
    · cases h
  | .mth x o as, X, W, sc, e', ec, h => by
    unfold cE at h
    split at h
    · rename_i o' attr p1 es p2
      simp only [Bool.and_eq_true, decide_eq_true_eq] at h
      obtain ⟨⟨⟨⟨⟨⟨hc, hx⟩, hs⟩, hl⟩, hn⟩, ho⟩, ha⟩ := h
      obtain ⟨z1, z2⟩ := cEs_star ha
      have P0 := (snd_Es as X W sc _ ec ha).1
      match es, z1, z2, P0 with
      | [e1], z1, z2, P0 =>
        exact dflt2 ec rfl (s_mth (x := x) ec hc hx hs hl (snd_E o X W sc _ ec ho).1 P0 (by simpa using z1))
      | [], _, z2, _ => rw [z2] at hn; exact absurd hn (by decide)
      | _ :: _ :: _, _, z2, _ => rw [z2] at hn; simp at hn
    · cases h
  | .isi a ts, X, W, sc, e', ec, h => by
    unfold cE at h
    split at h
    · simp only [Bool.and_eq_true, decide_eq_true_eq] at h
      obtain ⟨⟨⟨⟨⟨hc, hx⟩, hg⟩, hs⟩, ha⟩, ht⟩ := h
      exact dflt2 ec rfl (s_isi ec hc hx hg (snd_E a X W sc _ ec ha).1 ht hs)
    · cases h
  | .idx a i, X, W, sc, e', ec, h => by
    unfold cE at h
    split at h
    · simp only [Bool.and_eq_true] at h
      exact dflt2 ec rfl (s_idx ec (snd_E a X W sc _ ec h.1.2).1 (snd_E i X W sc _ ec h.2).1 h.1.1)
    · cases h
  | .slc mu a lo hi, X, W, sc, e', ec, h => by
    unfold cE at h
    split at h
    · simp only [Bool.and_eq_true] at h
      exact dflt2 ec rfl (s_slc (mu := mu) ec (snd_E a X W sc _ ec h.1.1).1 (snd_Eo lo X W sc _ ec h.1.2) (snd_Eo hi X W sc _ ec h.2))
    · cases h
  | .tup as, X, W, sc, e', ec, h => by
    unfold cE at h
    split at h
    · exact dflt2 ec rfl (s_tup ec (snd_Es as X W sc _ ec h).1)
    · cases h
  | .lst mu as, X, W, sc, e', ec, h => by
    unfold cE at h
    split at h
    · exact dflt2 ec rfl (s_lst (mu := mu) ec (snd_Es as X W sc _ ec h).1)
    · cases h
  | .lc mu own tg it cs elt, X, W, sc, e', ec, h => by
    unfold cE at h
    split at h
    · simp only [Bool.and_eq_true, decide_eq_true_eq] at h
      obtain ⟨⟨⟨⟨⟨⟨⟨⟨⟨hc, ha⟩, hids⟩, hset⟩, hblk⟩, hI⟩, hT⟩, hts⟩, hcs⟩, helt⟩ := h
      subst ha
      exact dflt2 ec rfl (s_lc (mu := mu) ec hc hids hset hblk (snd_I it X W sc _ _ ec hI) hT
        (fun s H C cl fp => (snd_Es cs _ _ _ _ (blk_ec ec s H _ C cl fp) hcs).2 hts)
        (fun s H C cl fp => (snd_E elt _ _ _ _ (blk_ec ec s H _ C cl fp) helt).1))
    · cases h
  | .efl _, X, W, sc, e', ec, h => by
    unfold cE at h
    cases h
theorem snd_Es : ∀ (as : Es) (X : Cx) (W : WX) (sc : Scope) (es : List Expr), EC X W T Φ Gv ca n N sc cm → cEs T N cm sc as es = true → PA X es (tDs X.K ca W (evEs Φ Gv as)) ∧ (tOks as = true → PTs X es (tBl X.K ca W (evC Φ Gv as)))
  | .nil, X, W, sc, es, ec, h => by
    unfold cEs at h
    split at h
    · refine ⟨s_nil ec, fun _ => PTs.imp pts_nil fun σ H Q ⟨σd, m, ρ, s, k, h⟩ => ?_⟩
      unfold evC at h
      exact h true ρ H (Ext.refl _ _) k rfl
    · cases h
  | .cons a r, X, W, sc, es, ec, h => by
    unfold cEs at h
    split at h
    · simp only [Bool.and_eq_true] at h
      have P1 := snd_E a X W sc _ ec h.1.2
      refine ⟨s_cons ec P1.1 (snd_Es r X W sc _ ec h.2).1 h.1.1, fun z => ?_⟩
      cases r with
      | nil =>
        have h2 := h.2
        unfold cEs at h2
        split at h2
        · refine PTs.imp (pts_one (P1.2 (by simpa [tOks] using z))) fun σ H Q ⟨σd, m, ρ, s, k, h⟩ => ⟨σd, m, ρ, s, k, ?_⟩
          unfold evC at h
          exact h
        · cases h2
      | cons _ _ => simp [tOks] at z
    · cases h
theorem snd_Eo : ∀ (o : Eo) (X : Cx) (W : WX) (sc : Scope) (o' : Option Expr), EC X W T Φ Gv ca n N sc cm → cEo T N cm sc o o' = true → PO X o' (tX X.K ca W ROI (evEo Φ Gv o))
  | .no, X, W, sc, o', ec, h => by
    unfold cEo at h
    split at h
    · exact o_no ec
    · cases h
  | .so a, X, W, sc, o', ec, h => by
    unfold cEo at h
    split at h
    · exact o_so ec (snd_E a X W sc _ ec h).1
    · cases h
theorem snd_I : ∀ (it : It) (X : Cx) (W : WX) (sc : Scope) (e' tg : Expr), EC X W T Φ Gv ca n N sc cm → cI T N cm sc it e' tg = true → PI X tg e' (tS X.K ca W (evI Φ Gv it))
  | .seq a, X, W, sc, e', tg, ec, h => by
    unfold cI at h
    exact i_seq ec (snd_E a X W sc _ ec h).1
  | .rng as, X, W, sc, e', tg, ec, h => by
    unfold cI at h
    split at h
    · simp only [Bool.and_eq_true, Bool.or_eq_true, decide_eq_true_eq] at h
      obtain ⟨z1, z2⟩ := cEs_star h.2
      exact i_rng ec h.1.1.1 h.1.1.2 (snd_Es as X W sc _ ec h.2).1 z2 h.1.2 z1
    · cases h
  | .zip a b, X, W, sc, e', tg, ec, h => by
    unfold cI at h
    split at h
    · simp only [Bool.and_eq_true, decide_eq_true_eq] at h
      obtain ⟨⟨⟨⟨⟨⟨hx, hg⟩, ht⟩, ha⟩, hb⟩, h1⟩, h2⟩ := h
      cases tg with
      | Tuple elts kk tp => exact i_zip ec hx hg (snd_E a X W sc _ ec ha).1 (snd_E b X W sc _ ec hb).1 h1 h2
      | _ => simp [isTupE] at ht
    · cases h
  | .enu a, X, W, sc, e', tg, ec, h => by
    unfold cI at h
    split at h
    · simp only [Bool.and_eq_true, decide_eq_true_eq] at h
      obtain ⟨⟨⟨⟨hx, hg⟩, ht⟩, ha⟩, h1⟩ := h
      cases tg with
      | Tuple elts kk tp => exact i_enu ec hx hg (snd_E a X W sc _ ec ha).1 h1
      | _ => simp [isTupE] at ht
    · cases h
end
end G

set_option Elab.async false
set_option linter.all false
set_option maxRecDepth 100000
set_option maxHeartbeats 4000000
/-! G18: statements. -/
namespace G
open PySem PySem.Spec L2
def isStarE : Expr → Bool
  | .Starred .. => true
  | _ => false
/-- the library's swappedStores, as a plain function: none where it refuses -/
def swB (sc : Scope) (ts vs : List Expr) : Option (Option (List Str)) :=
  if !(ts.length == 2 || ts.length == 3) || vs.length != ts.length then some none
  else if vs.any isStarE then some none
  else
    let names := ts.filterMap fun
      | .Name id pos => if sc.names.lookup id == some .local && pos.line == (ts.head?.map (·.pos.line)).getD 0 then some id else none
      | _ => none
    if names.length != ts.length || names.eraseDups.length != names.length then some none
    else if vs.all (foldedForSure 8) then some none
    else if vs.all (constantsAlone 8) then none
    else some (some names)
def swN (sc : Scope) (ts : List Expr) : Expr → Option Str
  | .Name id pos => if (sc.names.lookup id == some .local && pos.line == (ts.head?.map (·.pos.line)).getD 0) = true then some id else none
  | _ => none
theorem swB_ok {env : Env} {ts vs : List Expr} {k k2 : Nat} {p p2 : Pos} {r : Option (List Str)} (hb : env.blockKind = .function) (h : swB env.scope ts vs = some r) : swappedStores [.Tuple ts k p] (.Tuple vs k2 p2) env = pure r := by
  unfold swB at h
  unfold swappedStores
  have hb' : (env.blockKind != ScopeKind.function) = false := by rw [hb]; rfl
  simp only [hb', Bool.or_false]
  by_cases c1 : (!(ts.length == 2 || ts.length == 3) || vs.length != ts.length) = true
  · rw [if_pos c1] at h
    cases h
    simp only [c1, if_true]
  · rw [if_neg c1] at h
    simp only [Bool.not_eq_true] at c1
    simp only [c1, Bool.false_eq_true, if_false]
    change (if vs.any isStarE = true then pure none else
      if ((ts.filterMap (swN env.scope ts)).length != ts.length || (ts.filterMap (swN env.scope ts)).eraseDups.length != (ts.filterMap (swN env.scope ts)).length) = true then pure none else
      if vs.all (foldedForSure 8) = true then pure none else
      if vs.all (constantsAlone 8) = true then _ else pure (some (ts.filterMap (swN env.scope ts)))) = _
    change (if vs.any isStarE = true then some none else
      if ((ts.filterMap (swN env.scope ts)).length != ts.length || (ts.filterMap (swN env.scope ts)).eraseDups.length != (ts.filterMap (swN env.scope ts)).length) = true then some none else
      if vs.all (foldedForSure 8) = true then some none else
      if vs.all (constantsAlone 8) = true then none else some (some (ts.filterMap (swN env.scope ts)))) = some r at h
    by_cases c2 : vs.any isStarE = true
    · rw [if_pos c2] at h ⊢
      cases h
      rfl
    · rw [if_neg c2] at h ⊢
      split at h
      · rename_i c3
        cases h
        rw [if_pos c3]
      · rename_i c3
        rw [if_neg c3]
        split at h
        · rename_i c4
          cases h
          rw [if_pos c4]
        · rename_i c4
          rw [if_neg c4]
          split at h
          · cases h
          · rename_i c5
            cases h
            rw [if_neg c5]

variable {X : Cx} {W : WX} {T : Tab} {Φ : Fns} {Gv : List D} {ca : Nat → Addr} {n : Nat} {N : List Str} {sc : Scope} {cm : Bool}
section
variable (K : PySem.W.Frag) (ca : Nat → Addr)
def oS (W : WX) (ρ : Rr) (H : Hp) (r : SR) (D : Ends) : Prop := match r with
  | .next σd' m' => ∀ σ' ρ' H', Ext ρ ρ' H H' → MemOk K ρ' H' m' → SlOk K ρ' H' σd' σ' → D.nx σ' H'
  | .brk σd' m' => ∀ σ' ρ' H', Ext ρ ρ' H H' → MemOk K ρ' H' m' → SlOk K ρ' H' σd' σ' → D.bk σ' H'
  | .cnt σd' m' => ∀ σ' ρ' H', Ext ρ ρ' H H' → MemOk K ρ' H' m' → SlOk K ρ' H' σd' σ' → D.ct σ' H'
  | .ret d m' => ∀ v ρ' H', Ext ρ ρ' H H' → MemOk K ρ' H' m' → Rep K ρ' H' d v → D.rt v H'
  | .exc c fs σd' m' => ∀ cls dd σ' ρ' H', Ext ρ ρ' H H' → MemOk K ρ' H' m' → SlOk K ρ' H' σd' σ' → XRep K ca ρ' H' c fs cls dd → W cls dd σ' H'
  | .bad => False
def tSt (W : WX) (ev : Sl → Mem → SR) : TS := fun D σ H => ∃ σd m ρ, SlOk K ρ H σd σ ∧ MemOk K ρ H m ∧ oS K ca W ρ H (ev σd m) D
end
theorem oS.mono {K : PySem.W.Frag} {ρ ρ' : Rr} {H H' : Hp} {r : SR} {D : Ends} (h : oS K ca W ρ H r D) (e : Ext ρ ρ' H H') : oS K ca W ρ' H' r D := by
  cases r with
  | next σ m => exact fun a b c e2 => h a b c (e.trans e2)
  | brk σ m => exact fun a b c e2 => h a b c (e.trans e2)
  | cnt σ m => exact fun a b c e2 => h a b c (e.trans e2)
  | ret d m => exact fun a b c e2 => h a b c (e.trans e2)
  | exc c fs σ m => exact fun a b c d f e2 => h a b c d f (e.trans e2)
  | bad => exact h
/-- an expression ahead of the rest -/
theorem tX.ofX {K : PySem.W.Frag} {α β : Type} {R : Rr → Hp → α → β → Prop} {ev : Sl → Mem → XR α} {f : α → Mem → SR} {D : Ends} {Q1 : β → Hp → Prop} {ρ : Rr} {σ : L2.St} {H : Hp} {σd : Sl} {m : Mem} (s : SlOk K ρ H σd σ) (k : MemOk K ρ H m)
    (h : oS K ca W ρ H (G.ofX (ev σd m) σd f) D)
    (go : ∀ a m' b ρ' H', SlOk K ρ' H' σd σ → Ext ρ ρ' H H' → MemOk K ρ' H' m' → R ρ' H' a b → oS K ca W ρ' H' (f a m') D → Q1 b H') : tX K ca W R ev σ H Q1 := by
  refine ⟨σd, m, ρ, s, k, ?_⟩
  cases q : ev σd m with
  | ok a m' => rw [q] at h; exact fun b ρ2 H2 e2 k2 r2 => go a m' b ρ2 H2 (s.ext e2) e2 k2 r2 (h.mono e2)
  | exc c fs m' => rw [q] at h; exact fun cls dd ρ2 H2 e2 k2 r2 => h cls dd σ ρ2 H2 e2 k2 (s.ext e2) r2
  | bad => rw [q] at h; exact h
def gT (K : PySem.W.Frag) (Φ : Fns) (Gv : List D) (t : G.T) : TG := fun v σ H Q => ∃ ρ m d σd, SlOk K ρ H σd σ ∧ MemOk K ρ H m ∧ Rep K ρ H d v ∧ match asgT Φ Gv t d σd m with
  | .ok σd' m' => ∀ σ' ρ' H', Ext ρ ρ' H H' → MemOk K ρ' H' m' → SlOk K ρ' H' σd' σ' → Q σ' H'
  | .bad => False
def gTs (K : PySem.W.Frag) (Φ : Fns) (Gv : List D) (t : Ts) : TGs := fun vs σ H Q => ∃ ρ m ds σd, SlOk K ρ H σd σ ∧ MemOk K ρ H m ∧ Reps K ρ H ds vs ∧ match asgTs Φ Gv t ds σd m with
  | .ok σd' m' => ∀ σ' ρ' H', Ext ρ ρ' H H' → MemOk K ρ' H' m' → SlOk K ρ' H' σd' σ' → Q σ' H'
  | .bad => False
def rPut (K : PySem.W.Frag) : TSet := fun o i v H Q => ∃ ρ m x y d m', MemOk K ρ H m ∧ Rep K ρ H x o ∧ Rep K ρ H y i ∧ Rep K ρ H d v ∧ putD x y d m = some m' ∧ ∀ ρ' H', Ext ρ ρ' H H' → MemOk K ρ' H' m' → Q H'
theorem set_any : PSet X (rPut X.K) := by
  intro pins s σ H o i v ov iv u Q I ro ri rv h
  obtain ⟨ρ, m, x, y, d, m', k, rx, ry, rd, hp, q⟩ := h
  unfold putD at hp
  split at hp
  · split at hp
    · rename_i xs hm
      split at hp
      · rename_i j hj
        cases hp
        obtain ⟨a, vs, rfl, hq, h1, h2, h3⟩ := ref_lst hm k rx
        refine set_list pins s σ H _ i v ov iv u Q I ro ri rv ⟨a, vs, _, j, rfl, ry.int, h1, by rw [← h3.length]; exact hj, ?_⟩
        exact q ρ _ (ext_set (List.mem_of_getElem? hq) _) (k.set hq (by rw [List.length_set]; exact h2) (h3.set rd j))
      · cases hp
    · cases hp
  · cases hp
def setsOk : Option Expr → Bool
  | _ => true
section
variable (T N sc cm)
mutual
def cT : G.T → Expr → Bool
  | .nm i, e' => (match e' with
    | .Name x _ => isN N[i]? x && locB sc x
    | _ => false)
  | .sub o i, e' => (match e' with
    | .Subscript o' i' _ => noSlice i' && cE T N cm sc o o' && cE T N cm sc i i'
    | _ => false)
  | .tp ts, e' => (match e' with
    | .Tuple es _ _ => cm && cTs ts es
    | _ => false)
def cTs : Ts → List Expr → Bool
  | .nil, e' => (match e' with
    | [] => true
    | _ => false)
  | .cons t r, e' => (match e' with
    | e :: es => noStar e && cT t e && cTs r es
    | _ => false)
end
end
theorem asgs_of {es : List Expr} : es.all noStar = true → (∀ env, (assignEach es env).findIdx? (·.1) = none) ∧ (∀ env, (assignEach es env).length = es.length) := by
  induction es with
  | nil => exact fun _ => ⟨fun _ => rfl, fun _ => rfl⟩
  | cons e es ih =>
    intro h
    simp only [List.all_cons, Bool.and_eq_true] at h
    obtain ⟨z1, z2⟩ := ih h.2
    refine ⟨fun env => ?_, fun env => ?_⟩
    · rw [asg_cons h.1, List.findIdx?_cons, z1 env]; rfl
    · rw [asg_cons h.1, List.length_cons, z2 env, List.length_cons]
theorem cTs_star : ∀ {ts : Ts} {es : List Expr}, cTs T N sc cm ts es = true → es.all noStar = true
  | .nil, es, h => by
    unfold cTs at h
    split at h
    · rfl
    · cases h
  | .cons t r, es, h => by
    unfold cTs at h
    split at h
    · simp only [Bool.and_eq_true] at h
      simp only [List.all_cons, Bool.and_eq_true]
      exact ⟨h.1.1, cTs_star h.2⟩
    · cases h
theorem asgTs_len : ∀ {ts : Ts} {es : List Expr} {xs : List D} {σ σ' : Sl} {m m' : Mem}, cTs T N sc cm ts es = true → asgTs Φ Gv ts xs σ m = .ok σ' m' → xs.length = es.length
  | .nil, es, xs, _, _, _, _, h, ha => by
    unfold cTs at h
    split at h
    · cases xs with
      | nil => rfl
      | cons _ _ => simp [asgTs] at ha
    · cases h
  | .cons t r, es, xs, σ, σ', m, m', h, ha => by
    unfold cTs at h
    split at h
    · simp only [Bool.and_eq_true] at h
      cases xs with
      | nil => simp [asgTs] at ha
      | cons x xs =>
        simp only [asgTs] at ha
        split at ha
        · rw [List.length_cons, List.length_cons, asgTs_len h.2 ha]
        · cases ha
    · cases h
section
variable (ec : EC X W T Φ Gv ca n N sc cm) (hst : ∀ x, locB sc x = true → L2.Loc X.env.scope x ∧ (X.fn x = true ∨ X.env.scope.names.lookup x = some .local))
include ec hst
mutual
theorem snd_T : ∀ (t : G.T) (e : Expr), cT T N sc cm t e = true → PG X e (gT X.K Φ Gv t)
  | .nm i, e, h => by
    unfold cT at h
    split at h
    · simp only [Bool.and_eq_true] at h
      obtain ⟨h2, h3⟩ := hst _ h.2
      refine PG.imp (pg_name (by rw [ec.hN]; exact ec.nd) (e_N ec h.1) h2 h3) fun v σ H Q ⟨ρ, m, d, σd, s, k, r, q⟩ => ?_
      unfold asgT at q
      exact q _ ρ H (Ext.refl _ _) k (s.set i r)
    · cases h
  | .sub o i, e, h => by
    unfold cT at h
    split at h
    · rename_i o' i' p
      simp only [Bool.and_eq_true] at h
      have ha : ∀ v, assign (.Subscript o' i' p) X.env v = (do
          let ov ← holding [v] (eval o' X.env)
          let iv ← holding [v, ov] (eval i' X.env)
          standAt p
          holding [v, ov, iv] (setItem ov iv v)
          release [v, ov, iv] []) := fun v => by
        have hi := h.1.1
        cases i' <;> first | rfl | (simp [noSlice] at hi)
      refine PG.imp (pg_sub (snd_E o X W sc _ ec h.1.2).1 (snd_E i X W sc _ ec h.2).1 set_any ha) fun v σ H Q ⟨ρ, m, d, σd, s, k, r, q⟩ => ?_
      unfold asgT at q
      refine ⟨σd, m, ρ, s, k, ?_⟩
      cases q1 : evE Φ Gv o σd m with
      | ok x m1 =>
        rw [q1] at q
        intro vo ρ1 H1 e1 k1 r1
        refine ⟨σd, m1, ρ1, s.ext e1, k1, ?_⟩
        dsimp only at q
        cases q2 : evE Φ Gv i σd m1 with
        | ok y m2 =>
          rw [q2] at q
          intro vi ρ2 H2 e2 k2 r2
          dsimp only at q
          cases q3 : putD x y d m2 with
          | none => rw [q3] at q; exact q.elim
          | some m3 =>
            rw [q3] at q
            refine ⟨ρ2, m2, x, y, d, m3, k2, Rep.ext e2 _ _ r1, r2, Rep.ext (e1.trans e2) _ _ r, q3, fun ρ3 H3 e3 k3 => ?_⟩
            exact q σ ρ3 H3 ((e1.trans e2).trans e3) k3 (s.ext ((e1.trans e2).trans e3))
        | exc c fs m2 => rw [q2] at q; exact q.elim
        | bad => rw [q2] at q; exact q.elim
      | exc c fs m1 => rw [q1] at q; exact q.elim
      | bad => rw [q1] at q; exact q.elim
    · cases h
  | .tp ts, e, h => by
    unfold cT at h
    split at h
    · rename_i es _ _
      simp only [Bool.and_eq_true] at h
      obtain ⟨z1, z2⟩ := asgs_of (cTs_star h.2)
      refine PG.imp (pg_tup (n := es.length) (ec.calm h.1).1 (snd_Ts ts es h.2) (z2 _) (z1 _)) fun v σ H Q ⟨ρ, m, d, σd, s, k, r, q⟩ => ?_
      cases d with
      | tup xs =>
        unfold asgT at q
        obtain ⟨a, vs, rfl, t, l, r⟩ := r.tup
        refine ⟨a, vs, rfl, t, ?_, ρ, m, xs, σd, s, k, r, q⟩
        rw [← r.length]
        cases q1 : asgTs Φ Gv ts xs σd m with
        | ok σ' m' => exact asgTs_len h.2 q1
        | bad => rw [q1] at q; exact q.elim
      | _ => simp [asgT] at q
    · cases h
theorem snd_Ts : ∀ (ts : Ts) (es : List Expr), cTs T N sc cm ts es = true → PGs X es (gTs X.K Φ Gv ts)
  | .nil, es, h => by
    unfold cTs at h
    split at h
    · refine PGs.imp pgs_nil fun vs σ H Q ⟨ρ, m, d, σd, s, k, r, q⟩ => ?_
      cases d with
      | nil =>
        unfold asgTs at q
        simp only [Reps] at r
        exact ⟨r, q σ ρ H (Ext.refl _ _) k s⟩
      | cons _ _ => simp [asgTs] at q
    · cases h
  | .cons t r, es, h => by
    unfold cTs at h
    split at h
    · simp only [Bool.and_eq_true] at h
      refine PGs.imp (pgs_cons (snd_T t _ h.1.2) (snd_Ts r _ h.2) (by rw [asg_cons h.1.1]; rfl)) fun vs σ H Q ⟨ρ, m, d, σd, s, k, r', q⟩ => ?_
      cases d with
      | nil => simp [asgTs] at q
      | cons x xs =>
        simp only [Reps] at r'
        obtain ⟨v, w, rfl, a, b⟩ := r'
        unfold asgTs at q
        cases q1 : asgT Φ Gv t x σd m with
        | bad => rw [q1] at q; exact q.elim
        | ok σ1 m1 =>
          rw [q1] at q
          refine ⟨v, w, rfl, ρ, m, x, σd, s, k, a, ?_⟩
          rw [q1]
          intro σ2 ρ2 H2 e2 k2 s2
          refine ⟨ρ2, m1, xs, σ1, s2, k2, Reps.ext e2 _ _ b, ?_⟩
          dsimp only at q
          cases q2 : asgTs Φ Gv r xs σ1 m1 with
          | bad => rw [q2] at q; exact q.elim
          | ok σ3 m3 =>
            rw [q2] at q
            exact fun σ4 ρ4 H4 e4 k4 s4 => q σ4 ρ4 H4 (e2.trans e4) k4 s4
    · cases h
end
end
end G

set_option Elab.async false
set_option linter.all false
set_option maxRecDepth 100000
set_option maxHeartbeats 8000000
/-! G19: statements, without raise and try. -/
namespace G
open PySem PySem.Spec L2
def noSD : Expr → Bool
  | .SetComp .. => false
  | .DictComp .. => false
  | _ => true
def noLC : Expr → Bool
  | .ListComp .. => false
  | .SetComp .. => false
  | .DictComp .. => false
  | _ => true
/-- does the store stand in the comprehension's own code? -/
def swpB (sc : Scope) (x : Str) (px : Pos) : Expr → Bool
  | .ListComp _ _ s p => plB sc x && (px.line == p.line) && !(s.names.any fun (n, k) => n == x && (k == .local || k == .cell))
  | _ => false
theorem plB_some {sc : Scope} {x : Str} (h : plB sc x = true) : sc.names.lookup x = some .local := by
  unfold plB at h
  split at h
  · assumption
  · cases h
theorem plB_eq (sc : Scope) (x : Str) : (sc.names.lookup x == some .local) = plB sc x := by
  unfold plB
  split
  · rename_i e; rw [e]; rfl
  · rename_i e
    cases h : sc.names.lookup x == some NameKind.local with
    | false => rfl
    | true => exact absurd (eq_of_beq h) e
theorem swp_ok {e : Expr} {x : Str} {px : Pos} {l : Nat} {env : Env} (hk : env.scope.kind = .function) (h : noSD e = true) : swapsWith e (some (.Name x px)) l env = pure (swpB env.scope x px e) := by
  have hb : env.blockKind = .function := by unfold Env.blockKind; rw [hk]; rfl
  cases e <;> first | rfl | (simp [noSD] at h) | skip
  unfold swapsWith
  simp only [hb, swpB, Expr.pos, Env.kindOf, plB_eq]
  rfl
def tgS : Expr → Bool
  | .Tuple .. => true
  | .Subscript .. => true
  | _ => false
def swS (sc : Scope) : Expr → Expr → Bool
  | .Tuple ts _ _, .Tuple vs _ _ => (match swB sc ts vs with
    | some none => true
    | _ => false)
  | _, _ => true
theorem sole_ok {tg e : Expr} {l : Nat} {env : Env} (h : tgS tg = true) (h2 : noSD e = true) : swapsWithSole [tg] e l env = pure false := by
  cases tg <;> first | (simp [tgS] at h; done) | (cases e <;> first | rfl | (simp [noSD] at h2))
theorem each_ok {tg : Expr} {env : Env} (h : tgS tg = true) : (assignEach [tg] env).map (·.2) = [assign tg env] := by
  cases tg <;> first | rfl | (simp [tgS] at h)
theorem st_ok {tg e : Expr} {env : Env} (hk : env.scope.kind = .function) (h : tgS tg = true) (h2 : swS env.scope tg e = true) : swappedStores [tg] e env = pure none := by
  have hb : env.blockKind = .function := by unfold Env.blockKind; rw [hk]; rfl
  cases tg <;> first | rfl | (simp [tgS] at h; done) | skip
  cases e <;> first | rfl | skip
  unfold swS at h2
  dsimp only at h2
  split at h2
  · rename_i q
    exact swB_ok hb q
  · cases h2
theorem drop_ok {e : Expr} {l : Nat} {env : Env} (h : noLC e = true) : swapsWith e none l env = pure false := by
  cases e <;> first | rfl | (simp [noLC] at h)
def clB (T : Tab) (c : Nat) (x : Str) (k : Nat) : Bool := match T.cs[c]? with
  | some p => decide (p.1 = x) && decide (p.2 = k)
  | none => false
theorem clB_ok {T : Tab} {c : Nat} {x : Str} {k : Nat} (h : clB T c x k = true) : T.cs[c]? = some (x, k) := by
  unfold clB at h
  split at h
  · rename_i p e
    simp only [Bool.and_eq_true, decide_eq_true_eq] at h
    rw [e, ← h.1, ← h.2]
  · cases h
def nmB (T : Tab) (c : Nat) (x : Str) : Bool := match T.cs[c]? with
  | some p => decide (p.1 = x)
  | none => false
theorem nmB_ok {T : Tab} {c : Nat} {x : Str} (h : nmB T c x = true) : ∃ k, T.cs[c]? = some (x, k) := by
  unfold nmB at h
  split at h
  · rename_i p e
    exact ⟨p.2, by rw [e, ← of_decide_eq_true h]⟩
  · cases h
section
variable (T : Tab) (N : List Str) (cm : Bool)
def parB (sc : Scope) (is : List Nat) (ts vs : List Expr) : Bool := match is, ts, vs with
  | [i, j], [.Name x _, .Name y _], [_, _] => isN N[i]? x && isN N[j]? y && decide (i ≠ j) && plB sc x && plB sc y && decide (swB sc ts vs = some (some [x, y]))
  | [i, j, l], [.Name x _, .Name y _, .Name z _], [_, _, _] => isN N[i]? x && isN N[j]? y && isN N[l]? z && decide (i ≠ j) && decide (i ≠ l) && decide (j ≠ l) && plB sc x && plB sc y && plB sc z && decide (swB sc ts vs = some (some [x, y, z]))
  | _, _, _ => false
def cH (nc : Nat) (sc : Scope) : Hs → List ExceptHandler → Bool
  | .nil, hs => (match hs with
    | [] => true
    | _ => false)
  | .retC c k r, hs => (match hs with
    | .ExceptHandler (some (.Name x _)) none [.Return (some (.Constant k' _ _)) _] _ :: hs' => decide (c < nc) && nmB T c x && glB sc x && decide (k = k') && cstB k && cH nc sc r hs'
    | _ => false)
  | .retX c i k r, hs => (match hs with
    | .ExceptHandler (some (.Name x _)) (some y) [.Return (some (.Tuple [.Constant k' _ _, .Attribute (.Name y' _) f _] _ _)) _] _ :: hs' =>
      decide (c < nc) && clB T c x 1 && glB sc x && decide (k = k') && cstB k && decide (y' = y) && decide (f = ("number" : Str)) && isN N[i]? y && plB sc y && okN y && cH nc sc r hs'
    | _ => false)
mutual
def cS (sc : Scope) : S → Stmt → Bool
  | .asg (.nm i) e, st => (match st with
    | .Assign [.Name x _] e' _ => isN N[i]? x && locB sc x && noSD e' && cE T N cm sc e e'
    | _ => false)
  | .asg t e, st => (match st with
    | .Assign [tg] e' _ => tgS tg && noSD e' && swS sc tg e' && cT T N sc cm t tg && cE T N cm sc e e'
    | _ => false)
  | .par is es, st => (match st with
    | .Assign [.Tuple ts _ _] (.Tuple vs _ _) _ => cm && parB N sc is ts vs && cEs T N cm sc es vs
    | _ => false)
  | .ex e, st => (match st with
    | .Expr e' _ => noLC e' && cE T N cm sc e e'
    | _ => false)
  | .ret e, st => (match st with
    | .Return (some e') _ => cE T N cm sc e e'
    | _ => false)
  | .retN, st => (match st with
    | .Return none _ => true
    | _ => false)
  | .iff c a b, st => (match st with
    | .If c' a' b' _ => tOk c && cE T N cm sc c c' && cSs sc a a' && cSs sc b b'
    | _ => false)
  | .for tg it b, st => (match st with
    | .For tg' it' b' [] _ => cm && noSet it' && cI T N cm sc it it' tg' && cTg N sc tg tg' && cSs sc b b'
    | _ => false)
  | .whl c b, st => (match st with
    | .While c' b' [] _ => tOk c && cE T N cm sc c c' && cSs sc b b'
    | _ => false)
  | .brk, st => (match st with
    | .Break _ => true
    | _ => false)
  | .cnt, st => (match st with
    | .Continue _ => true
    | _ => false)
  | .pass, st => (match st with
    | .Pass _ => true
    | _ => false)
  | .rse c .nil, st => (match st with
    | .Raise (some (.Call (.Name x _) [] [] _)) none _ => cm && clB T c x 0 && glB sc x
    | _ => false)
  | .rse c (.cons a .nil), st => (match st with
    | .Raise (some (.Call (.Name x _) [a'] [] _)) none _ => cm && clB T c x 1 && glB sc x && noStar a' && cE T N cm sc a a'
    | _ => false)
  | .rse _ (.cons _ (.cons _ _)), _ => false
  | .try b nc hs, st => (match st with
    | .Try b' (h' :: hs') [] [] _ => decide (nc ≤ T.cs.length) && cH T N nc sc hs (h' :: hs') && cSs sc b b'
    | _ => false)
def cSs (sc : Scope) : Ss → List Stmt → Bool
  | .nil, st => (match st with
    | [] => true
    | _ => false)
  | .cons s r, st => (match st with
    | x :: xs => cS sc s x && cSs sc r xs
    | _ => false)
end
end
structure SX (X : Cx) (W : WX) (T : Tab) (Φ : Fns) (Gv : List D) (ca : Nat → Addr) (n : Nat) (N : List Str) (sc : Scope) (cm : Bool) : Prop where
  ec : EC X W T Φ Gv ca n N sc cm
  hst : ∀ x, locB sc x = true → L2.Loc X.env.scope x ∧ (X.fn x = true ∨ X.env.scope.names.lookup x = some .local)
  pow : PassesOwn (model X.prog X.w) X.A X.env X.xe
  kd : X.env.scope.kind = .function
theorem PSs.imp {X : Cx} {e : List Stmt} {t t' : TS} (h : PSs X e t) (i : ∀ D σ H, t' D σ H → t D σ H) : PSs X e t' := ⟨fun pins s σ H D I q => h.run pins s σ H D I (i _ _ _ q)⟩
variable {X : Cx} {W : WX} {T : Tab} {Φ : Fns} {Gv : List D} {ca : Nat → Addr} {n : Nat} {N : List Str} {sc : Scope} {cm : Bool} {w : Nat}
theorem for_turns {K : PySem.W.Frag} {ρ₁ : Rr} {H₁ : Hp} {S : Src} {J : L2.It} {tg : Tg} {body : Sl → Mem → SR} {σd : Sl} {σ : L2.St} {m : Mem} {D : Ends}
    (hJ : SrcRel K ρ₁ H₁ S J) (s : SlOk K ρ₁ H₁ σd σ) (k₁ : MemOk K ρ₁ H₁ m) (h : oS K ca W ρ₁ H₁ (forLoop S (asgG tg) body S.len 0 σd m) D) :
    ∃ Wf : Nat → Nat → L2.St → Hp → Prop, (∃ j, Wf 0 j σ H₁) ∧ ∀ i j σ H, Wf i j σ H →
      (J.stop i H ∧ D.nx σ H) ∨ (J.go i H ∧ ∃ Nx : L2.St → Hp → Prop, (∀ σ' H', Nx σ' H' → ∃ j', j' < j ∧ Wf (i + 1) j' σ' H') ∧ ∀ x H', J.yld i H x H' → gX K tg x σ H' fun σ2 H2 => tSt K ca W body { D with nx := Nx, ct := Nx, bk := D.nx } σ2 H2) := by
  let P : Nat → Nat → L2.St → Hp → Prop := fun i j σ H => ∃ ρi mi σi, Ext ρ₁ ρi H₁ H ∧ MemOk K ρi H mi ∧ SlOk K ρi H σi σ ∧ i + j = S.len ∧ oS K ca W ρi H (forLoop S (asgG tg) body j i σi mi) D
  refine ⟨P, ⟨S.len, ρ₁, m, σd, Ext.refl _ _, k₁, s, by omega, h⟩, ?_⟩
  rintro i j σ H ⟨ρi, mi, σi, e, k, si, hij, hf⟩
  obtain ⟨hgo, hst⟩ := hJ ρi H mi e.ex2 k
  cases j with
  | zero =>
    unfold forLoop at hf
    split at hf
    · rename_i ho
      have : i = S.len := by omega
      subst this
      exact .inl ⟨hst ho, hf σ ρi H (Ext.refl _ _) k si⟩
    · exact hf.elim
  | succ j =>
    unfold forLoop at hf
    split at hf
    · exact hf.elim
    · rename_i d hd
      obtain ⟨h1, h2⟩ := hgo i d hd
      refine .inr ⟨h1, P (i + 1) j, fun σ' H' q => ⟨j, by omega, q⟩, fun x H' hy => ?_⟩
      obtain ⟨ρ', e', k', r'⟩ := h2 x H' hy
      split at hf
      · exact hf.elim
      · rename_i σ' ha
        have eA := e.trans e'
        refine ⟨ρ', mi, d, σi, σ', si.ext e', k', r', ha, fun σ2 s2 _ => ⟨σ', mi, ρ', s2, k', ?_⟩⟩
        cases q1 : body σ' mi with
        | next σ3 m3 => rw [q1] at hf; exact fun σ4 ρ4 H4 e4 k4 s4 => ⟨ρ4, m3, σ3, eA.trans e4, k4, s4, by omega, oS.mono hf (e'.trans e4)⟩
        | cnt σ3 m3 => rw [q1] at hf; exact fun σ4 ρ4 H4 e4 k4 s4 => ⟨ρ4, m3, σ3, eA.trans e4, k4, s4, by omega, oS.mono hf (e'.trans e4)⟩
        | brk σ3 m3 => rw [q1] at hf; exact fun σ4 ρ4 H4 e4 k4 s4 => hf σ4 ρ4 H4 (e'.trans e4) k4 s4
        | ret d3 m3 => rw [q1] at hf; exact fun v ρ4 H4 e4 k4 r4 => hf v ρ4 H4 (e'.trans e4) k4 r4
        | exc c fs σ3 m3 => rw [q1] at hf; exact fun cls dd σ4 ρ4 H4 e4 k4 s4 r4 => hf cls dd σ4 ρ4 H4 (e'.trans e4) k4 s4 r4
        | bad => rw [q1] at hf; exact hf.elim
theorem whl_turns {K : PySem.W.Frag} {ρ : Rr} {H : Hp} {ct : Sl → Mem → XR Bool} {body : Sl → Mem → SR} {σd : Sl} {σ : L2.St} {m : Mem} {D : Ends} {w : Nat}
    (s : SlOk K ρ H σd σ) (k : MemOk K ρ H m) (h : oS K ca W ρ H (whlLoop ct body w σd m) D) : tWhile (tBl K ca W ct) (tSt K ca W body) D σ H := by
  let P : Nat → L2.St → Hp → Prop := fun j σ H => ∃ ρi mi σi, MemOk K ρi H mi ∧ SlOk K ρi H σi σ ∧ oS K ca W ρi H (whlLoop ct body j σi mi) D
  refine ⟨P, ⟨w, ρ, m, σd, k, s, h⟩, ?_⟩
  rintro j σ H ⟨ρi, mi, σi, k, si, hf⟩
  refine ⟨σi, mi, ρi, si, k, ?_⟩
  cases j with
  | zero => unfold whlLoop at hf; exact hf.elim
  | succ j =>
    unfold whlLoop at hf
    cases q : ct σi mi with
    | bad => rw [q] at hf; exact hf.elim
    | exc c fs m1 =>
      rw [q] at hf
      exact fun cls dd ρ2 H2 e2 k2 r2 => hf cls dd σ ρ2 H2 e2 k2 (si.ext e2) r2
    | ok b m1 =>
      rw [q] at hf
      intro b' ρ2 H2 e2 k2 hb
      cases hb
      cases b with
      | false =>
        refine iteF ?_
        exact hf σ ρ2 H2 e2 k2 (si.ext e2)
      | true =>
        refine iteT ⟨P j, fun σ' H' p => ⟨j, Nat.lt_succ_self j, p⟩, σi, m1, ρ2, si.ext e2, k2, ?_⟩
        dsimp only at hf
        cases q1 : body σi m1 with
        | next σ3 m3 => rw [q1] at hf; exact fun σ4 ρ4 H4 e4 k4 s4 => ⟨ρ4, m3, σ3, k4, s4, oS.mono hf (e2.trans e4)⟩
        | cnt σ3 m3 => rw [q1] at hf; exact fun σ4 ρ4 H4 e4 k4 s4 => ⟨ρ4, m3, σ3, k4, s4, oS.mono hf (e2.trans e4)⟩
        | brk σ3 m3 => rw [q1] at hf; exact fun σ4 ρ4 H4 e4 k4 s4 => hf σ4 ρ4 H4 (e2.trans e4) k4 s4
        | ret d3 m3 => rw [q1] at hf; exact fun v ρ4 H4 e4 k4 r4 => hf v ρ4 H4 (e2.trans e4) k4 r4
        | exc c fs σ3 m3 => rw [q1] at hf; exact fun cls dd σ4 ρ4 H4 e4 k4 s4 r4 => hf cls dd σ4 ρ4 H4 (e2.trans e4) k4 s4 r4
        | bad => rw [q1] at hf; exact hf.elim
/-- the end of an assignment -/
theorem asg_end {K : PySem.W.Frag} {t : G.T} {ρ : Rr} {H : Hp} {σd : Sl} {σ : L2.St} {m : Mem} {d : G.D} {v : V} {D : Ends} (s : SlOk K ρ H σd σ) (k : MemOk K ρ H m) (r : Rep K ρ H d v)
    (h : oS K ca W ρ H (match asgT Φ Gv t d σd m with
    | .ok σ' m' => .next σ' m'
    | .bad => .bad) D) : gT K Φ Gv t v σ H D.nx := by
  refine ⟨ρ, m, d, σd, s, k, r, ?_⟩
  cases q : asgT Φ Gv t d σd m with
  | bad => rw [q] at h; exact h.elim
  | ok σ' m' => rw [q] at h; exact h
theorem fin_asg (sx : SX X W T Φ Gv ca n N sc cm) {t : G.T} {e : E} {te : TE} {g : TG} (ht : ∀ σ H Q, tD X.K ca W (evE Φ Gv e) σ H Q → te σ H Q) (hg : ∀ v σ H Q, gT X.K Φ Gv t v σ H Q → g v σ H Q) (D : Ends) (σ : L2.St) (H : Hp) :
    tSt X.K ca W (evS Φ Gv w (.asg t e)) D σ H → tAsg te g D σ H := fun ⟨σd, m, ρ, s, k, h⟩ => by
  unfold evS at h
  refine ht _ _ _ (tX.ofX s k h fun d m1 v ρ1 H1 s1 e1 k1 r1 h => hg _ _ _ _ (asg_end s1 k1 r1 h))
theorem gT_nm {K : PySem.W.Frag} {i : Nat} (v : V) (σ : L2.St) (H : Hp) (Q : L2.St → Hp → Prop) : gT K Φ Gv (.nm i) v σ H Q → gName i v σ H Q := fun ⟨ρ, m, d, σd, s, k, r, q⟩ => by
  unfold asgT at q
  exact q _ ρ H (Ext.refl _ _) k (s.set i r)
theorem s_asgN (sx : SX X W T Φ Gv ca n N sc cm) {i : Nat} {e : E} {e' : Expr} {x : Str} {px pos : Pos} (h1 : isN N[i]? x = true) (h2 : locB sc x = true) (h3 : noSD e' = true) (h : cE T N cm sc e e' = true) :
    PS X (.Assign [.Name x px] e' pos) (tSt X.K ca W (evS Φ Gv w (.asg (.nm i) e))) := by
  obtain ⟨l1, l2⟩ := sx.hst x h2
  have ndX : X.N.Nodup := by rw [sx.ec.hN]; exact sx.ec.nd
  have hsw := swp_ok (x := x) (px := px) (l := pos.line) sx.kd h3
  cases q : swpB X.env.scope x px e' with
  | false =>
    rw [q] at hsw
    exact PS.imp (ps_set ndX (e_N sx.ec h1) l1 (snd_E e X W sc _ sx.ec h).1 hsw l2) (fin_asg sx (fun _ _ _ z => z) gT_nm)
  | true =>
    rw [q] at hsw
    cases e' <;> first | (simp [swpB] at q; done) | skip
    rename_i elt' gs scope p
    have hl : X.env.scope.names.lookup x = some .local := by
      simp only [swpB, Bool.and_eq_true] at q
      exact plB_some q.1.1
    cases e <;> first | (unfold cE at h; cases h; done) | skip
    rename_i mu own tg it cs elt
    unfold cE at h
    split at h
    · rename_i elt2 tg' it' ifs' ia scope2 p2 heq
      injection heq with q1 q2 q3 q4
      subst q1 q2 q3 q4
      simp only [Bool.and_eq_true, decide_eq_true_eq] at h
      obtain ⟨⟨⟨⟨⟨⟨⟨⟨⟨hc, hia⟩, hids⟩, hset⟩, hblk⟩, hi⟩, htg⟩, htk⟩, hcs⟩, helt⟩ := h
      subst hia
      have ok : BlkOk X.N X.env.scope scope (ownP N own) := by rw [sx.ec.hN, sx.ec.hsc]; exact blkOk_by hblk
      have hcalm := (sx.ec.calm hc).1
      have fin := ps_setLc (i := i) (spos := pos) (g := gX X.K tg) (tt := tBl X.K ca (fun _ _ _ _ => False) (evC Φ Gv cs)) (te := tD X.K ca (fun _ _ _ _ => False) (evE Φ Gv elt)) hcalm ndX (e_N sx.ec h1) hl hsw (snd_I it X W sc _ _ sx.ec hi) ok
        (fun s H C cl fp => g_tg (X := X.blk s H scope (compEnvC scope cl C X.env) fp) (N := N) (sc := scope) ndX sx.ec.hN (blk_st scope s H C cl fp) hcalm tg tg' htg)
        (fun s H C cl fp => (snd_Es cs (X.blk s H scope (compEnvC scope cl C X.env) fp) (fun _ _ _ _ => False) _ _ (blk_ec sx.ec s H scope C cl fp) hcs).2 htk)
        (fun s H C cl fp => (snd_E elt (X.blk s H scope (compEnvC scope cl C X.env) fp) (fun _ _ _ _ => False) _ _ (blk_ec sx.ec s H scope C cl fp) helt).1)
        (fun x => set_free hset X.env x)
      rw [own_snd] at fin
      exact PS.imp fin (fin_asg sx (lc_imp hids) gT_nm)
    · cases h
theorem s_asgT (sx : SX X W T Φ Gv ca n N sc cm) {t : G.T} {e : E} {tg e' : Expr} {pos : Pos} (h1 : tgS tg = true) (h2 : noSD e' = true) (h3 : swS sc tg e' = true) (h4 : cT T N sc cm t tg = true) (h : cE T N cm sc e e' = true) :
    PS X (.Assign [tg] e' pos) (tSt X.K ca W (evS Φ Gv w (.asg t e))) := by
  exact PS.imp (ps_asg (snd_E e X W sc _ sx.ec h).1 (snd_T sx.ec sx.hst t tg h4) (sole_ok h1 h2) (st_ok sx.kd h1 (by rw [sx.ec.hsc]; exact h3)) (each_ok h1)) (fin_asg sx (fun _ _ _ z => z) (fun _ _ _ _ z => z))
theorem plX (sx : SX X W T Φ Gv ca n N sc cm) {x : Str} (h : plB sc x = true) : X.env.scope.names.lookup x = some .local := by rw [sx.ec.hsc]; exact plB_some h
theorem s_par (sx : SX X W T Φ Gv ca n N sc cm) {is : List Nat} {es : Es} {ts vs : List Expr} {k1 k2 : Nat} {p1 p2 pos : Pos} (hc : cm = true) (h : parB N sc is ts vs = true) (he : cEs T N cm sc es vs = true) :
    PS X (.Assign [.Tuple ts k1 p1] (.Tuple vs k2 p2) pos) (tSt X.K ca W (evS Φ Gv w (.par is es))) := by
  have ndX : X.N.Nodup := by rw [sx.ec.hN]; exact sx.ec.nd
  have hcalm := (sx.ec.calm hc).1
  have hb : X.env.blockKind = .function := by unfold Env.blockKind; rw [sx.kd]; rfl
  unfold parB at h
  split at h
  · rename_i i j x px y py a b
    simp only [Bool.and_eq_true, decide_eq_true_eq] at h
    obtain ⟨⟨⟨⟨⟨h1, h2⟩, hij⟩, h3⟩, h4⟩, h5⟩ := h
    refine PS.imp (ps_par hcalm ndX (e_N sx.ec h1) (e_N sx.ec h2) hij (plX sx h3) (plX sx h4) (snd_Es es X W sc _ sx.ec he).1 (swB_ok hb (by rw [sx.ec.hsc]; exact h5)) rfl) fun D σ H ⟨σd, m, ρ, s, k, h⟩ => ?_
    unfold evS at h
    refine tX.ofX s k h fun ds m1 us ρ1 H1 s1 e1 k1 r1 h => ?_
    unfold parSet at h
    rcases ds with _ | ⟨d1, _ | ⟨d2, _ | ⟨_, _⟩⟩⟩ <;> first | exact h.elim | skip
    simp only [Reps] at r1
    obtain ⟨v, r, rfl, q1, v2, r2, rfl, q2, rfl⟩ := r1
    exact ⟨v, v2, rfl, h _ ρ1 H1 (Ext.refl _ _) k1 ((s1.set i q1).set j q2)⟩
  · rename_i i j l x px y py z pz a b c
    simp only [Bool.and_eq_true, decide_eq_true_eq] at h
    obtain ⟨⟨⟨⟨⟨⟨⟨⟨⟨h1, h2⟩, h3⟩, hij⟩, hil⟩, hjl⟩, h4⟩, h5⟩, h6⟩, h7⟩ := h
    refine PS.imp (ps_par3 hcalm ndX (e_N sx.ec h1) (e_N sx.ec h2) (e_N sx.ec h3) hij hil hjl (plX sx h4) (plX sx h5) (plX sx h6) (snd_Es es X W sc _ sx.ec he).1 (swB_ok hb (by rw [sx.ec.hsc]; exact h7)) rfl) fun D σ H ⟨σd, m, ρ, s, k, h⟩ => ?_
    unfold evS at h
    refine tX.ofX s k h fun ds m1 us ρ1 H1 s1 e1 k1 r1 h => ?_
    unfold parSet at h
    rcases ds with _ | ⟨d1, _ | ⟨d2, _ | ⟨d3, _ | ⟨_, _⟩⟩⟩⟩ <;> first | exact h.elim | skip
    simp only [Reps] at r1
    obtain ⟨v, r, rfl, q1, v2, r2, rfl, q2, v3, r3, rfl, q3, rfl⟩ := r1
    exact ⟨v, v2, v3, rfl, h _ ρ1 H1 (Ext.refl _ _) k1 (((s1.set i q1).set j q2).set l q3)⟩
  · cases h
end G

set_option Elab.async false
set_option linter.all false
set_option maxRecDepth 100000
set_option maxHeartbeats 8000000
/-! G20: super().__init__(..) of a class over ValueError. -/
namespace G
open PySem PySem.Spec PyProof.Rows L2
/-- the written part of a class with such an __init__ -/
structure IniC (P : Program) (K : PySem.W.Frag) (C f cda cc : Addr) : Prop where
  oex : OexC K C
  code : ∃ cl d vs sl file tf, K.lookup cda = some ⟨cl, d, .fields vs, sl⟩ ∧ vs[2]? = some (.str file tf) ∧ ((P.main.file : Str) == file) = true
  cell : ∃ cl d sl, K.lookup cc = some ⟨cl, d, .cell (some (.ref C)), sl⟩
  cls : ∃ cd, PySem.W.clsIn K C = some cd ∧ PySem.W.alongIn K "__init__" ((cd.mro.dropWhile (· != .ref C)).drop 1) = some (some (.builtin "ValueError.__init__"))
  self : PySem.W.mroIn K C (.ref C) = some true
  sub : PySem.W.subIn K (.ref C) (.type "ValueError") = some true
  any : PySem.W.nsIn K PySem.cStatics "thirdparty.any" = some none
  top : (P.main.scope.names.lookup ("super" : Str)).isSome = false
abbrev veMw (x : Addr) : Obj := PySem.W.kxs_mw "ValueError.__init__" x
abbrev exoO (C t1 : Addr) (d : Option Addr) : Obj := { cls := .ref C, dict := d, data := .fields #[.ref t1, .none, .none, .none, .bool false, .none] }
section
variable {X : Cx} {pins : List (Addr × Obj)} {σ : L2.St} {H : Hp} {s : Shared} {a C : Addr}
/-- the bound wrapper called -/
theorem call_ve {A : Around} {E : Value → Shared → Prop} {u : Addr} {rest : List Value} {Q : Value → Shared → Prop} (T : OexC X.K C) (I : Inv X pins σ H s) (e : H a = some (exo a C none)) (hu : s.heap.get? u = some (veMw a)) (hl : rest.length ≤ sizeLine)
    (h : ∀ s', Inv X pins σ H s' → Q .none s') : wpAny (model X.prog X.w) A (call (.ref u) rest) Q E s := by
  obtain ⟨nm, q, N, bs, bm, sn, sub, ab, col, dd, k0, k1, k2, k3, k5, hC, hbm⟩ := T.cls
  obtain ⟨t1, ho⟩ := exo_at I.hok e
  obtain ⟨hp, g, d, t, os⟩ := s
  have hCp : hp.get? C = some (excClassObj nm q C N bs bm true sn sub ab col dd k0 k1 k2 k3 k5 "ValueError.__new__") := I.kIn _ _ hC
  have eu : upd H a (exo a C none) = H := by
    funext b
    by_cases hb : b = a
    · rw [hb, upd_same, e]
    · rw [upd_ne hb]
  refine wpAny_call (codeAny_of_tree ?_)
  show wpAny _ A.in1 (callAny (.ref u) ⟨rest, []⟩) _ _ _
  simp only [callAny]
  refine wpAny_bind (wpAny_load hu ?_)
  simp only [veMw, PySem.W.kxs_mw, show (Value.type "method-wrapper" == Value.type "method" || Value.type "method-wrapper" == Value.type "builtin_function_or_method" || Value.type "method-wrapper" == Value.type "method-wrapper") = true by decide, if_true]
  refine PySem.W.KFB.if_so (by decide) ?_
  refine wpAny_bind (PySem.W.check_bound_init F.excBase_ValueError.toExcCallFacts hCp ho rfl ?_)
  refine wpAny_bind (wpAny_pure (wpAny_pure ?_))
  refine ⟨plainId_quiet F.excBase_ValueError.init.plain _, codeAny_builtin F.excBase_ValueError.initEntry ?_⟩
  refine PySem.W.exc_init_tree (cls := .ref C) (t0 := t1) (dv := none) (c2 := .none) (c3 := .none) (b4 := .bool false) ho hl fun h' k hx _ => ?_
  have J := I.write (t' := t) (x := a) (e := a) (o := exo a C none) (by rw [e]; exact True.intro) (.inl rfl) k ⟨_, hx⟩ (exo_ok hx)
  rw [eu] at J
  exact h _ J
/-- super().__init__(..), its value dropped -/
theorem sup_stmt {fd : FuncData} {body : List Stmt} {oc : Value} {od : Option Addr} {osl : Array (Option Value)} {f cda cc : Addr} {scope : Scope} {qual : Str} {ar : Arg} {es : List Expr} {ta : TA} {p0 p1 p2 p3 p4 : Pos} {pl : Sem Bool} {Qf : Hp → Prop}
    (T : IniC X.prog X.K C f cda cc) (henv : X.env = PySem.W.ksEnv qual scope X.env.locals f (.ref cda) cc) (lk : X.K.lookup f = some ⟨oc, od, .func fd, osl⟩) (hp : (fd.params.posonlyargs ++ fd.params.args).head? = some ar)
    (hks : scope.names.lookup ("super" : Str) = some .globalImplicit) (hkc : scope.names.lookup ("__class__" : Str) = some .free) (hka : scope.names.lookup ar.arg = some .local) (hm : X.mg "super" = none) (h0 : X.N[0]? = some ar.arg) (hσ : σ[0]? = some (some (.ref a)))
    (he : (es = [] ∧ ∀ Q, ta σ H Q → Q [] H) ∨ ∃ e r, es = e :: r ∧ starEach (e :: r) X.env = (false, eval e X.env) :: starEach r X.env ∧ (backTo p3 (starEach r X.env)).any (·.1) = false) (ha : PA X es ta) (hea : H a = some (exo a C none)) (hna : a ∉ X.fs)
    (hkw : eval (.Call (.Attribute (.Call (.Name "super" p0) [] [] p1) "__init__" p2) es [] p3) X.env = (do
      let ov ← attributeBase (.Call (.Name "super" p0) [] [] p1) "__init__" X.env (eval (.Call (.Name "super" p0) [] [] p1) X.env)
      standAt p2.atName
      let (f, first) ← holding [ov] (getMethod ov "__init__" pl)
      callWith p3 f first (backTo p3 (starEach es X.env)) []))
    (I : Inv X pins σ H s) (hq : ta σ H fun ws H1 => ws.length ≤ 1000 ∧ H1 = H ∧ Qf H1) :
    _root_.PySem.wpAt (model X.prog X.w) X.A (.func body X.env) (exec (.Expr (.Call (.Attribute (.Call (.Name "super" p0) [] [] p1) "__init__" p2) es [] p3) p4) X.env) (fun fl s' => fl = .next ∧ Inv X pins σ H s' ∧ Qf H) X.xe s := by
  obtain ⟨ccl, cdd, vs, ccs, file, tf, hcode, hvs, hfile⟩ := T.code
  obtain ⟨cl, cld, csl, hcell⟩ := T.cell
  obtain ⟨cd, hcls, hal⟩ := T.cls
  have kf : ∀ x, X.env.kindOf x = scope.names.lookup x := fun x => by rw [henv]; rfl
  have kk : X.env.scope.kind = .function := I.ok.kind
  obtain ⟨t1, ho⟩ := exo_at I.hok hea
  refine ks_wpAt_Expr_any ?_ I.quiet rfl
  refine ks_wpAt_MethodCall ?_ hkw
  refine ks_wpAt_super_base (f := f) (cc := cda) ((kf _).trans hks) ((kf _).trans hkc) (by decide) (by rw [henv]) (I.kIn _ _ lk) rfl hp (by rw [henv]) (I.kIn _ _ hcode) rfl hvs hfile T.top ?_
  obtain ⟨mb, b1, b2⟩ := I.mod.blt
  refine PySem.W.ks_loadName_global kk ((kf _).trans hks) (Calls.loadGlobal_builtin (by rw [I.ok.glob]; exact I.mod.glob.keeps I.bk) hm (by rw [I.ok.blt]; exact b1.keeps I.bk) ((b2 "super" (by decide)).trans (show bootBuiltins "super" = some (.type "super") by decide +kernel)) ⟨rfl, ?_⟩)
  refine wpAny_loadName_free (c := cc) kk ((kf _).trans hkc) (by rw [henv]; rfl) ⟨_, I.kIn _ _ hcell, rfl⟩ ?_
  obtain ⟨m, hn, hl⟩ := id I.loc
  obtain ⟨u, ru, lu⟩ := hl 0 ar.arg (.ref a) h0 hσ (.inl ((kf _).trans hka))
  have lu' : m ar.arg = some u := by
    rcases lu with ⟨_, z⟩ | ⟨z, _⟩
    · exact z
    · rw [kf, hka] at z; rcases z with z | z <;> cases z
  obtain rfl : u = Value.ref a := ru
  refine wpAny_loadName_local kk ((kf _).trans hka) hn lu' ?_
  obtain ⟨oD, hD1, hD2⟩ : ∃ oD, s.heap.get? C = some oD ∧ oD.data = .cls cd := by
    unfold PySem.W.clsIn at hcls
    split at hcls
    · rename_i c d cd' sl ho
      cases hcls
      exact ⟨_, I.kIn _ _ ho, rfl⟩
    · cases hcls
  refine ks_wpAny_isType_cls hD1 hD2 ⟨rfl, ?_⟩
  refine ks_wpAny_call_super hD1 hD2 ho rfl (fun c z => by cases z) (PySem.W.looks_mroIn I.kIn T.self) (fun h' e k => ?_)
  have I1 : Inv X pins σ H { s with heap := h' } := I.kept (t' := s.toks) k
  have Ia : PySem.W.InstAt h' a (exoO C t1 none) C none := ⟨k _ _ ho, rfl, rfl, trivial⟩
  have hne : a ≠ C := fun z => by
    have q := I.kIn C
    rw [z] at ho
    rw [ho] at hD1
    cases hD1
    cases hD2
  refine PySem.W.kxs_getMethod PySem.W.kxs_ValueError e (PySem.W.looks_opaque I1.kIn T.any) (l₀ := cd.mro) (fun A Q E s k q => wpAny_bind ((PySem.W.looks_clsIn I1.kIn hcls) A _ E s k (wpAny_pure q))) rfl I1.kIn hal (Ia.type.andThen (PySem.W.looks_subIn I1.kIn T.sub)) hne (by decide) ?_
  have I2 : Inv X pins σ H ⟨h'.push (veMw a), s.gens, s.drawn, s.toks + 1, s.os⟩ := I1.kept (t' := s.toks + 1) fun b o e => Heap.get?_push_of_some _ e
  have hu0 : (h'.push (veMw a)).get? h'.objs.size = some (veMw a) := Heap.get?_push_at rfl rfl
  have hfr : H h'.objs.size = none := I1.hok.fresh (Nat.le_refl _)
  have fin : ∀ {us : List Value} {ws : List V} {pins' : List (Addr × Obj)} {s1 : Shared}, Inv X pins' σ H s1 → (h'.objs.size, veMw a) ∈ X.pn ++ pins' → (∀ p ∈ pins, p ∈ pins') → Vals ws us → ws.length ≤ 1000 → Qf H →
      wpAny (model X.prog X.w) X.A (call (.ref h'.objs.size) us) (fun r s2 => Flow.next = .next ∧ Inv X pins σ H s2 ∧ Qf H) X.xe s1 := fun {us ws pins' s1} J hmem hsub rv hl q => by
    refine call_ve T.oex J hea (J.pin _ hmem).1 (by rw [← rv.length, sizeLine_eq]; omega) fun s' J' => ⟨rfl, J'.pins_of fun p hp => J'.pin p (List.mem_append_right _ (hsub p hp)), q⟩
  have I3 : Inv X ((h'.objs.size, veMw a) :: pins) σ H ⟨h'.push (veMw a), s.gens, s.drawn, s.toks + 1, s.os⟩ := I2.pins_of fun p hp => by
    rcases List.mem_cons.mp hp with rfl | hp
    · exact ⟨hu0, hfr, fun z => absurd I1.lt (by rw [← z]; exact Nat.lt_irrefl _), I1.nofs (Nat.le_refl _), fun v z => nomatch z⟩
    · exact I2.pin p (List.mem_append_right _ hp)
  rcases he with ⟨rfl, hnil⟩ | ⟨e0, r0, rfl, hst, hpl⟩
  · obtain ⟨z1, z2, z3⟩ := hnil _ hq
    refine PySem.W.kxs_callWith (i := "ValueError.__init__") (x := a) rfl (evalArgs_empty ⟨hu0, ?_⟩)
    exact fin I3 (List.mem_append_right _ List.mem_cons_self) (fun p hp => List.mem_cons_of_mem _ hp) .nil z1 z3
  · have hh := ha.run p3 _ _ _ _ _ I3 hq
    rw [hst] at hh ⊢
    refine PySem.W.kxs_callWith (i := "ValueError.__init__") (x := a) (by show (false || (backTo p3 (starEach r0 X.env)).any (·.1)) = false; rw [hpl]; rfl) ?_
    refine Calls.evalArgs_plain (wpAny_mono hh (fun us s1 ⟨ws, H1, J, rv, z1, z2, z3⟩ => ?_) fun _ _ z => z)
    subst z2
    exact ⟨(J.pin (h'.objs.size, veMw a) (List.mem_append_right _ List.mem_cons_self)).1, fin J (List.mem_append_right _ List.mem_cons_self) (fun p hp => List.mem_cons_of_mem _ hp) rv z1 z3⟩
end

theorem lookup_zip : ∀ {N : List Str} {us : List Value} {i : Nat} {y : Str} {u : Value}, N.Nodup → N[i]? = some y → us[i]? = some u → (N.zip us).lookup y = some u
  | [], _, _, _, _, _, h, _ => by simp at h
  | _ :: _, [], _, _, _, _, _, h => by simp at h
  | x :: N, v :: us, 0, y, u, _, h1, h2 => by
    simp at h1 h2
    subst h1 h2
    rw [List.zip_cons_cons, List.lookup_cons, beq_self_eq_true]
  | x :: N, v :: us, i + 1, y, u, nd, h1, h2 => by
    have h1' : N[i]? = some y := by simpa using h1
    have hne : y ≠ x := fun z => (List.nodup_cons.mp nd).1 (by rw [← z]; exact List.mem_of_getElem? h1')
    rw [List.zip_cons_cons, List.lookup_cons, show (y == x) = false by simpa using hne]
    exact lookup_zip (List.nodup_cons.mp nd).2 h1' (by simpa using h2)
/-- the context of such an __init__ -/
def supX (CX : CXT) (P : Program) (w : World) (K : PySem.W.Frag) (mg : Str → Option Value) (base : Heap) (N : List Str) (qual : Str) (scope : Scope) (f cda cc : Addr) (A : Around) (outer : List Env) (s : Shared) (H : Hp) (E : XK) : Cx where
  prog := P
  w := w
  K := K
  mg := mg
  base := base
  A := A.deeper (PySem.W.ksEnv qual scope s.heap.objs.size f (.ref cda) cc)
  N := N
  s_0 := s
  H_0 := H
  env := PySem.W.ksEnv qual scope s.heap.objs.size f (.ref cda) cc
  outer := outer
  stack := PySem.W.ksEnv qual scope s.heap.objs.size f (.ref cda) cc :: outer
  ex := []
  calm := true
  fn := fun _ => false
  pn := []
  xe := fun e s' => wpAny (model P w) (A.deeper (PySem.W.ksEnv qual scope s.heap.objs.size f (.ref cda) cc)) (leaving (PySem.W.ksEnv qual scope s.heap.objs.size f (.ref cda) cc) e) (fun _ s'' => CX outer H s E e s'') (fun e' s'' => CX outer H s E e' s'') s'
theorem sup_inv {CX : CXT} {P : Program} {w : World} {K : PySem.W.Frag} {mg : Str → Option Value} {base : Heap} {N : List Str} {qual : Str} {scope : Scope} {f cda cc C : Addr} {A : Around} {outer : List Env} {s : Shared} {H : Hp} {E : XK} {us : List Value} {vs : List V} {h₀ : Heap} {tk : Nat}
    (T : IniC P K C f cda cc) (hk : scope.kind = .function) (hfree : scope.names.all (fun p => (p.2 != .cell && p.2 != .free) || p.1 == ("__class__" : Str)) = true) (hd : A.handled = none) (e0 : Env0 P w K mg base A outer s H) (r : Vals vs us) (hN : N.length = vs.length) (nd : N.Nodup)
    (hloc : ∀ x ∈ N, scope.names.lookup x = some .local) (hns : h₀.Ns s.heap.objs.size (fun x => (N.zip us).reverse.lookup x)) (k : ∀ b o, s.heap.get? b = some o → h₀.get? b = some o) :
    Inv (supX CX P w K mg base N qual scope f cda cc A outer s H E) [] (vs.map some) H { s with heap := h₀, toks := tk } := by
  obtain ⟨cl, cld, csl, hcell⟩ := T.cell
  have noA : ∀ b : Addr, b ∉ (supX CX P w K mg base N qual scope f cda cc A outer s H E).ex := fun b z => absurd (show b ∈ ([] : List Addr) from z) (by simp)
  have kc : base.get? cc = some ⟨cl, cld, .cell (some (.ref C)), csl⟩ := e0.mod.kin _ _ hcell
  have cs : ∀ x c, ([(("__class__" : Str), cc)] : List (Str × Addr)).lookup x = some c → x = "__class__" ∧ c = cc := fun x c z => by
    rw [List.lookup_cons] at z
    split at z
    · rename_i q
      cases z
      exact ⟨eq_of_beq q, rfl⟩
    · cases z
  have hl := hns
  refine ⟨⟨e0.mod, hk, rfl, rfl, Nat.le_refl _, fun y z c h1 h2 => ?_, fun y hy => ?_, fun y c z _ => absurd (show false = true from z) Bool.false_ne_true, fun _ => hd, Around.frames_deeper e0.frames, .inr ⟨rfl, rfl⟩, fun b z => absurd z (noA b), e0.bs, e0.bsz, fun b _ _ => noA b, fun b z => absurd z (noA b), e0.funs, e0.frf⟩,
    rfl, e0.bare, Un.kept k, ⟨_, hl, fun i y v h1 h2 h3 => ?_⟩, fun y c h => ⟨some (.ref C), ?_⟩, e0.hok.fresh (Nat.le_refl _), fun y c h => ?_, fun p hp => absurd (show p ∈ ([] : List (Addr × Obj)) from hp) (by simp), e0.hok.kept k, ?_⟩
  · exact ((cs y c h1).1).trans ((cs z c h2).1).symm
  · have hy : scope.names.lookup y = some .cell ∨ scope.names.lookup y = some .free := hy
    obtain ⟨kd, hm, hkd⟩ : ∃ kd, (y, kd) ∈ scope.names ∧ (kd = .cell ∨ kd = .free) := by
      rcases hy with hy | hy
      · exact ⟨_, PySem.mem_of_lookup hy, .inl rfl⟩
      · exact ⟨_, PySem.mem_of_lookup hy, .inr rfl⟩
    have q := List.all_eq_true.mp hfree _ hm
    have e : y = "__class__" := by
      rcases hkd with rfl | rfl <;> simpa using q
    exact ⟨cc, by rw [e]; rfl⟩
  · obtain ⟨hi, e2⟩ : ∃ h : i < vs.length, vs[i] = v := by
      have h2' : (vs.map some)[i]? = some (some v) := h2
      rw [List.getElem?_map] at h2'
      cases q : vs[i]? with
      | none => rw [q] at h2'; cases h2'
      | some z =>
        rw [q] at h2'
        cases h2'
        exact List.getElem?_eq_some_iff.mp q
    obtain ⟨u, hu, rv⟩ := r.get (show vs[i]? = some v by rw [List.getElem?_eq_getElem hi, e2])
    refine ⟨u, rv, .inl ⟨hloc y (List.mem_of_getElem? h1), ?_⟩⟩
    have hlen : N.length = us.length := by rw [hN]; exact r.length
    exact (lookup_reverse_of_nodup _ (by rw [List.map_fst_zip (Nat.le_of_eq hlen)]; exact nd) y).trans (lookup_zip nd h1 hu)
  · obtain ⟨_, rfl⟩ := cs y c h
    exact ⟨_, k _ _ (e0.bs _ _ kc).1, rfl⟩
  · obtain ⟨_, rfl⟩ := cs y c h
    exact (e0.bs _ _ kc).2
  · show (vs.map some).length = N.length
    rw [List.length_map, hN]
end G

set_option Elab.async false
set_option linter.all false
set_option maxRecDepth 100000
set_option maxHeartbeats 8000000
/-! G21: the two kinds of __init__, and what is made by them. -/
namespace G
open PySem PySem.Spec PyProof.Rows L2
def supE (es : List Expr) (p0 p1 p2 p3 : Pos) : Expr := .Call (.Attribute (.Call (.Name "super" p0) [] [] p1) "__init__" p2) es [] p3
/-- the scope of such an __init__ -/
def iniB (sc : Scope) (N : List Str) : Bool := decide (sc.kind = .function) && !sc.isCoroutine && !sc.isGenerator && sc.names.all (fun p => (p.2 != .cell && p.2 != .free) || p.1 == ("__class__" : Str)) && sc.names.all (fun p => p.2 != .cell) &&
  N.all (fun x => plB sc x) && decide (sc.names.lookup ("super" : Str) = some .globalImplicit) && decide (sc.names.lookup ("__class__" : Str) = some .free)
structure IniB (sc : Scope) (N : List Str) : Prop where
  k : sc.kind = .function
  co : sc.isCoroutine = false
  ge : sc.isGenerator = false
  fr : sc.names.all (fun p => (p.2 != .cell && p.2 != .free) || p.1 == ("__class__" : Str)) = true
  ce : ∀ x ∈ sc.names, x.2 ≠ .cell
  lo : ∀ x ∈ N, sc.names.lookup x = some .local
  su : sc.names.lookup ("super" : Str) = some .globalImplicit
  cl : sc.names.lookup ("__class__" : Str) = some .free
theorem iniB_ok {sc : Scope} {N : List Str} (h : iniB sc N = true) : IniB sc N := by
  unfold iniB at h
  simp only [Bool.and_eq_true, decide_eq_true_eq, Bool.not_eq_true'] at h
  obtain ⟨⟨⟨⟨⟨⟨⟨h1, h2⟩, h3⟩, h4⟩, h5⟩, h6⟩, h7⟩, h8⟩ := h
  exact ⟨h1, h2, h3, h4, fun x hx => by simpa using List.all_eq_true.mp h5 x hx, fun x hx => plB_some (List.all_eq_true.mp h6 x hx), h7, h8⟩
theorem sup_kw {es : List Expr} {p0 p1 p2 p3 : Pos} (hl : (p2.endLine == p3.line) = true) (env : Env) (hf : methodCallForm (es.length + ([] : List Keyword).length) (backTo p3 (starEach es env)) [] = true) :
    eval (supE es p0 p1 p2 p3) env = (do
      let ov ← attributeBase (.Call (.Name "super" p0) [] [] p1) "__init__" env (eval (.Call (.Name "super" p0) [] [] p1) env)
      standAt p2.atName
      let (f, first) ← holding [ov] (getMethod ov "__init__" (do return (← importBound (.Call (.Name "super" p0) [] [] p1) env).getD true))
      callWith p3 f first (backTo p3 (starEach es env)) []) := by
  show (do
    let ov ← attributeBase (.Call (.Name "super" p0) [] [] p1) "__init__" env (eval (.Call (.Name "super" p0) [] [] p1) env)
    standAt p2.atName
    methodCall (.Call (.Name "super" p0) [] [] p1) "__init__" p2 p3 env ov (es.length + ([] : List Keyword).length) (backTo p3 (starEach es env)) []) = _
  unfold methodCall methodCallPos calleeOf
  rw [hf, hl]
  rfl
def sp0 (C : Addr) : Sp := fun vs H Q _ => ∃ a, vs = [.ref a] ∧ H a = some (exo a C none) ∧ Q .non H
def sp1 (C : Addr) : Sp := fun vs H Q _ => ∃ a v, vs = [.ref a, v] ∧ H a = some (exo a C none) ∧ ∀ dx, H dx = none → dx ≠ a → Q .non (upd (upd H dx (exd dx [("number", v)])) a (exo a C (some dx)))
theorem nofs {P : Program} {w : World} {H : Hp} {h : Heap} {K : PySem.W.Frag} {mg : Str → Option Value} {base : Heap} {A : Around} {outer : List Env} {s : Shared} (e0 : Env0 P w K mg base A outer s H) {a : Addr} {o : HO} (h : H a = some o) : a ∉ frs outer := fun z => by
  rw [e0.frf a z] at h; cases h
section
variable {P : Program} {w : World} {K : PySem.W.Frag} {mg : Str → Option Value} {base : Heap} {CX : CXT} {k : Nat} {C f cda cc : Addr} {name qual : Str} {params : Arguments} {scope : Scope} {dV kV doc pm ct oc : Value} {an od : Option Addr} {osl : Array (Option Value)} {ar : Arg}
theorem init0_fn {p0 p1 p2 p3 p4 : Pos} (T : IniC P K C f cda cc) (hl : (p2.endLine == p3.line) = true)
    (lk : K.lookup f = some ⟨oc, od, .func (PySem.W.ksFn name qual params [.Expr (supE [] p0 p1 p2 p3) p4] scope dV kV doc pm an (.ref cda) ct cc), osl⟩)
    (hcd : PySem.W.codeIn K (.ref cda) qual = true) (hp : (params.posonlyargs ++ params.args).head? = some ar) (har : ar.arg = "self") (hsc : iniB scope ["self"] = true) (hm : mg "super" = none) :
    FnOk P w K mg base CX (k + 1) f (PySem.W.ksFn name qual params [.Expr (supE [] p0 p1 p2 p3) p4] scope dV kV doc pm an (.ref cda) ct cc) ["self"] (sp0 C) := by
  have S := iniB_ok hsc
  refine ⟨fun vs H Q E ⟨a, e, _⟩ => by rw [e]; rfl, fun A outer s H args us vs Q E hr e0 hb r ⟨a, ev, hea, hq⟩ => ?_⟩
  subst ev
  have KX : K.In s.heap := e0.mod.kin.keeps fun b o e => (e0.bs b o e).1
  have lim : s.heap.NoLimit := e0.mod.nolimit.keeps fun b o e => (e0.bs b o e).1
  refine ks_codeAny_call_defAt (fd := PySem.W.ksFn name qual params [.Expr (supE [] p0 p1 p2 p3) p4] scope dV kV doc pm an (.ref cda) ct cc) (binds := ([("self" : Str)] : List Str).zip us) hr.depth (KX _ _ lk) rfl lim (PySem.W.codeRec_of KX hcd) rfl hb S.ce
    (fun x hx => S.lo x.1 (List.of_mem_zip hx).1) (fun h₀ hns hk => ?_) S.co S.ge S.k
  have I := sup_inv (CX := CX) (E := E) (w := w) (qual := qual) (tk := s.toks + (([("self" : Str)] : List Str).zip us).length) T S.k S.fr hr.hd e0 r (N := ["self"]) rfl (by simp) S.lo hns hk
  have St := sup_stmt (X := supX CX P w K mg base ["self"] qual scope f cda cc A outer s H E) (scope := scope) (qual := qual) (body := [.Expr (supE [] p0 p1 p2 p3) p4]) (es := []) (ta := tNil) (p0 := p0) (p1 := p1) (p2 := p2) (p3 := p3) (p4 := p4) (Qf := fun _ => True)
    T rfl lk hp S.su S.cl (by rw [har]; exact S.lo _ (by simp)) hm (by rw [har]; rfl) rfl (.inl ⟨rfl, fun Q z => z⟩) pa_nil hea (nofs (h := s.heap) e0 hea) (sup_kw hl _ rfl) I ⟨by simp, rfl, trivial⟩
  refine ks_wpAt_mono (ks_wpAt_execs_cons (ks_wpAt_mono St (fun fl s' ⟨e, J, _⟩ => ?_) fun _ _ z => z)) (fun _ _ z => z) fun _ _ z => z
  subst e
  refine wpAt_of_wpAny (wpAny_execs_nil ?_)
  exact ⟨.non, H, J.os, J.bare, J.base, J.hok, rfl, hq⟩
theorem init1_fn {p0 p1 p2 p3 p4 q1 q2 q3 q4 q5 : Pos} (T : IniC P K C f cda cc) (hl : (p2.endLine == p3.line) = true)
    (lk : K.lookup f = some ⟨oc, od, .func (PySem.W.ksFn name qual params [.Expr (supE [.Name "number" q1] p0 p1 p2 p3) p4, .Assign [.Attribute (.Name "self" q2) "number" q3] (.Name "number" q4) q5] scope dV kV doc pm an (.ref cda) ct cc), osl⟩)
    (hcd : PySem.W.codeIn K (.ref cda) qual = true) (hp : (params.posonlyargs ++ params.args).head? = some ar) (har : ar.arg = "self") (hsc : iniB scope ["self", "number"] = true) (hm : mg "super" = none) (hno : PySem.W.findIn K (.ref C) "number" = some none) :
    FnOk P w K mg base CX (k + 1) f (PySem.W.ksFn name qual params [.Expr (supE [.Name "number" q1] p0 p1 p2 p3) p4, .Assign [.Attribute (.Name "self" q2) "number" q3] (.Name "number" q4) q5] scope dV kV doc pm an (.ref cda) ct cc) ["self", "number"] (sp1 C) := by
  have S := iniB_ok hsc
  refine ⟨fun vs H Q E ⟨a, v, e, _⟩ => by rw [e]; rfl, fun A outer s H args us vs Q E hr e0 hb r ⟨a, v, ev, hea, hq⟩ => ?_⟩
  subst ev
  have KX : K.In s.heap := e0.mod.kin.keeps fun b o e => (e0.bs b o e).1
  have lim : s.heap.NoLimit := e0.mod.nolimit.keeps fun b o e => (e0.bs b o e).1
  refine ks_codeAny_call_defAt (fd := PySem.W.ksFn name qual params [.Expr (supE [.Name "number" q1] p0 p1 p2 p3) p4, .Assign [.Attribute (.Name "self" q2) "number" q3] (.Name "number" q4) q5] scope dV kV doc pm an (.ref cda) ct cc) (binds := ([("self" : Str), "number"] : List Str).zip us) hr.depth (KX _ _ lk) rfl lim (PySem.W.codeRec_of KX hcd) rfl hb S.ce
    (fun x hx => S.lo x.1 (List.of_mem_zip hx).1) (fun h₀ hns hk => ?_) S.co S.ge S.k
  have I := sup_inv (CX := CX) (E := E) (w := w) (qual := qual) (tk := s.toks + (([("self" : Str), "number"] : List Str).zip us).length) T S.k S.fr hr.hd e0 r (N := ["self", "number"]) rfl (by decide) S.lo hns hk
  let X := supX CX P w K mg base ["self", "number"] qual scope f cda cc A outer s H E
  have v0 : Vis X.env.scope "self" := .inl (S.lo _ (by simp))
  have v1 : Vis X.env.scope "number" := .inl (S.lo _ (by simp))
  have P1 : ∀ q : Pos, PE X (.Name "number" q) (tVar 1) := fun q => pe_var rfl v1
  have P0 : PE X (.Name "self" q2) (tVar 0) := pe_var rfl v0
  have St := sup_stmt (X := X) (scope := scope) (qual := qual) (body := [.Expr (supE [.Name "number" q1] p0 p1 p2 p3) p4, .Assign [.Attribute (.Name "self" q2) "number" q3] (.Name "number" q4) q5]) (es := [.Name "number" q1]) (ta := tCons (tVar 1) tNil) (p0 := p0) (p1 := p1) (p2 := p2) (p3 := p3) (p4 := p4) (Qf := fun _ => True)
    T rfl lk hp S.su S.cl (by rw [har]; exact S.lo _ (by simp)) hm (by rw [har]; rfl) rfl (.inr ⟨_, _, rfl, rfl, rfl⟩) (pa_cons (P1 q1) pa_nil) hea (nofs (h := s.heap) e0 hea) (sup_kw hl _ rfl) I ⟨v, rfl, by simp, rfl, trivial⟩
  refine ks_wpAt_mono (ks_wpAt_execs_cons (ks_wpAt_mono St (fun fl s' ⟨e, J, _⟩ => ?_) fun _ _ z => z)) (fun _ _ z => z) fun _ _ z => z
  subst e
  have st2 : PSs X [.Assign [.Attribute (.Name "self" q2) "number" q3] (.Name "number" q4) q5] (tOst K "number" (tVar 0) (tVar 1)) := pss_one (ps_ost P0 (P1 q4))
  refine wpAt_of_wpAny (wpAny_mono (st2.run [] s' _ H { nx := fun _ H' => Q .non H', rt := Q } J ⟨v, rfl, .ref a, rfl, a, C, rfl, T.oex, hno, .inl ⟨hea, hq⟩⟩) (fun fl s2 hs => ?_) fun _ _ z => z)
  cases fl with
  | ret u =>
    obtain ⟨v, σ', H', J, rv, q⟩ := hs
    exact ⟨v, H', J.os, J.bare, J.base, J.hok, rv, q⟩
  | next =>
    obtain ⟨σ', H', J, q⟩ := hs
    exact ⟨.non, H', J.os, J.bare, J.base, J.hok, rfl, q⟩
  | brk =>
    obtain ⟨_, _, _, q⟩ := hs
    exact q.elim
  | cont =>
    obtain ⟨_, _, _, q⟩ := hs
    exact q.elim
end
end G

set_option Elab.async false
set_option linter.all false
set_option maxRecDepth 100000
set_option maxHeartbeats 8000000
/-! G22: exceptions made and raised. -/
namespace G
open PySem PySem.Spec PyProof.Rows L2
section
variable {X : Cx}
/-- the end of C(): the exception is let go -/
theorem mk_end00 {pins : List (Addr × Obj)} {σ : L2.St} {H1 : Hp} {Q : XK} {hp hp2 h2 : Heap} {g1 g2 : Array GenState} {d1 d2 : Drawn} {t1 t2 : Nat} {os1 os2 : OsState} {a C : Addr} (T : Raises X (.ref C)) (I1 : Inv X pins σ H1 ⟨hp, g1, d1, t1, os1⟩)
    (ha : hp.objs.size ≤ a) (k : ∀ b o, hp.get? b = some o → hp2.get? b = some o) (un : Un (frs X.stack) [] (upd H1 a (exo a C none)) (upd H1 a (exo a C none)) hp2 h2) (hok : HOk X.prog X.w (upd H1 a (exo a C none)) h2) (ho : os2 = os1) (hb : AllBare g2)
    (q : Q (.ref C) none H1) : MkP X pins σ Q (.ref a) ⟨h2, g2, d2, t2, os2⟩ := by
  obtain ⟨t0, hoe⟩ := exo_at hok (show upd H1 a (exo a C none) a = some (exo a C none) from upd_same)
  have hn : H1 a = none := I1.hok.fresh ha
  obtain ⟨G, g1', g2'⟩ := restrict h2 fun b => decide (b ≠ a)
  have gk : ∀ b, b ≠ a → G.get? b = h2.get? b := fun b hb => g1' b (decide_eq_true hb)
  have ge : G.get? a = none := g2' a (by simp)
  have nha : ∀ {b : Addr} {o : Obj}, hp.get? b = some o → b ≠ a := fun {b o} z => Nat.ne_of_lt (Nat.lt_of_lt_of_le (Heap.lt_size z) ha)
  have up : ∀ {b : Addr}, b ≠ a → H1 b = none → upd H1 a (exo a C none) b = none := fun {b} hb n => by rw [upd_ne hb]; exact n
  have U : Un (frs X.stack) [] H1 H1 hp G := {
    keep := fun b o z n hf hx => by
      rw [gk b (nha z)]
      exact un.keep b o (k b o z) (up (nha z) n) hf hx
    slot := fun b o z n hf hx => by
      rw [gk b (nha z)]
      exact un.slot b o (k b o z) (up (nha z) n) hf hx
    free := fun b o z n hx => n
    there := fun b o z hx => by
      rw [gk b (nha z)]
      exact un.there b o (k b o z) hx
    tups := fun b xs z => z
    frzs := fun b o v z => z
    tbls := fun b ps z => ⟨#[], by rw [z]; simp⟩ }
  have hok3 : HOk X.prog X.w H1 G := fun b o z => by
    have hba : b ≠ a := ne_of_none z hn
    have ne : ∀ {c : Addr} {u : HO}, upd H1 a (exo a C none) c = some u → exo a C none ≠ u → c ≠ a := fun {c u} hc d e => by
      rw [e, upd_same] at hc
      exact d (Option.some.inj hc)
    exact (hok b o (by rw [upd_ne hba]; exact z)).stay (fun c v hc y => by
        have hca : c ≠ a := by
          rcases hc with hc | hc
          · rw [hc]; exact hba
          · exact ne hc exo_own
        rw [gk c hca]
        exact y)
      (fun c hc => by rw [upd_ne (ne hc exo_own)] at hc; exact hc) (fun c xs hc => by rw [upd_ne (ne hc exo_tup)] at hc; exact hc)
  have J : Inv X pins σ H1 ⟨G, g2, d2, t2, os2⟩ := I1.call' (ch := []) ho U hok3 hb (fun b z => absurd z (by simp))
  refine ⟨a, _, _, ⟨G, g2, d2, t2, os2⟩, _, .ref C, none, rfl, J, fun b o z => ?_, ge, hoe, ⟨rfl, rfl⟩, rfl, rfl, hn, rfl, hb, T, q⟩
  by_cases hba : b = a
  · rw [hba, ge] at z; cases z
  · exact (gk b hba).symm.trans z
theorem pmk0 {x : Str} {C fI : Addr} {k : Nat} {fd : FuncData} {p pos : Pos} (T : OexC X.K C) (iC : PySem.W.findIn X.K (.ref C) "__init__" = some (some (.ref fI))) (tI : PySem.W.typeIn X.K (.ref fI) = some (.type "function"))
    (F1 : FnOk X.prog X.w X.K X.mg X.base (L2.CX X.prog X.w) k fI fd ["self"] (sp0 C)) (hr : Room (k + 1) X.A) (hb : Binds X.K fd ["self"] []) (hx : Passes (L2.CX X.prog X.w) X (fun _ _ _ => False)) (hg : Gl X x) (hm : X.mg x = some (.ref C))
    (hdb : (x == ("__debug__" : Str)) = false) : PMk X (.Call (.Name x p) [] [] pos) (fun σ H Q => Q (.ref C) none H) := by
  intro pins s σ H Q I h
  obtain ⟨nm, q, N, bs, bm, sn, sub, ab, col, dd, k0, k1, k2, k3, k5, hC, hbm⟩ := T.cls
  refine wpAny_Call_Name_kw (ld_glob I hg hm ?_ hdb)
  refine PySem.W.callWith_K0 I.kIn T.kC ?_
  show wpAny _ _ (call (.ref C) []) _ _ _
  obtain ⟨hp, g, dr, tk, os⟩ := s
  have hsz : hp.objs.size ≤ hp.objs.size + 1 := Nat.le_succ _
  have hn : H (hp.objs.size + 1) = none := I.hok.fresh hsz
  have kk : ∀ b o, hp.get? b = some o → ((hp.push (PySem.W.kdv_tup [])).push (PySem.HandSPX.excO C hp.objs.size)).get? b = some o := fun b o e => Heap.get?_push_of_some _ (Heap.get?_push_of_some _ e)
  have hget : ((hp.push (PySem.W.kdv_tup [])).push (PySem.HandSPX.excO C hp.objs.size)).get? (hp.objs.size + 1) = some (PySem.HandSPX.excO C hp.objs.size) := by heap_get
  have I2 : Inv X pins σ (upd H (hp.objs.size + 1) (exo (hp.objs.size + 1) C none)) ⟨(hp.push (PySem.W.kdv_tup [])).push (PySem.HandSPX.excO C hp.objs.size), g, dr, tk, os⟩ :=
    I.laid (t' := tk) (a := hp.objs.size + 1) (o := exo (hp.objs.size + 1) C none) (h' := (hp.push (PySem.W.kdv_tup [])).push (PySem.HandSPX.excO C hp.objs.size)) kk hsz (exo_ok hget)
  have r2 : Vals [V.ref (hp.objs.size + 1)] [Value.ref (hp.objs.size + 1)] := .cons rfl .nil
  let Hn := upd H (hp.objs.size + 1) (exo (hp.objs.size + 1) C none)
  refine wpAny_call (PySem.HandSPX.call_own F.excBase_ValueError (fun Y => PySem.HandSPX.refsVE_contains Y bm hbm) (I.kIn _ _ hC) (PySem.W.looks_findIn I.kIn iC) (fun self => PySem.W.bind_fn I.kIn self tI) (by rw [sizeLine_eq]; exact Nat.zero_le _)
    (codeAny_mono (F1.run _ X.stack _ _ ⟨[Value.ref (hp.objs.size + 1)], []⟩ [Value.ref (hp.objs.size + 1)] _ (fun v H2 => v = .non ∧ H2 = Hn) (fun _ _ _ => False) (hr.make C [] []) (I2.env0.make C [] []) (hb _ [Value.ref (hp.objs.size + 1)] I2.kIn rfl) r2
      ⟨_, rfl, upd_same, rfl, rfl⟩) fun r s' hq' => ?_))
  cases r with
  | error er => exact hx pins σ _ _ er s' I2 hq'
  | ok fl =>
    cases fl with
    | ret u =>
      obtain ⟨v, H2, os2, bare2, un2, hok2, rv, ev, e2⟩ := hq'
      subst ev e2
      obtain ⟨h2, g2, d2, t2, os'⟩ := s'
      exact ⟨rv, mk_end00 (raises_own T.exC T.tyC) I hsz kk un2 hok2 os2 bare2 h⟩
    | next => exact False.elim hq'
    | brk => exact False.elim hq'
    | cont => exact False.elim hq'
end
/-- a class of the text: its name, its kind, what the written part says -/
structure ClF (P : Program) (w : World) (K : PySem.W.Frag) (mg : Str → Option Value) (base : Heap) (x : Str) (ar : Nat) (C : Addr) : Prop where
  mgc : mg x = some (.ref C)
  nm : okN x = true
  oex : OexC K C
  fld : ar = 1 → XfC K C ∧ PySem.W.findIn K (.ref C) "number" = some none
  ini : ∃ fI fd, PySem.W.findIn K (.ref C) "__init__" = some (some (.ref fI)) ∧ PySem.W.typeIn K (.ref fI) = some (.type "function") ∧
    ((ar = 0 ∧ Binds K fd ["self"] [] ∧ FnOk P w K mg base (L2.CX P w) 1 fI fd ["self"] (sp0 C)) ∨ (ar = 1 ∧ Binds K fd ["self", "number"] [] ∧ FnOk P w K mg base (L2.CX P w) 1 fI fd ["self", "number"] (sp1 C)))
structure ClsF (P : Program) (w : World) (K : PySem.W.Frag) (mg : Str → Option Value) (base : Heap) (T : Tab) (ca : Nat → Addr) : Prop where
  cl : ∀ c x ar, T.cs[c]? = some (x, ar) → ClF P w K mg base x ar (ca c)
  exm : ∀ c c', c < T.cs.length → c' < T.cs.length → PySem.W.exmOne K (.ref (ca c)) (.ref (ca c')) = some (decide (c = c'))
variable {X : Cx} {W : WX} {T : Tab} {Φ : Fns} {Gv : List D} {ca : Nat → Addr} {n : Nat} {N : List Str} {sc : Scope} {cm : Bool} {w : Nat}
theorem s_rse0 (ec : EC X W T Φ Gv ca n N sc cm) (cf : ClsF X.prog X.w X.K X.mg X.base T ca) (hn : 2 ≤ n) {c : Nat} {x : Str} {p p2 pos : Pos} (hc : cm = true) (hx : clB T c x 0 = true) (hg : glB sc x = true) :
    PS X (.Raise (some (.Call (.Name x p) [] [] p2)) none pos) (tSt X.K ca W (evS Φ Gv w (.rse c .nil))) := by
  have C := cf.cl c x 0 (clB_ok hx)
  obtain ⟨fI, fd, i1, i2, i3⟩ := C.ini
  rcases i3 with ⟨_, hb, F⟩ | ⟨z, _⟩
  · have hcalm := ec.calm hc
    refine PS.imp (ps_raise hcalm.1 ec.takes (pmk0 C.oex i1 i2 F (hcalm.2.mono hn) hb (passes_call ec.takes fun _ _ _ _ z => z.elim) (e_gl ec hg) C.mgc (okN1 C.nm).1)) fun D σ H ⟨σd, m, ρ, s, k, h⟩ => ?_
    unfold evS evEs at h
    exact h _ _ σ ρ H (Ext.refl _ _) k s ⟨rfl, trivial⟩
  · cases z
theorem s_rse1 (ec : EC X W T Φ Gv ca n N sc cm) (cf : ClsF X.prog X.w X.K X.mg X.base T ca) (hn : 2 ≤ n) {c : Nat} {x : Str} {a : E} {a' : Expr} {p p2 pos : Pos} (hc : cm = true) (hx : clB T c x 1 = true) (hg : glB sc x = true)
    (ha : cE T N cm sc a a' = true) (hst : noStar a' = true) : PS X (.Raise (some (.Call (.Name x p) [a'] [] p2)) none pos) (tSt X.K ca W (evS Φ Gv w (.rse c (.cons a .nil)))) := by
  have C := cf.cl c x 1 (clB_ok hx)
  obtain ⟨fI, fd, i1, i2, i3⟩ := C.ini
  rcases i3 with ⟨z, _⟩ | ⟨_, hb, F⟩
  · cases z
  · have hcalm := ec.calm hc
    have P := (snd_E a X W sc _ ec ha).1
    have PAr : PA X [a'] (tCons (tD X.K ca W (evE Φ Gv a)) tNil) := pa_cons P pa_nil (star_cons hst [] X.env)
    refine PS.imp (ps_raise hcalm.1 ec.takes (pmk_oex C.oex i1 i2 F (hcalm.2.mono hn) hb .nil (passes_call ec.takes fun _ _ _ _ z => z.elim) (e_gl ec hg) C.mgc PAr (okN1 C.nm).1 (star_cons hst [] X.env))) fun D σ H ⟨σd, m, ρ, s, k, h⟩ => ?_
    unfold evS at h
    unfold evEs at h
    cases q : evE Φ Gv a σd m with
    | bad => rw [q] at h; exact h.elim
    | exc c' fs m1 =>
      rw [q] at h
      refine ⟨σd, m, ρ, s, k, ?_⟩
      rw [q]
      exact fun cls dd ρ2 H2 e2 k2 r2 => h cls dd σ ρ2 H2 e2 k2 (s.ext e2) r2
    | ok d m1 =>
      rw [q] at h
      refine ⟨σd, m, ρ, s, k, ?_⟩
      rw [q]
      intro v ρ1 H1 e1 k1 r1
      have h : oS X.K ca W ρ H (.exc c [d] σd m1) D := h
      refine ⟨by simp, fun b hb1 => ⟨b, v, rfl, upd_same, fun dx hdx hne => ?_⟩⟩
      have hdx1 : H1 dx = none := by rw [upd_ne hne] at hdx; exact hdx
      refine ⟨rfl, dx, [("number", v)], upd_same, by rw [upd_ne hne]; exact upd_same, hdx1, ?_⟩
      have eH : upd (del (upd (upd (upd H1 b (exo b (ca c) none)) dx (exd dx [("number", v)])) b (exo b (ca c) (some dx))) b) dx (.xd [("number", v)]) = upd H1 dx (.xd [("number", v)]) := by
        funext z
        by_cases h1 : z = dx
        · rw [h1, upd_same, upd_same]
        · rw [upd_ne h1, upd_ne h1]
          by_cases h2 : z = b
          · rw [h2, del_same, hb1]
          · rw [del_ne h2, upd_ne h2, upd_ne h1, upd_ne h2]
      rw [eH]
      have eX := ext_new k1 hdx1 (.xd [("number", v)])
      exact h _ _ σ ρ1 _ (e1.trans eX) (k1.new hdx1 _) (s.ext (e1.trans eX)) ⟨rfl, dx, v, rfl, upd_same, k1.fresh hdx1, Rep.ext eX _ _ r1⟩
end G

set_option Elab.async false
set_option linter.all false
set_option maxRecDepth 100000
set_option maxHeartbeats 8000000
/-! G23: except clauses, with and without names. -/
namespace G
open PySem PySem.Spec PyProof.Rows L2
abbrev Ts' := Addr → Value → Option Addr → TS
/-- the ends of a suite whose name goes -/
def gone (i : Nat) (D : Ends) : Ends := { nx := fun u Y => D.nx (u.set i none) Y, rt := D.rt, bk := fun u Y => D.bk (u.set i none) Y, ct := fun u Y => D.ct (u.set i none) Y }
def wGen (K : PySem.W.Frag) (Wo : WX) (D : Ends) : List (Value × Option Nat × Ts') → WX
  | [] => Wo
  | p :: r => fun cl dd σ Y => ∃ b, PySem.W.exmOne K cl p.1 = some b ∧ (b = true → ∀ a, Y a = none → match p.2.1 with
    | none => p.2.2 a cl dd D σ Y
    | some i => p.2.2 a cl dd (gone i D) (σ.set i (some (.ref a))) Y) ∧ (b = false → wGen K Wo D r cl dd σ Y)
abbrev SuiteOk (X : Cx) (sts : List Stmt) (ts : Ts') : Prop := ∀ (a : Addr) (oe : Obj) (cl : Value) (dd : Option Addr) (pn : List (Addr × Obj)), Zc cl dd oe → (∃ vs, oe.data = .fields vs) → PSs (X.suite a ((a, oe) :: pn)) sts (ts a cl dd)
inductive HdL (X : Cx) : List ExceptHandler → List (Value × Option Nat × Ts') → Prop
  | nil : HdL X [] []
  | bare {x c ts s0 su np p hs l} : Names X x c → SuiteOk X (s0 :: su) ts → HdL X hs l → HdL X (.ExceptHandler (some (.Name x np)) none (s0 :: su) p :: hs) ((c, none, ts) :: l)
  | nmd {x c ts s0 su np p hs l y i} : Names X x c → SuiteOk X (s0 :: su) ts → X.N[i]? = some y → X.env.kindOf y = some .local → HdL X hs l → HdL X (.ExceptHandler (some (.Name x np)) (some y) (s0 :: su) p :: hs) ((c, some i, ts) :: l)
section
variable {X : Cx} {Wo : WX}
/-- an exception on the ground finds its clause -/
theorem hdl_go (hs : X.stack = X.env :: X.outer) (hf : X.env.frame = some X.env.locals) (hN : X.N.Nodup) (tk : Takes X Wo) {pins pz : List (Addr × Obj)} {σ : L2.St} {Y : Hp} {sI s' : Shared} {a : Addr} {cl : Value} {dd : Option Addr} {B : Heap} {h : Heap} {D : Ends}
    (J : Inv X pz σ Y sI) (Jp : Inv X pins σ Y sI) (nb : ∀ b o, sI.heap.get? b = some o → b ∉ frs X.stack → B.get? b = some o) (na : Y a = none) (os : s'.os = sI.os) (ag : AllBare s'.gens) (fl : PySem.HandSPX.FlyingZ B (X.env :: X.outer) a (Zc cl dd) h) (up : sI.heap.UpToSlots h) :
    ∀ {hl : List ExceptHandler} {l : List (Value × Option Nat × Ts')}, HdL X hl l → wGen X.K Wo D l cl dd σ Y → wpAny (model X.prog X.w) X.A (handleBy (.ref a) X.env hl) (SP X pins D) X.xe { s' with heap := h } := by
  have ok := Jp.ok
  have out : ∀ {g : Heap} {o : Obj} {vs : Array Value}, g.FunFrames B (X.env :: X.outer) → g.get? a = some o → o.data = .fields vs → a ∉ frs (X.env :: X.outer) := by
    intro g o vs ff e1 e2 hm
    obtain ⟨_, o2, e3, hno⟩ := ff.mem hm
    rw [e1] at e3
    cases e3
    exact hno _ e2
  have sep : a ∉ frs (X.env :: X.outer) → a ≠ X.env.locals ∧ a ∉ X.fs := by
    intro hm
    refine ⟨fun z => hm ?_, fun z => hm ?_⟩
    · exact List.mem_filterMap.mpr ⟨_, List.mem_cons_self, hf.trans (congrArg some z.symm)⟩
    · obtain ⟨e1, m1, q1⟩ := List.mem_filterMap.mp z
      exact List.mem_filterMap.mpr ⟨e1, .tail _ m1, q1⟩
  -- the suite's state on any further ground
  have stand : ∀ {g : Heap}, PySem.HandSPX.FlyingZ B (X.env :: X.outer) a (Zc cl dd) g → sI.heap.UpToSlots g →
      ∃ oe vs, g.get? a = some oe ∧ Zc cl dd oe ∧ oe.data = .fields vs ∧ Inv (X.suite a ((a, oe) :: (X.pn ++ pins))) [] σ Y { s' with heap := g } := by
    intro g fg ug
    obtain ⟨oe, vs, e1, e2, e3⟩ := fg.there
    obtain ⟨n1, n2⟩ := sep (out fg.2.2.1 e1 e3)
    exact ⟨oe, vs, e1, e2, e3, (Jp.landed (s' := { s' with heap := g }) nb fg.1 ug os ag).suite e1 e3 na n1 n2⟩
  obtain ⟨oe, vs, e1, e2, e3, S3⟩ := stand fl up
  have kIn : X.K.In h := S3.kIn
  have LT : PySem.W.Looks (model X.prog X.w) h (typeOf (.ref a)) cl := fun A Q E t k q => wpAny_typeOf_ref (k _ _ e1) (by rw [e2.1]; exact q)
  have test : ∀ {x : Str} {c : Value} {np : Pos} {Q E : Value → Shared → Prop}, Names X x c → Q c { s' with heap := h } → wpAny (model X.prog X.w) (X.A.mark (some (.ref a))) (eval (.Name x np) X.env) Q E { s' with heap := h } := by
    intro x c np Q E hc q
    obtain ⟨hg, hd, hm | ⟨hm, hv, hn⟩⟩ := hc
    · exact ld_glob (X := X.suite a ((a, oe) :: (X.pn ++ pins))) S3 hg hm q hd
    · exact ld_blt (X := X.suite a ((a, oe) :: (X.pn ++ pins))) S3 hg hm hv q hn hd
  intro hl l hk
  induction hk with
  | nil =>
    intro w
    have fr : wpAny (model X.prog X.w) X.A (setFlight (.ref a) X.env.frame) (fun _ t => wpAny (model X.prog X.w) X.A (throw (.ref a) : Sem Flow) (SP X pins D) X.xe t) X.xe { s' with heap := h } := by
      rw [hf]
      refine PySem.HandSPX.setFlight_upZ fl fun g hg ug => wpAny_throw (tk _ _ ⟨a, B, sI, pins, σ, Y, cl, dd, rfl, Jp, nb, up.trans ug, .inr (.inr ?_), na, os, ag, w⟩)
      rw [hs]
      exact hg
    refine wpAny_handleBy_nil ?_
    obtain ⟨k1, k2, k3, o4, vs4, T4, oT, t4, f1, f2, f3, f4, f5⟩ := id fl
    unfold PySem.passOn
    refine wpAny_bind (wpAny_field f1 f3 f4 ?_)
    rw [if_neg (show ¬ ((Value.ref T4 == Value.none) = true) by simp)]
    first
      | exact wpAny_bind (wpAny_pure (wpAny_bind fr))
      | exact wpAny_bind fr
  | @bare x c ts s0 su np p hs2 l2 hc hsu r ih =>
    rintro ⟨b, hb, yes, no⟩
    refine wpAny_handleBy_cons (codeAny_handlers_test ?_) (by intro q; cases q)
    refine test hc ((PySem.W.exm_one (M := model X.prog X.w) kIn LT hb).here ?_)
    cases b with
    | false => exact ih (no rfl)
    | true =>
      refine codeAny_handlers_suite (PySem.HandSPX.lands_againZ fl fun g fg ug => ?_)
      obtain ⟨o4, vs4, f1, f2, f3, S4⟩ := stand fg (up.trans ug)
      have back := fun {u : L2.St} {Z : Hp} {t : Shared} (I : Inv (X.suite a ((a, o4) :: (X.pn ++ pins))) [] u Z t) => I.unsuite ok
      refine wpAny_mono ((hsu a o4 cl dd _ f2 ⟨_, f3⟩).run [] _ σ Y D S4 (yes rfl a na)) (fun f t q => ?_) fun _ _ z => z.elim
      cases f with
      | next => obtain ⟨u, Z, I6, q6⟩ := q; exact ⟨u, Z, back I6, q6⟩
      | brk => obtain ⟨u, Z, I6, q6⟩ := q; exact ⟨u, Z, back I6, q6⟩
      | cont => obtain ⟨u, Z, I6, q6⟩ := q; exact ⟨u, Z, back I6, q6⟩
      | ret v => obtain ⟨d6, u, Z, I6, r6, q6⟩ := q; exact ⟨d6, u, Z, back I6, r6, q6⟩
  | @nmd x c ts s0 su np p hs2 l2 y i hc hsu hi hy r ih =>
    rintro ⟨b, hb, yes, no⟩
    refine wpAny_handleBy_cons (codeAny_handlers_test ?_) (by intro q; cases q)
    refine test hc ((PySem.W.exm_one (M := model X.prog X.w) kIn LT hb).here ?_)
    cases b with
    | false => exact ih (no rfl)
    | true =>
      refine codeAny_handlers_suite_as (PySem.HandSPX.lands_againZ fl fun g fg ug => ?_)
      obtain ⟨o4, vs4, f1, f2, f3, S4⟩ := stand fg (up.trans ug)
      refine store_ok (X := X.suite a ((a, o4) :: (X.pn ++ pins))) (v := .ref a) S4 hN hi (.inl hy) rfl (fun t5 S5 => ?_) (.inr hy)
      refine wpAny_mono ((hsu a o4 cl dd _ f2 ⟨_, f3⟩).run [] t5 _ Y (gone i D) S5 (yes rfl a na)) (fun f t q => ?_) fun _ _ z => z.elim
      have back := fun {u : L2.St} {Z : Hp} {Q : Shared → Prop} (I : Inv (X.suite a ((a, o4) :: (X.pn ++ pins))) [] u Z t) (hq : ∀ t7, Inv X pins (u.set i none) Z t7 → Q t7) =>
        (gone_ok (M := model X.prog X.w) (A := X.A) (E := X.xe) (pos := p) (Q := fun _ t7 => Q t7) (I.unsuite ok) hN hi hy hq)
      cases f with
      | next => obtain ⟨u, Z, I6, q6⟩ := q; exact back I6 fun t7 J7 => ⟨_, _, J7, q6⟩
      | brk => obtain ⟨u, Z, I6, q6⟩ := q; exact back I6 fun t7 J7 => ⟨_, _, J7, q6⟩
      | cont => obtain ⟨u, Z, I6, q6⟩ := q; exact back I6 fun t7 J7 => ⟨_, _, J7, q6⟩
      | ret v => obtain ⟨d6, u, Z, I6, r6, q6⟩ := q; exact back I6 fun t7 J7 => ⟨_, _, _, J7, r6, q6⟩
theorem try_gen {body : List Stmt} {h0 : ExceptHandler} {hl : List ExceptHandler} {l : List (Value × Option Nat × Ts')} {pos : Pos} {tb : WX → TS} (hs : X.stack = X.env :: X.outer) (hf : X.env.frame = some X.env.locals) (hN : X.N.Nodup) (tk : Takes X Wo)
    (hb : ∀ (W : WX) (pn : List (Addr × Obj)) (xe : Value → Shared → Prop), Takes (X.tr pn xe) W → PassesOwn (model X.prog X.w) X.A X.env xe → PSs (X.tr pn xe) body (tb W)) (hh : HdL X (h0 :: hl) l) :
    PS X (.Try body (h0 :: hl) [] [] pos) fun D σ Y => tb (wGen X.K Wo D l) D σ Y := by
  constructor
  intro pins s σ Y D I h
  have ok := I.ok
  have fr : X.A.frames = some (X.env :: X.outer) := hs ▸ ok.frames
  let xe' : Value → Shared → Prop := fun e t => wpAny (model X.prog X.w) X.A (noteFrame e X.env) (fun _ t2 => wpAny (model X.prog X.w) X.A (setFlight e none) (fun _ t3 => wpAny (model X.prog X.w) X.A (handleBy e X.env (h0 :: hl)) (SP X pins D) X.xe t3) X.xe t2) X.xe t
  have run := (hb (wGen X.K Wo D l) (X.pn ++ pins) xe' (fun u t xx => ?_) PassesOwn.looking).run [] s σ Y D (I.toTry _) h
  · refine wpAny_Try_except (wpAny_mono run (fun f t q => ?_) fun _ _ z => z)
    cases f with
    | next => obtain ⟨u, Z, I6, q6⟩ := q; exact wpAny_execs_nil ⟨u, Z, I6.ofTry ok, q6⟩
    | brk => obtain ⟨u, Z, I6, q6⟩ := q; exact ⟨u, Z, I6.ofTry ok, q6⟩
    | cont => obtain ⟨u, Z, I6, q6⟩ := q; exact ⟨u, Z, I6.ofTry ok, q6⟩
    | ret v => obtain ⟨d6, u, Z, I6, r6, q6⟩ := q; exact ⟨d6, u, Z, I6.ofTry ok, r6, q6⟩
  · obtain ⟨a, B, sI, pz, u1, Y1, cl, dd, rfl, J1, nb, up, sky, na, os, ag, w⟩ := xx
    have J : Inv X pins u1 Y1 sI := J1.ofTry ok
    have sky2 : Sky B (X.env :: X.outer) a (Zc cl dd) X.env.locals t.heap := hs ▸ sky
    show wpAny (model X.prog X.w) X.A (noteFrame (.ref a) X.env) _ _ _
    exact Sky.land Zc.steady fr hf sky2 fun g fg ug => hdl_go hs hf hN tk J J nb na os ag fg (up.trans ug) hh w
end
end G

set_option Elab.async false
set_option linter.all false
set_option maxRecDepth 100000
set_option maxHeartbeats 8000000
/-! G24: all statements. -/
namespace G
open PySem PySem.Spec PyProof.Rows L2
structure TX (X : Cx) (T : Tab) (ca : Nat → Addr) (n : Nat) : Prop where
  cf : ClsF X.prog X.w X.K X.mg X.base T ca
  n2 : 2 ≤ n
  stk : X.stack = X.env :: X.outer
  fr : X.env.frame = some X.env.locals
variable {X : Cx} {W : WX} {T : Tab} {Φ : Fns} {Gv : List D} {ca : Nat → Addr} {n : Nat} {N : List Str} {sc : Scope} {cm : Bool} {w : Nat}
theorem TX.tr (tx : TX X T ca n) (pn : List (Addr × Obj)) (xe : Value → Shared → Prop) : TX (X.tr pn xe) T ca n := ⟨tx.cf, tx.n2, tx.stk, tx.fr⟩
theorem SX.tr {W' : WX} {pn : List (Addr × Obj)} {xe : Value → Shared → Prop} (sx : SX X W T Φ Gv ca n N sc cm) (tk : Takes (X.tr pn xe) W') (pw : PassesOwn (model X.prog X.w) X.A X.env xe) : SX (X.tr pn xe) W' T Φ Gv ca n N sc cm :=
  ⟨⟨sx.ec.gf, sx.ec.hN, sx.ec.hsc, sx.ec.nd, sx.ec.calm, tk⟩, sx.hst, pw, sx.kd⟩
theorem cst_pe {X : Cx} {c : Const} {k : Nat} {p : Pos} {d : D} (h : cstD c = some d) : ∃ v, (∀ K ρ H, Rep K ρ H d v) ∧ PE X (.Constant c k p) (tC v) := by
  cases c <;> simp only [cstD, Option.some.injEq, reduceCtorEq] at h <;> subst h
  · exact ⟨_, fun _ _ _ => rep_non, pe_non⟩
  · exact ⟨_, fun _ _ _ => rep_bl, pe_bl⟩
  · exact ⟨_, fun _ _ _ => rep_int, pe_int⟩
  · exact ⟨_, fun _ _ _ => rep_str, pe_str⟩
/-- the suites by their clauses -/
noncomputable def cV (k : Const) : V := match k with
  | .none => .non
  | .bool b => .bl b
  | .int i => .int i
  | .str x => .str x
  | _ => .non
theorem cst_pe' {X : Cx} {c : Const} {k : Nat} {p : Pos} (h : cstB c = true) : PE X (.Constant c k p) (tC (cV c)) := by
  cases c <;> first | exact pe_non | exact pe_bl | exact pe_int | exact pe_str | (simp [cstB] at h)
theorem cst_rep {K : PySem.W.Frag} {ρ : Rr} {H : Hp} {c : Const} {d : D} (h : cstD c = some d) : Rep K ρ H d (cV c) := by
  cases c <;> simp only [cstD, Option.some.injEq, reduceCtorEq] at h <;> subst h
  · exact rep_non
  · exact rep_bl
  · exact rep_int
  · exact rep_str
noncomputable def hL (ca : Nat → Addr) : Hs → List (Value × Option Nat × Ts')
  | .nil => []
  | .retC c k r => (.ref (ca c), none, fun _ _ _ => tRet (tC (cV k))) :: hL ca r
  | .retX c i k r => (.ref (ca c), some i, fun a cl dd => tRet (tTup (tCons (tC (cV k)) (tCons (tXf a cl dd (ca c) "number" (tVar i)) tNil)))) :: hL ca r
theorem hd_ok (sx : SX X W T Φ Gv ca n N sc cm) (tx : TX X T ca n) {nc : Nat} : ∀ (hs : Hs) (l : List ExceptHandler), cH T N nc sc hs l = true → HdL X l (hL ca hs)
  | .nil, l, h => by
    unfold cH at h
    split at h
    · exact .nil
    · cases h
  | .retC c k r, l, h => by
    unfold cH at h
    split at h
    · simp only [Bool.and_eq_true, decide_eq_true_eq] at h
      obtain ⟨⟨⟨⟨⟨h1, h2⟩, h3⟩, h4⟩, h5⟩, h6⟩ := h
      subst h4
      obtain ⟨ar, hx⟩ := nmB_ok h2
      have C := tx.cf.cl _ _ _ hx
      exact .bare ⟨e_gl sx.ec h3, (okN1 C.nm).1, .inl C.mgc⟩ (fun a oe cl dd pn _ _ => pss_one (ps_ret (cst_pe' h5))) (hd_ok sx tx r _ h6)
    · cases h
  | .retX c i k r, l, h => by
    unfold cH at h
    split at h
    · simp only [Bool.and_eq_true, decide_eq_true_eq] at h
      obtain ⟨⟨⟨⟨⟨⟨⟨⟨⟨⟨h1, h2⟩, h3⟩, h4⟩, h5⟩, h6⟩, h7⟩, h8⟩, h9⟩, h10⟩, h11⟩ := h
      subst h4 h6 h7
      have C := tx.cf.cl _ _ _ (clB_ok h2)
      obtain ⟨f1, f2⟩ := C.fld rfl
      have hy := plX sx h9
      refine .nmd ⟨e_gl sx.ec h3, (okN1 C.nm).1, .inl C.mgc⟩ (fun a oe cl dd pn hz hf => pss_one (ps_ret (pe_tup (pa_cons (cst_pe' h5) (pa_cons (pe_xf f1 f2 hz hf (pe_var (e_N sx.ec h8) (.inl hy) (okN1 h10).1 (okN1 h10).2)) pa_nil))))) (e_N sx.ec h8) hy (hd_ok sx tx r _ h11)
    · cases h
theorem wgen_of {K : PySem.W.Frag} {nc c : Nat} {fs : List D} {ρ : Rr} {H : Hp} {σd : Sl} {m : Mem} {D : Ends} (ex : ∀ c c', c < T.cs.length → c' < T.cs.length → PySem.W.exmOne K (.ref (ca c)) (.ref (ca c')) = some (decide (c = c'))) (hn : nc ≤ T.cs.length) (hc : c < nc) : ∀ (hs : Hs) (l : List ExceptHandler), cH T N nc sc hs l = true → oS K ca W ρ H (evH hs c fs σd m) D →
    ∀ cls dd σ' ρ' H', Ext ρ ρ' H H' → MemOk K ρ' H' m → SlOk K ρ' H' σd σ' → XRep K ca ρ' H' c fs cls dd → wGen K W D (hL ca hs) cls dd σ' H'
  | .nil, l, h, q => by
    unfold evH at q
    exact q
  | .retC c' k r, l, h, q => by
    unfold cH at h
    split at h
    · simp only [Bool.and_eq_true, decide_eq_true_eq] at h
      obtain ⟨⟨⟨⟨⟨h1, h2⟩, h3⟩, h4⟩, h5⟩, h6⟩ := h
      intro cls dd σ' ρ' H' e kk s x
      have x1 := x.1
      refine ⟨_, by rw [x1]; exact ex c c' (by omega) (by omega), fun hb a na => ?_, fun hb => ?_⟩
      · have hb := of_decide_eq_true hb
        unfold evH at q
        rw [if_pos hb] at q
        split at q
        · rename_i d hd
          exact q _ ρ' H' e kk (cst_rep hd)
        · exact q.elim
      · have hb := of_decide_eq_false hb
        unfold evH at q
        rw [if_neg hb] at q
        exact wgen_of ex hn hc r _ h6 q cls dd σ' ρ' H' e kk s x
    · cases h
  | .retX c' i k r, l, h, q => by
    unfold cH at h
    split at h
    · simp only [Bool.and_eq_true, decide_eq_true_eq] at h
      obtain ⟨⟨⟨⟨⟨⟨⟨⟨⟨⟨h1, h2⟩, h3⟩, h4⟩, h5⟩, h6⟩, h7⟩, h8⟩, h9⟩, h10⟩, h11⟩ := h
      intro cls dd σ' ρ' H' e kk s x
      have x1 := x.1
      refine ⟨_, by rw [x1]; exact ex c c' (by omega) (by omega), fun hb a na => ?_, fun hb => ?_⟩
      · have hb := of_decide_eq_true hb
        unfold evH at q
        rw [if_pos hb] at q
        split at q
        · rename_i d e0 hd
          obtain ⟨dx, v, z1, z2, z3, z4⟩ := x.2
          split at q
          · rename_i hi
            refine ⟨.ref a, List.getElem?_set_self (by rw [← s.len]; exact hi), rfl, x1.trans (by rw [hb]), dx, _, v, z1, z2, rfl, by rw [sizeLine_eq]; show 2 ≤ _; decide, fun p hp => ?_⟩
            obtain ⟨y1, y2, y3⟩ := pair_rep kk hp (cst_rep hd) z4
            exact q _ ρ' _ (e.trans y1) y2 y3
          · exact q.elim
        · exact q.elim
      · have hb := of_decide_eq_false hb
        unfold evH at q
        rw [if_neg hb] at q
        exact wgen_of ex hn hc r _ h11 q cls dd σ' ρ' H' e kk s x
    · cases h
mutual
theorem snd_S : ∀ (st : S) (X : Cx) (W : WX) (e' : Stmt), SX X W T Φ Gv ca n N sc cm → TX X T ca n → cS T N cm sc st e' = true → PS X e' (tSt X.K ca W (evS Φ Gv w st))
  | .asg (.nm i) e, X, W, e', sx, tx, h => by
    unfold cS at h
    split at h
    · simp only [Bool.and_eq_true] at h
      exact s_asgN sx h.1.1.1 h.1.1.2 h.1.2 h.2
    · cases h
  | .asg (.sub a b) e, X, W, e', sx, tx, h => by
    unfold cS at h
    split at h
    · simp only [Bool.and_eq_true] at h
      exact s_asgT sx h.1.1.1.1 h.1.1.1.2 h.1.1.2 h.1.2 h.2
    · cases h
  | .asg (.tp ts) e, X, W, e', sx, tx, h => by
    unfold cS at h
    split at h
    · simp only [Bool.and_eq_true] at h
      exact s_asgT sx h.1.1.1.1 h.1.1.1.2 h.1.1.2 h.1.2 h.2
    · cases h
  | .par is es, X, W, e', sx, tx, h => by
    unfold cS at h
    split at h
    · simp only [Bool.and_eq_true] at h
      exact s_par sx h.1.1 h.1.2 h.2
    · cases h
  | .ex e, X, W, e', sx, tx, h => by
    unfold cS at h
    split at h
    · simp only [Bool.and_eq_true] at h
      refine PS.imp (ps_expr (snd_E e X W sc _ sx.ec h.2).1 (drop_ok h.1)) fun D σ H ⟨σd, m, ρ, s, k, h⟩ => ?_
      unfold evS at h
      exact tX.ofX s k h fun d m1 v ρ1 H1 s1 e1 k1 r1 h => h σ ρ1 H1 (Ext.refl _ _) k1 s1
    · cases h
  | .ret e, X, W, e', sx, tx, h => by
    unfold cS at h
    split at h
    · refine PS.imp (ps_ret (snd_E e X W sc _ sx.ec h).1) fun D σ H ⟨σd, m, ρ, s, k, h⟩ => ?_
      unfold evS at h
      exact tX.ofX s k h fun d m1 v ρ1 H1 s1 e1 k1 r1 h => h v ρ1 H1 (Ext.refl _ _) k1 r1
    · cases h
  | .retN, X, W, e', sx, tx, h => by
    unfold cS at h
    split at h
    · refine PS.imp ps_retN fun D σ H ⟨σd, m, ρ, s, k, h⟩ => ?_
      unfold evS at h
      exact h .non ρ H (Ext.refl _ _) k rep_non
    · cases h
  | .iff c a b, X, W, e', sx, tx, h => by
    unfold cS at h
    split at h
    · simp only [Bool.and_eq_true] at h
      refine PS.imp (ps_if ((snd_E c X W sc _ sx.ec h.1.1.2).2 h.1.1.1) (snd_Ss a X W _ sx tx h.1.2) (snd_Ss b X W _ sx tx h.2)) fun D σ H ⟨σd, m, ρ, s, k, h⟩ => ?_
      unfold evS at h
      refine tX.ofX s k h fun kk m1 v ρ1 H1 s1 e1 k1 r1 h => ?_
      cases r1
      cases kk with
      | true => exact iteT ⟨σd, m1, ρ1, s1, k1, h⟩
      | false => exact iteF ⟨σd, m1, ρ1, s1, k1, h⟩
    · cases h
  | .for tg it b, X, W, e', sx, tx, h => by
    unfold cS at h
    split at h
    · simp only [Bool.and_eq_true] at h
      obtain ⟨⟨⟨⟨hc, hset⟩, hi⟩, htg⟩, hb⟩ := h
      have ndX : X.N.Nodup := by rw [sx.ec.hN]; exact sx.ec.nd
      have hcalm := (sx.ec.calm hc).1
      refine PS.imp (ps_for sx.pow hcalm (snd_I it X W sc _ _ sx.ec hi) (g_tg ndX sx.ec.hN sx.hst hcalm tg _ htg) (snd_Ss b X W _ sx tx hb) (fun x => set_free hset X.env x)) fun D σ H ⟨σd, m, ρ, s, k, h⟩ => ?_
      unfold evS at h
      refine tX.ofX s k h fun S m1 J ρ1 H1 s1 e1 k1 hJ h => ?_
      exact for_turns hJ s1 k1 h
    · cases h
  | .whl c b, X, W, e', sx, tx, h => by
    unfold cS at h
    split at h
    · simp only [Bool.and_eq_true] at h
      refine PS.imp (ps_while sx.pow ((snd_E c X W sc _ sx.ec h.1.2).2 h.1.1) (snd_Ss b X W _ sx tx h.2)) fun D σ H ⟨σd, m, ρ, s, k, h⟩ => ?_
      unfold evS at h
      exact whl_turns s k h
    · cases h
  | .brk, X, W, e', sx, tx, h => by
    unfold cS at h
    split at h
    · refine PS.imp ps_break fun D σ H ⟨σd, m, ρ, s, k, h⟩ => ?_
      unfold evS at h
      exact h σ ρ H (Ext.refl _ _) k s
    · cases h
  | .cnt, X, W, e', sx, tx, h => by
    unfold cS at h
    split at h
    · refine PS.imp ps_continue fun D σ H ⟨σd, m, ρ, s, k, h⟩ => ?_
      unfold evS at h
      exact h σ ρ H (Ext.refl _ _) k s
    · cases h
  | .pass, X, W, e', sx, tx, h => by
    unfold cS at h
    split at h
    · refine PS.imp ps_pass fun D σ H ⟨σd, m, ρ, s, k, h⟩ => ?_
      unfold evS at h
      exact h σ ρ H (Ext.refl _ _) k s
    · cases h
  | .rse c .nil, X, W, e', sx, tx, h => by
    unfold cS at h
    split at h
    · simp only [Bool.and_eq_true] at h
      exact s_rse0 sx.ec tx.cf tx.n2 h.1.1 h.1.2 h.2
    · cases h
  | .rse c (.cons a .nil), X, W, e', sx, tx, h => by
    unfold cS at h
    split at h
    · simp only [Bool.and_eq_true] at h
      exact s_rse1 sx.ec tx.cf tx.n2 h.1.1.1.1 h.1.1.1.2 h.1.1.2 h.2 h.1.2
    · cases h
  | .rse c (.cons a (.cons _ _)), X, W, e', sx, tx, h => by unfold cS at h; cases h
  | .try b nc hs, X, W, e', sx, tx, h => by
    unfold cS at h
    split at h
    · simp only [Bool.and_eq_true, decide_eq_true_eq] at h
      obtain ⟨⟨hn, hh⟩, hb⟩ := h
      have ndX : X.N.Nodup := by rw [sx.ec.hN]; exact sx.ec.nd
      refine PS.imp (try_gen (tb := fun W => tSt X.K ca W (evSs Φ Gv w b)) tx.stk tx.fr ndX sx.ec.takes (fun W' pn xe tk pw => snd_Ss b (X.tr pn xe) W' _ (sx.tr tk pw) (tx.tr pn xe) hb) (hd_ok sx tx hs _ hh)) fun D σ H ⟨σd, m, ρ, s, k, h⟩ => ⟨σd, m, ρ, s, k, ?_⟩
      unfold evS at h
      cases q : evSs Φ Gv w b σd m with
      | next σ3 m3 => rw [q] at h; exact h
      | cnt σ3 m3 => rw [q] at h; exact h
      | brk σ3 m3 => rw [q] at h; exact h
      | ret d3 m3 => rw [q] at h; exact h
      | bad => rw [q] at h; exact h
      | exc c fs σ3 m3 =>
        rw [q] at h
        dsimp only at h
        split at h
        · rename_i hc
          exact wgen_of tx.cf.exm hn hc hs _ hh h
        · exact h.elim
    · cases h
theorem snd_Ss : ∀ (st : Ss) (X : Cx) (W : WX) (e' : List Stmt), SX X W T Φ Gv ca n N sc cm → TX X T ca n → cSs T N cm sc st e' = true → PSs X e' (tSt X.K ca W (evSs Φ Gv w st))
  | .nil, X, W, e', sx, tx, h => by
    unfold cSs at h
    split at h
    · refine PSs.imp pss_nil fun D σ H ⟨σd, m, ρ, s, k, h⟩ => ?_
      unfold evSs at h
      exact h σ ρ H (Ext.refl _ _) k s
    · cases h
  | .cons a r, X, W, e', sx, tx, h => by
    unfold cSs at h
    split at h
    · simp only [Bool.and_eq_true] at h
      refine PSs.imp (pss_cons (snd_S a X W _ sx tx h.1) (snd_Ss r X W _ sx tx h.2)) fun D σ H ⟨σd, m, ρ, s, k, h⟩ => ?_
      unfold evSs at h
      refine ⟨σd, m, ρ, s, k, ?_⟩
      cases q : evS Φ Gv w a σd m with
      | next σ3 m3 => rw [q] at h; exact fun σ4 ρ4 H4 e4 k4 s4 => ⟨σ3, m3, ρ4, s4, k4, oS.mono h e4⟩
      | cnt σ3 m3 => rw [q] at h; exact h
      | brk σ3 m3 => rw [q] at h; exact h
      | ret d3 m3 => rw [q] at h; exact h
      | exc c fs σ3 m3 => rw [q] at h; exact h
      | bad => rw [q] at h; exact h
    · cases h
end
end G

set_option Elab.async false
set_option linter.all false
set_option maxRecDepth 100000
set_option maxHeartbeats 8000000
/-! G25: defs. -/
namespace G
open PySem PySem.Spec PyProof.Rows L2
section
variable {K : PySem.W.Frag} {ρ ρ' ρ2 : Rr} {H H2 : Hp} {m m2 : Mem} {b : Nat}
theorem frzO_rep {lk : Nat → Option D} (hs : ∀ a : Addr, a ∈ ρ' → a ∈ ρ) (hl : ∀ n e v, lk n = some e → Rep K ρ H (.ref n) v → Rep K ρ' H e v) {o o' : MO} {a : Addr} (h : frzO lk o = some o') (c : Cell K ρ H a o) : Cell K ρ' H a o' := by
  cases o with
  | dct _ _ _ => exact c.elim
  | ins _ _ => exact c.elim
  | lst xs =>
    simp only [frzO, Option.map_eq_some_iff] at h
    obtain ⟨ys, h, rfl⟩ := h
    obtain ⟨vs, c1, c2, c3⟩ := c
    exact ⟨vs, c1, c2, frzWs_G hs hl xs ys vs h c3⟩
theorem frzM_get {lk : Nat → Option D} : ∀ {l l' : Mem}, frzM lk l = some l' → l'.length = l.length ∧ ∀ (n : Nat) (o' : MO), l'[n]? = some o' → ∃ o, l[n]? = some o ∧ frzO lk o = some o'
  | [], l', h => by simp only [frzM, Option.some.injEq] at h; subst h; exact ⟨rfl, fun n o e => by simp at e⟩
  | o :: r, l', h => by
    unfold frzM at h
    split at h
    · rename_i a c h1 h2
      cases h
      obtain ⟨z1, z2⟩ := frzM_get h2
      refine ⟨by simp [z1], fun n o' e => ?_⟩
      cases n with
      | zero => simp at e; subst e; exact ⟨o, rfl, h1⟩
      | succ n => exact z2 n o' (by simpa using e)
    · cases h
theorem cut_eq (e : Ext ρ ρ2 H H2) (hb : b = ρ.c.length) : ρ2.take b = ρ := by
  obtain ⟨t, rfl⟩ := e.pre
  subst hb
  show (⟨(ρ.c ++ t).take ρ.c.length, ρ.z⟩ : Rr) = ρ
  rw [List.take_left]
theorem ext_cut (e : Ext ρ ρ2 H H2) : Ext ρ ρ H H2 := ⟨⟨[], by simp⟩, e.keep, fun _ h => .inl h, e.live⟩
theorem mem_cut {lk : Nat → Option D} {m0 : Mem} (k : MemOk K ρ2 H2 m2) (e : Ext ρ ρ2 H H2) (hb : b = ρ.c.length) (hl : ∀ n e v, lk n = some e → Rep K ρ2 H2 (.ref n) v → Rep K ρ H2 e v) (h : frzM lk (m2.take b) = some m0) : MemOk K ρ H2 m0 := by
  obtain ⟨z1, z2⟩ := frzM_get h
  have hb2 : b ≤ m2.length := by
    rw [← k.len, hb]
    obtain ⟨t, e1⟩ := e.pre
    rw [e1]
    simp
  have hs : ∀ a : Addr, a ∈ ρ → a ∈ ρ2 := fun a ha => by
    obtain ⟨t, e1⟩ := e.pre
    rw [e1]
    exact ha.imp (fun z => List.mem_append_left _ z) id
  obtain ⟨t, e1⟩ := e.pre
  have hc : ρ2.c = ρ.c ++ t := by rw [e1]
  refine ⟨by rw [z1, List.length_take]; omega, ?_, fun n o a h1 h2 => ?_, fun a ha => ?_⟩
  · have := k.nd
    rw [hc] at this
    exact (List.nodup_append.mp this).1
  · obtain ⟨o', h3, h4⟩ := z2 n o h1
    have hn : n < b := by
      have := (List.getElem?_eq_some_iff.mp h3).1
      rw [List.length_take] at this
      omega
    rw [List.getElem?_take_of_lt hn] at h3
    exact frzO_rep hs hl h4 (k.cell n o' a h3 (by rw [hc, List.getElem?_append_left (List.getElem?_eq_some_iff.mp h2).1]; exact h2))
  · have ha2 : a ∈ ρ2.z := by rw [e1]; exact ha
    exact ⟨(k.hid a ha2).1, fun z => (k.hid a ha2).2 (by rw [hc]; exact List.mem_append_left _ z)⟩
theorem leave_rep {keep : Bool} {d d' : D} {v : V} {m' : Mem} (k : MemOk K ρ2 H2 m2) (e : Ext ρ ρ2 H H2) (hb : b = ρ.c.length) (r : Rep K ρ2 H2 d v) (h : leave keep b d m2 = .ok d' m') : ∃ ρ', Ext ρ ρ' H H2 ∧ MemOk K ρ' H2 m' ∧ Rep K ρ' H2 d' v := by
  have cut := cut_eq e hb
  have lk6 : ∀ n e v, frzK m2 b 6 n = some e → Rep K ρ2 H2 (.ref n) v → Rep K ρ H2 e v := fun n e v q w => by
    have := frzK_rep k b 6 n e v q w
    rwa [cut] at this
  have gen : ∀ {m0 : Mem} {d0 : D}, frzM (frzK m2 b 6) (m2.take b) = some m0 → frzD m2 b d = some d0 → ∃ ρ', Ext ρ ρ' H H2 ∧ MemOk K ρ' H2 m0 ∧ Rep K ρ' H2 d0 v := fun {m0 d0} h1 h2 => by
    refine ⟨ρ, ext_cut e, mem_cut k e hb lk6 h1, ?_⟩
    have := frzW_rep (frzK_rep k b 6) d d0 v h2 r
    rwa [cut] at this
  unfold leave at h
  split at h
  · rename_i n
    split at h
    · rename_i hn
      split at h
      · rename_i m0 h1
        cases h
        exact gen h1 (by show frzK m2 b 6 n = _; simp only [frzK]; rw [if_pos hn])
      · cases h
    · rename_i hn
      split at h
      · rename_i xs m0 h1 h2
        split at h
        · rename_i ys h3
          cases h
          simp only [Rep] at r
          obtain ⟨p, rfl, hp⟩ := r
          obtain ⟨t, e1⟩ := e.pre
          have hc : ρ2.c = ρ.c ++ t := by rw [e1]
          have hpt : p ∈ t := by
            rw [hc, List.getElem?_append_right (by omega)] at hp
            exact List.mem_of_getElem? hp
          have pn : p ∉ ρ.c := fun z => by
            have := k.nd
            rw [hc] at this
            exact (List.nodup_append.mp this).2.2 p z p hpt rfl
          have sub : ∀ a : Addr, a ∈ ρ.push p → a ∈ ρ2 := fun a ha => by
            rw [e1]
            rcases ha with ha | ha
            · rcases List.mem_append.mp ha with z | z
              · exact .inl (List.mem_append_left _ z)
              · rw [List.mem_singleton] at z; subst z; exact .inl (List.mem_append_right _ hpt)
            · exact .inr ha
          have lk0 : ∀ n e v, frzK m2 b 0 n = some e → Rep K ρ2 H2 (.ref n) v → Rep K (ρ.push p) H2 e v := fun n e v q w => by
            simp only [frzK] at q
            split at q
            · rename_i hlt
              cases q
              simp only [Rep] at w ⊢
              obtain ⟨a, rfl, w⟩ := w
              refine ⟨a, rfl, ?_⟩
              rw [hc, List.getElem?_append_left (by omega)] at w
              show (ρ.c ++ [p])[n]? = some a
              rw [List.getElem?_append_left (by omega)]
              exact w
            · cases q
          have lk1 : ∀ n e v, frzK m2 b 0 n = some e → Rep K ρ2 H2 (.ref n) v → Rep K ρ H2 e v := fun n e v q w => by
            have := frzK_rep k b 0 n e v q w
            rwa [cut] at this
          have k0 := mem_cut k e hb lk1 h2
          obtain ⟨vs, c1, c2, c3⟩ := k.cell n _ p h1 hp
          obtain ⟨z1, z2⟩ := frzM_get h2
          have hb2 : b ≤ m2.length := by rw [← k.len, hb, hc]; simp
          refine ⟨ρ.push p, ⟨⟨[p], rfl⟩, e.keep, fun a ha => ?_, e.live⟩, ⟨?_, push_nd k0.nd pn, ?_, fun a ha => ?_⟩, ?_⟩
          · rcases List.mem_append.mp (show a ∈ ρ.c ++ [p] from ha) with z | z
            · exact .inl z
            · rw [List.mem_singleton] at z; subst z
              exact e.new a (by rw [hc]; exact List.mem_append_right _ hpt)
          · show (ρ.c ++ [p]).length = _
            rw [List.length_append, List.length_append, k0.len]
            rfl
          · refine push_cell k0.len (fun n' u a q1 q2 => ?_) c1 c2 (frzWs_G sub lk0 xs ys vs h3 c3)
            obtain ⟨o', q3, q4⟩ := z2 n' u q1
            have hn' : n' < b := by
              have := (List.getElem?_eq_some_iff.mp q3).1
              rw [List.length_take] at this
              omega
            rw [List.getElem?_take_of_lt hn'] at q3
            exact frzO_rep sub lk0 q4 (k.cell n' o' a q3 (by rw [hc, List.getElem?_append_left (List.getElem?_eq_some_iff.mp q2).1]; exact q2))
          · refine ⟨(k0.hid a ha).1, fun z => ?_⟩
            rcases List.mem_append.mp (show a ∈ ρ.c ++ [p] from z) with z | z
            · exact (k0.hid a ha).2 z
            · rw [List.mem_singleton] at z; subst z
              exact (k.hid a (by rw [e1]; exact ha)).2 (by rw [hc]; exact List.mem_append_right _ hpt)
          · simp only [Rep]
            exact ⟨p, rfl, by show (ρ.c ++ [p])[b]? = some p; rw [hb]; simp⟩
        · cases h
      · cases h
  · split at h
    · rename_i m0 d0 h1 h2
      cases h
      exact gen h1 h2
    · cases h
theorem leaveX_rep {ca : Nat → Addr} {c : Nat} {fs : List D} {cls : Value} {dd : Option Addr} (k : MemOk K ρ2 H2 m2) (e : Ext ρ ρ2 H H2) (hb : b = ρ.c.length) (x : XRep K ca ρ2 H2 c fs cls dd) {c' : Nat} {gs : List D} {m' : Mem} (h : leaveX b c fs m2 = .exc c' gs m') :
    c' = c ∧ Ext ρ ρ H H2 ∧ MemOk K ρ H2 m' ∧ XRep K ca ρ H2 c' gs cls dd := by
  have cut := cut_eq e hb
  have lk6 : ∀ n e v, frzK m2 b 6 n = some e → Rep K ρ2 H2 (.ref n) v → Rep K ρ H2 e v := fun n e v q w => by
    have := frzK_rep k b 6 n e v q w
    rwa [cut] at this
  unfold leaveX at h
  split at h
  · rename_i m0 g0 h1 h2
    cases h
    refine ⟨rfl, ext_cut e, mem_cut k e hb lk6 h1, x.1, ?_⟩
    have x2 := x.2
    rcases fs with _ | ⟨d, _ | ⟨_, _⟩⟩
    · simp only [frzWs, Option.some.injEq] at h2; subst h2; trivial
    · obtain ⟨a, v, q1, q2, q3, q4⟩ := x2
      simp only [frzWs] at h2
      cases q5 : frzW (frzK m2 b 6) d with
      | none => rw [q5] at h2; simp at h2
      | some d0 =>
        rw [q5] at h2
        simp only [Option.some.injEq] at h2
        subst h2
        refine ⟨a, v, q1, q2, fun z => q3 ?_, ?_⟩
        · obtain ⟨t, e1⟩ := e.pre
          rw [e1]
          exact z.imp (fun z => List.mem_append_left _ z) id
        · have := frzW_rep (frzK_rep k b 6) d d0 v q5 q4
          rwa [cut] at this
    · exact x2.elim
  · cases h
end

/-! ### defs of the text -/
def nmS (F : Fn) : List Str := F.N.map Str.ofString
def psS (F : Fn) : List Str := (nmS F).take F.np
def scB (F : Fn) (sc : Scope) : Bool := decide (sc.kind = .function) && !sc.isCoroutine && !sc.isGenerator && decide (nmS F).Nodup && (psS F).all (fun x => locB sc x) && sc.names.all (fun p => p.2 != .free) && decide (F.np ≤ F.N.length)
theorem scB_ok {F : Fn} {sc : Scope} (h : scB F sc = true) : FnScope (nmS F) (psS F) sc ∧ (psS F).length = F.np := by
  unfold scB at h
  simp only [Bool.and_eq_true, decide_eq_true_eq, Bool.not_eq_true'] at h
  obtain ⟨⟨⟨⟨⟨⟨h1, h2⟩, h3⟩, h4⟩, h5⟩, h6⟩, h7⟩ := h
  have hl : (psS F).length = F.np := by unfold psS nmS; rw [List.length_take, List.length_map]; omega
  refine ⟨⟨h1, h2, h3, h4, by rw [hl]; rfl, fun x hx => ?_, fun y hy => by simpa using List.all_eq_true.mp h6 y hy⟩, hl⟩
  have := List.all_eq_true.mp h5 x hx
  unfold locB at this
  split at this
  · rename_i e; exact .inl e
  · rename_i e; exact .inr e
  · cases this
/-- the def F of ours is the statement st of the text -/
def defB (T : Tab) (F : Fn) (st : Stmt) : Bool := scB F (defScope st) && cSs T (nmS F) true (defScope st) F.body (defBody st)
structure DefOk (K : PySem.W.Frag) (mg : Str → Option Value) (T : Tab) (F : Fn) : Prop where
  ex : ∃ st x qual fa fd, Fun K x qual st fa fd ∧ mg (F.name : Str) = some (.ref fa) ∧ Binds K fd (psS F) [] ∧ defB T F st = true
theorem start_slots {K : PySem.W.Frag} {ρ : Rr} {H : Hp} {N : List Str} {ds : List D} {vs : List V} (r : Reps K ρ H ds vs) : SlOk K ρ H (slots N.length ds) (L2.start N vs) := by
  have hl := r.length
  refine ⟨by unfold slots L2.start; simp only [List.length_append, List.length_map, List.length_replicate]; omega, fun i d h => ?_⟩
  unfold slots at h
  have hi : i < ds.length := by
    refine Nat.lt_of_not_le fun hn => ?_
    rw [List.getElem?_append_right (by simpa using hn), List.getElem?_replicate] at h
    split at h <;> cases h
  rw [List.getElem?_append_left (by simpa using hi), List.getElem?_map] at h
  have h' : ds[i]? = some d := by
    cases q : ds[i]? with
    | none => rw [q] at h; cases h
    | some z => rw [q] at h; cases h; rfl
  obtain ⟨v, hv, rv⟩ := r.get h'
  refine ⟨v, ?_, rv⟩
  unfold L2.start
  rw [List.getElem?_append_left (by rw [List.length_map, ← hl]; exact hi), List.getElem?_map, hv]
  rfl
theorem fn_body {P : Program} {w : World} {K : PySem.W.Frag} {mg : Str → Option Value} {base : Heap} {T : Tab} {Fs : List Fn} {Gv : List D} {ca : Nat → Addr} {d f : Nat} {F : Fn} {st : Stmt} {x qual : Str} {fa : Addr} {fd : FuncData}
    (gf : GF P w K mg base T (callF Fs Gv d) Gv ca (d + 2)) (cf : ClsF P w K mg base T ca) (hF : Fs[f]? = some F) (fn : Fun K x qual st fa fd) (hd : defB T F st = true) :
    FnOk P w K mg base (L2.CX P w) (d + 3) fa fd (psS F) (spF K ca F.np (callF Fs Gv (d + 1) f)) := by
  unfold defB at hd
  simp only [Bool.and_eq_true] at hd
  obtain ⟨S, hnp⟩ := scB_ok hd.1
  refine fn.okX S (fun vs H Q E h => ?_) (fun cdv A outer s H vs Q E hr hsp => ?_)
  · obtain ⟨ds, m, ρ, h1, _⟩ := h
    rw [hnp]; exact h1
  · obtain ⟨ds, m, ρ, h1, r, k, h⟩ := hsp
    let X := cxOf (L2.CX P w) P w K mg base (nmS F) qual (defScope st) fa cdv A outer s H E
    have tk : Takes X (fun cls d _ H => E cls d H) := takes_of rfl rfl rfl rfl
    have pw : PassesOwn (model X.prog X.w) X.A X.env X.xe := passes_of (K := fun e s'' => L2.CX P w outer H s E e s'') rfl
    have ec : EC X (fun cls d _ H => E cls d H) T (callF Fs Gv d) Gv ca (d + 2) (nmS F) (defScope st) true := ⟨gf, rfl, rfl, S.nd, fun _ => ⟨rfl, hr⟩, tk⟩
    have sx : SX X (fun cls d _ H => E cls d H) T (callF Fs Gv d) Gv ca (d + 2) (nmS F) (defScope st) true := by
      refine ⟨ec, fun x hx => ⟨?_, .inl rfl⟩, pw, S.kind⟩
      unfold locB at hx
      split at hx
      · rename_i e; exact .inl e
      · rename_i e; exact .inr e
      · cases hx
    have tx : TX X T ca (d + 2) := ⟨cf, Nat.le_add_left _ _, rfl, rfl⟩
    refine ⟨_, snd_Ss (w := whileW) F.body X _ _ sx tx hd.2, slots F.N.length ds, m, ρ, ?_, k, ?_⟩
    · have := start_slots (N := nmS F) r
      unfold nmS at this
      rw [List.length_map] at this
      exact this
    · have hds : ds.length = F.np := by rw [r.length]; exact h1
      have hb : m.length = ρ.c.length := k.len.symm
      simp only [callF, hF, hds, if_pos] at h
      cases q : evSs (callF Fs Gv d) Gv whileW F.body (slots F.N.length ds) m with
      | bad => rw [q] at h; exact h.elim
      | brk σ2 m2 => rw [q] at h; exact h.elim
      | cnt σ2 m2 => rw [q] at h; exact h.elim
      | next σ2 m2 =>
        rw [q] at h
        intro σ' ρ2 H2 e2 k2 s2
        simp only [endF] at h
        cases q2 : leave F.keep m.length .non m2 with
        | bad => rw [q2] at h; exact h.elim
        | exc c fs m3 =>
          exfalso
          unfold leave at q2
          split at q2
          · rename_i z; cases z
          · split at q2 <;> cases q2
        | ok d3 m3 =>
          rw [q2] at h
          obtain ⟨ρ3, a1, a2, a3⟩ := leave_rep k2 e2 hb rep_non q2
          exact h _ _ _ a1 a2 a3
      | ret d2 m2 =>
        rw [q] at h
        intro v ρ2 H2 e2 k2 r2
        simp only [endF] at h
        cases q2 : leave F.keep m.length d2 m2 with
        | bad => rw [q2] at h; exact h.elim
        | exc c fs m3 =>
          exfalso
          unfold leave at q2
          split at q2
          · split at q2
            · split at q2 <;> cases q2
            · split at q2
              · split at q2 <;> cases q2
              · cases q2
          · split at q2 <;> cases q2
        | ok d3 m3 =>
          rw [q2] at h
          obtain ⟨ρ3, a1, a2, a3⟩ := leave_rep k2 e2 hb r2 q2
          exact h _ _ _ a1 a2 a3
      | exc c fs σ2 m2 =>
        rw [q] at h
        intro cls dd σ' ρ2 H2 e2 k2 s2 x2
        simp only [endF] at h
        cases q2 : leaveX m.length c fs m2 with
        | bad => rw [q2] at h; exact h.elim
        | ok d3 m3 =>
          exfalso
          unfold leaveX at q2
          split at q2 <;> cases q2
        | exc c' gs m3 =>
          rw [q2] at h
          obtain ⟨_, a1, a2, a3⟩ := leaveX_rep k2 e2 hb x2 q2
          exact h _ _ _ _ a1 a2 a3
structure GlF (K : PySem.W.Frag) (mg : Str → Option Value) (T : Tab) (Gv : List D) : Prop where
  blt : ∀ x ∈ bltNames, mg x = none
  gl : ∀ (k : Nat) (name : Str), T.gs[k]? = some name → ∃ v u d, mg name = some u ∧ RelV v u ∧ Gv[k]? = some d ∧ ∀ ρ H, Rep K ρ H d v
theorem all_fns {P : Program} {w : World} {K : PySem.W.Frag} {mg : Str → Option Value} {base : Heap} {T : Tab} {Fs : List Fn} {Gv : List D} {ca : Nat → Addr} (hT : T.fs = Fs.map fun F => ((F.name : Str), F.np)) (g : GlF K mg T Gv) (cf : ClsF P w K mg base T ca) (df : ∀ F ∈ Fs, DefOk K mg T F) :
    ∀ d, GF P w K mg base T (callF Fs Gv d) Gv ca (d + 2) := by
  have look : ∀ (f : Nat) (name : Str) (ar : Nat), T.fs[f]? = some (name, ar) → ∃ F, Fs[f]? = some F ∧ name = (F.name : Str) ∧ ar = F.np := fun f name ar h => by
    rw [hT, List.getElem?_map] at h
    cases q : Fs[f]? with
    | none => rw [q] at h; cases h
    | some F => rw [q] at h; cases h; exact ⟨F, rfl, rfl, rfl⟩
  have ar : ∀ (d f : Nat) (name : Str) (ar : Nat) (ds : List D) (m : Mem), T.fs[f]? = some (name, ar) → callF Fs Gv d f ds m ≠ .bad → ds.length = ar := fun d f name ar ds m h hne => by
    obtain ⟨F, hF, _, rfl⟩ := look f name ar h
    cases d with
    | zero => exact absurd rfl hne
    | succ d =>
      by_cases z : ds.length = F.np
      · exact z
      · exact absurd (by simp only [callF, hF, if_neg z]) hne
  intro d
  induction d with
  | zero =>
    refine ⟨g.blt, fun f name ar h => ?_, ar 0, g.gl⟩
    obtain ⟨F, hF, rfl, rfl⟩ := look f name ar h
    obtain ⟨st, x, qual, fa, fd, fn, mf, hb, hd⟩ := (df F (List.mem_of_getElem? hF)).ex
    refine ⟨fa, fd, psS F, mf, fn.kp, hb, fun vs H Q E z => ?_, fun A outer s H args us vs Q E _ _ _ _ z => ?_⟩
    all_goals
      obtain ⟨ds, m, ρ, _, _, _, z⟩ := z
      exact z.elim
  | succ d ih =>
    refine ⟨g.blt, fun f name ar h => ?_, ar (d + 1), g.gl⟩
    obtain ⟨F, hF, rfl, rfl⟩ := look f name ar h
    obtain ⟨st, x, qual, fa, fd, fn, mf, hb, hd⟩ := (df F (List.mem_of_getElem? hF)).ex
    exact ⟨fa, fd, psS F, mf, fn.kp, hb, fn_body ih cf hF fn hd⟩
end G

set_option Elab.async false
set_option linter.all false
set_option maxRecDepth 100000
set_option maxHeartbeats 4000000
/-! G26: the facts of the top, by a Hook; the end. -/
namespace G
open PySem PySem.Spec PyProof.Rows L2
/-- a def of the text: ours, its own name, its statement -/
structure PD where
  F : Fn
  own : Str
  st : Stmt
def PD.dd (p : PD) : He.DefD := ⟨(Str.ofString p.F.name, none), p.own, p.own, defArgs p.st, defBody p.st, defScope p.st, [], []⟩
/-- a class over ValueError: its name, the parameters of its __init__ (none or one), that def -/
structure CD where
  x : Str
  ar : Nat
  qual : Str
  st : Stmt
abbrev ClV : Type := Option (Str × Str × Arguments × FuncBody × Scope × Addr × List Str × Addr)
def clV (K : PySem.W.Frag) (x : Str) : ClV := match K.lookup (He.ma K (He.ga K x) "__init__") with
  | some ⟨_, _, .func fd, _⟩ => some (fd.name, fd.qualname, fd.params, fd.body, fd.scope, fd.globals, fd.closure.map (·.1), fd.builtins)
  | _ => none
def CD.val (d : CD) : ClV := some ("__init__", d.qual, defArgs d.st, .stmts (defBody d.st), defScope d.st, mainGlobals, ["__class__"], builtinsNs)
def oexB (K : PySem.W.Frag) (C : Addr) : Bool := (match K.lookup C with
  | some ⟨.type "type", _, .cls cd, sl⟩ => (match cd.mro, sl.toList with
    | .ref C' :: bm, [_, _, _, _, some (.builtin nid), _] => C' == C && nid == "ValueError.__new__" && !cd.hasDel && cd.hasDict && PySem.HandSPX.refsVE bm
    | _, _ => false)
  | _ => false) && He.eqO (PySem.W.findIn K (.ref C) "__setattr__") (some (some (.builtin "object.__setattr__"))) && decide (PySem.W.subIn K (.ref C) (.type "BaseException") = some true) && decide (PySem.W.typeIn K (.ref C) = some (.type "type")) && PySem.W.keepIn K (.ref C)
theorem oexB_ok {K : PySem.W.Frag} {C : Addr} (h : oexB K C = true) : OexC K C := by
  unfold oexB at h
  simp only [Bool.and_eq_true, decide_eq_true_eq] at h
  obtain ⟨⟨⟨⟨h1, h2⟩, h3⟩, h4⟩, h5⟩ := h
  refine ⟨?_, He.eqO_ok h2, h3, h4, h5⟩
  split at h1
  · rename_i dd cd sl ho
    split at h1
    · rename_i C' bm k0 k1 k2 k3 nid k5 hm hs
      simp only [Bool.and_eq_true, beq_iff_eq, Bool.not_eq_true'] at h1
      obtain ⟨⟨⟨⟨rfl, rfl⟩, hdel⟩, hdc⟩, ht⟩ := h1
      obtain ⟨nm, bs, mro, ns, qn, hd, sn, sub, ab, col, del⟩ := cd
      dsimp only at hm hdel hdc
      subst hm hdel hdc
      obtain ⟨l⟩ := sl
      dsimp only at hs
      subst hs
      exact ⟨nm, qn, ns, bs, bm, sn, sub, ab, col, dd, k0, k1, k2, k3, k5, ho, ht⟩
    · cases h1
  · cases h1
def fileB (P : Program) (K : PySem.W.Frag) (a : Addr) : Bool := match K.lookup a with
  | some ⟨_, _, .fields vs, _⟩ => (match (vs[2]? : Option Value) with
    | some (.str file _) => (P.main.file : Str) == file
    | _ => false)
  | _ => false
theorem fileB_ok {P : Program} {K : PySem.W.Frag} {a : Addr} (h : fileB P K a = true) : ∃ cl d vs sl file tf, K.lookup a = some ⟨cl, d, .fields vs, sl⟩ ∧ vs[2]? = some (.str file tf) ∧ ((P.main.file : Str) == file) = true := by
  unfold fileB at h
  split at h
  · rename_i cl d vs sl ho
    split at h
    · rename_i file tf hv
      exact ⟨cl, d, vs, sl, file, tf, ho, hv, h⟩
    · cases h
  · cases h
def cellB (K : PySem.W.Frag) (a C : Addr) : Bool := match K.lookup a with
  | some ⟨_, _, .cell (some (.ref D)), _⟩ => D == C
  | _ => false
theorem cellB_ok {K : PySem.W.Frag} {a C : Addr} (h : cellB K a C = true) : ∃ cl d sl, K.lookup a = some ⟨cl, d, .cell (some (.ref C)), sl⟩ := by
  unfold cellB at h
  split at h
  · rename_i cl d D sl ho
    rw [eq_of_beq h] at ho
    exact ⟨cl, d, sl, ho⟩
  · cases h
def iniK (P : Program) (K : PySem.W.Frag) (d : CD) : Bool := match K.lookup (He.ma K (He.ga K d.x) "__init__") with
  | some ⟨_, _, .func fd, _⟩ => (fd.defaults == .none) && PySem.W.codeIn K fd.code d.qual && (match fd.code, fd.closure with
    | .ref cda, [(_, cc)] => fileB P K cda && cellB K cc (He.ga K d.x)
    | _, _ => false)
  | _ => false
def supB (K : PySem.W.Frag) (C : Addr) : Bool := match PySem.W.clsIn K C with
  | some cd => He.eqO (PySem.W.alongIn K "__init__" ((cd.mro.dropWhile (· != .ref C)).drop 1)) (some (some (.builtin "ValueError.__init__")))
  | none => false
def clOk (P : Program) (K : PySem.W.Frag) (d : CD) : Bool :=
  (He.Fa.glo d.x).ok K && okN d.x && oexB K (He.ga K d.x) && He.eqO (PySem.W.findIn K (.ref (He.ga K d.x)) "__init__") (some (some (.ref (He.ma K (He.ga K d.x) "__init__")))) &&
  decide (PySem.W.typeIn K (.ref (He.ma K (He.ga K d.x) "__init__")) = some (.type "function")) && iniK P K d && supB K (He.ga K d.x) && decide (PySem.W.mroIn K (He.ga K d.x) (.ref (He.ga K d.x)) = some true) &&
  decide (PySem.W.subIn K (.ref (He.ga K d.x)) (.type "ValueError") = some true) && He.eqO (PySem.W.nsIn K PySem.cStatics "thirdparty.any") (some none) && !(P.main.scope.names.lookup ("super" : Str)).isSome &&
  (if d.ar = 1 then xfB K (He.ga K d.x) && He.eqO (PySem.W.findIn K (.ref (He.ga K d.x)) "number") (some none) else true)
/-- the text of such an __init__ -/
def Binder (qual : Str) (st : Stmt) (ps : List Str) : Prop := ∀ (kV doc pm : Value) (an : Option Addr) (cdv ct : Value) (cc : Addr) (us : List Value), us.length = ps.length →
  bindArgs (PySem.W.ksFn "__init__" qual (defArgs st) (defBody st) (defScope st) .none kV doc pm an cdv ct cc) ⟨us, []⟩ = pure (ps.zip us)
def CD.Ok (d : CD) : Prop := (∃ ar : Arg, ((defArgs d.st).posonlyargs ++ (defArgs d.st).args).head? = some ar ∧ ar.arg = "self") ∧
  ((d.ar = 0 ∧ Binder d.qual d.st ["self"] ∧ iniB (defScope d.st) ["self"] = true ∧ ∃ p0 p1 p2 p3 p4, defBody d.st = [.Expr (supE [] p0 p1 p2 p3) p4] ∧ (p2.endLine == p3.line) = true) ∨
   (d.ar = 1 ∧ Binder d.qual d.st ["self", "number"] ∧ iniB (defScope d.st) ["self", "number"] = true ∧ ∃ p0 p1 p2 p3 p4 q1 q2 q3 q4 q5, defBody d.st = [.Expr (supE [.Name "number" q1] p0 p1 p2 p3) p4, .Assign [.Attribute (.Name "self" q2) "number" q3] (.Name "number" q4) q5] ∧ (p2.endLine == p3.line) = true))
theorem clF_of {P : Program} {w : World} {K : PySem.W.Frag} {mg : Str → Option Value} {base h : Heap} {d : CD} (KX : K.In h) (G : h.Ns mainGlobals mg) (hs : mg "super" = none) (ok : clOk P K d = true) (v : clV K d.x = d.val) (t : d.Ok) : ClF P w K mg base d.x d.ar (He.ga K d.x) := by
  unfold clOk at ok
  simp only [Bool.and_eq_true, decide_eq_true_eq, Bool.not_eq_true'] at ok
  obtain ⟨⟨⟨⟨⟨⟨⟨⟨⟨⟨⟨k1, k2⟩, k3⟩, k4⟩, k5⟩, k6⟩, k7⟩, k8⟩, k9⟩, k10⟩, k11⟩, k12⟩ := ok
  refine ⟨He.glo_ok KX G k1, k2, oexB_ok k3, fun z => ?_, ?_⟩
  · rw [if_pos z, Bool.and_eq_true] at k12
    exact ⟨xfB_ok k12.1, He.eqO_ok k12.2⟩
  · unfold iniK at k6
    unfold clV at v
    split at k6
    · rename_i oc od fd osl ho
      rw [ho] at v
      obtain ⟨n1, n2, n3, n4, n5, n6, n7, n8, n9, n10, n11, n12, n13, n14, n15⟩ := fd
      simp only [CD.val, Option.some.injEq, Prod.mk.injEq] at v
      obtain ⟨v1, v2, v3, v4, v5, v6, v7, v8⟩ := v
      simp only [Bool.and_eq_true] at k6
      obtain ⟨⟨k0, k13⟩, k14⟩ := k6
      have k0 : n8 = .none := eq_of_beq k0
      subst k0
      split at k14
      · rename_i _ _ cda x1 cc
        simp only [List.map_cons, List.map_nil, List.cons.injEq, and_true] at v7
        subst v1 v2 v3 v4 v5 v6 v7 v8
        simp only [Bool.and_eq_true] at k14
        have T : IniC P K (He.ga K d.x) (He.ma K (He.ga K d.x) "__init__") cda cc := by
          refine ⟨oexB_ok k3, fileB_ok k14.1, cellB_ok k14.2, ?_, k8, k9, He.eqO_ok k10, k11⟩
          unfold supB at k7
          split at k7
          · rename_i cd hcd
            exact ⟨cd, hcd, He.eqO_ok k7⟩
          · cases k7
        obtain ⟨⟨ar, hp, har⟩, t⟩ := t
        refine ⟨He.ma K (He.ga K d.x) "__init__", PySem.W.ksFn "__init__" d.qual (defArgs d.st) (defBody d.st) (defScope d.st) .none n9 n10 n11 n12 (.ref cda) n14 cc, He.eqO_ok k4, k5, ?_⟩
        rcases t with ⟨a0, bd, sc, p0, p1, p2, p3, p4, hb, hl⟩ | ⟨a1, bd, sc, p0, p1, p2, p3, p4, q1, q2, q3, q4, q5, hb, hl⟩
        · refine .inl ⟨a0, .all fun us hus => bd _ _ _ _ _ _ _ us hus, ?_⟩
          rw [hb] at ho ⊢
          exact init0_fn T hl ho k13 hp har sc hs
        · refine .inr ⟨a1, .all fun us hus => bd _ _ _ _ _ _ _ us hus, ?_⟩
          rw [hb] at ho ⊢
          rw [if_pos a1, Bool.and_eq_true] at k12
          exact init1_fn T hl ho k13 hp har sc hs (He.eqO_ok k12.2)
      · cases k14
    · cases k6
/-! ### the Hook -/
abbrev AlG : Type := He.AlD × Bool × List ClV
def obsG (P : Program) (fa : List He.Fa) (fn : List He.DefD) (cs : List CD) (K : PySem.W.Frag) : AlG := (He.obsD fa fn K, cs.all (clOk P K), cs.map fun d => clV K d.x)
def valG (fn : List He.DefD) (cs : List CD) : AlG := (He.valD fn, true, cs.map CD.val)
abbrev SaysG (P : Program) (fa : List He.Fa) (fn : List He.DefD) (cs : List CD) (K : PySem.W.Frag) : Prop := obsG P fa fn cs K = valG fn cs
def obsGG (P : Program) (n : Nat) (fa : List He.Fa) (fn : List He.DefD) (cs : List CD) (g : Addr → Option Obj) : AlG := obsG P fa fn cs (He.frG g (He.asD g n ++ [PySem.cStatics]))
def hookG (P : Program) (n : Nat) (fa : List He.Fa) (fn : List He.DefD) (cs : List CD) : PySem.W.Hook where
  α := AlG
  obs := fun s => obsGG P n fa fn cs s.heap.get?
  val := fun _ => valG fn cs
  says := fun _ h => ∃ K : PySem.W.Frag, K.In h ∧ SaysG P fa fn cs K
  of := fun _ _ e => ⟨_, He.frG_in, e⟩
  keeps := fun _ _ _ ⟨K, hK, c⟩ k => ⟨K, PySem.W.Frag.In.keeps hK k, c⟩
theorem obsGG_eq {P : Program} {n : Nat} {fa : List He.Fa} {fn : List He.DefD} {cs : List CD} {g : Addr → Option Obj} {s : Shared} (h : ∀ a, g a = s.heap.get? a) : obsGG P n fa fn cs g = (hookG P n fa fn cs).obs s := by
  have e : g = s.heap.get? := funext h
  rw [e]
  rfl
/-! ### constants -/
def faD : Str × D → List He.Fa
  | (x, .int i) => [.int x i]
  | (x, .str z) => [.str x z]
  | _ => []
def PD.Bd (p : PD) : Prop := ∀ (kV doc pm : Value) (an : Option Addr) (cdv ct : Value) (us : List Value), us.length = (psS p.F).length →
  bindArgs (PySem.W.fnOf p.own p.own (defArgs p.st) (defBody p.st) (defScope p.st) .none kV doc pm an cdv ct) ⟨us, []⟩ = pure ((psS p.F).zip us)
/-- the whole text: defs, constants, classes -/
structure Txt where
  ps : List PD
  gs : List (Str × D)
  cs : List CD
def Txt.tab (t : Txt) : Tab := ⟨t.ps.map fun p => (Str.ofString p.F.name, p.F.np), t.gs.map (·.1), t.cs.map fun d => (d.x, d.ar)⟩
def Txt.fns (t : Txt) : List Fn := t.ps.map (·.F)
def Txt.gv (t : Txt) : List D := t.gs.map (·.2)
def Txt.ca (K : PySem.W.Frag) (t : Txt) (c : Nat) : Addr := match t.cs[c]? with
  | some d => He.ga K d.x
  | none => 0
/-- constants that are told -/
def flatB : D → Bool
  | .int _ => true
  | .str _ => true
  | _ => false
def Txt.fa (t : Txt) : List He.Fa := (t.ps.map fun p => He.Fa.glo (Str.ofString p.F.name)) ++ (bltNames.map He.Fa.free) ++ (t.gs.flatMap faD) ++ ((List.range t.cs.length).flatMap fun i => (List.range t.cs.length).map fun j => He.Fa.exm ((t.cs.map CD.x).getD i Str.empty) ((t.cs.map CD.x).getD j Str.empty) (decide (i = j)))
def Txt.fn (t : Txt) : List He.DefD := t.ps.map PD.dd
structure Txt.Ok (t : Txt) : Prop where
  chk : ∀ p ∈ t.ps, defB t.tab p.F p.st = true
  bd : ∀ p ∈ t.ps, p.Bd
  gs : t.gs.all (fun g => flatB g.2) = true
  cs : ∀ d ∈ t.cs, d.Ok
section
variable {P : Program} {w : World} {K : PySem.W.Frag} {h : Heap} {mg : Str → Option Value} {t : Txt}
theorem says_fact (c : SaysG P t.fa t.fn t.cs K) {f : He.Fa} (hf : f ∈ t.fa) : f.ok K = true := by
  have c1 : He.SaysD t.fa t.fn K := congrArg (fun z : AlG => z.1) c
  obtain ⟨i, hi, e⟩ := List.mem_iff_getElem.mp hf
  exact c1.fact i (f := f) (by rw [List.getElem?_eq_getElem hi, e])
theorem says_cls (ok : t.Ok) (KX : K.In h) (G : h.Ns mainGlobals mg) (c : SaysG P t.fa t.fn t.cs K) (base : Heap) : ClsF P w K mg base t.tab (t.ca K) := by
  have c2 : t.cs.all (clOk P K) = true := congrArg (fun z : AlG => z.2.1) c
  have c3 : t.cs.map (fun d => clV K d.x) = t.cs.map CD.val := congrArg (fun z : AlG => z.2.2) c
  have free : ∀ x ∈ bltNames, mg x = none := fun x hx => He.free_ok KX G (says_fact c (by
    unfold Txt.fa
    exact List.mem_append_left _ (List.mem_append_left _ (List.mem_append_right _ (List.mem_map_of_mem hx)))))
  refine ⟨fun i x ar hi => ?_, fun i j hi hj => ?_⟩
  · have hi' : (t.cs.map fun d => (d.x, d.ar))[i]? = some (x, ar) := hi
    rw [List.getElem?_map] at hi'
    cases q : t.cs[i]? with
    | none => rw [q] at hi'; cases hi'
    | some d =>
      rw [q] at hi'
      cases hi'
      have hm := List.mem_of_getElem? q
      have e : (t.cs.map fun d => clV K d.x)[i]? = (t.cs.map CD.val)[i]? := by rw [c3]
      rw [List.getElem?_map, List.getElem?_map, q] at e
      have hca : t.ca K i = He.ga K d.x := by unfold Txt.ca; rw [q]
      rw [hca]
      exact clF_of KX G (free _ (by decide)) (List.all_eq_true.mp c2 d hm) (Option.some.inj e) (ok.cs d hm)
  · have hi' : i < t.cs.length := by
      have : i < (t.cs.map fun d => (d.x, d.ar)).length := hi
      simpa using this
    have hj' : j < t.cs.length := by
      have : j < (t.cs.map fun d => (d.x, d.ar)).length := hj
      simpa using this
    have hca : ∀ {i : Nat}, i < t.cs.length → t.ca K i = He.ga K ((t.cs.map CD.x).getD i Str.empty) := fun {i} hi => by
      unfold Txt.ca
      rw [List.getElem?_eq_getElem hi, List.getD_eq_getElem?_getD, List.getElem?_map, List.getElem?_eq_getElem hi]
      rfl
    rw [hca hi', hca hj']
    refine He.exm_ok (says_fact c ?_)
    unfold Txt.fa
    exact List.mem_append_right _ (List.mem_flatMap.mpr ⟨i, List.mem_range.mpr hi', List.mem_map.mpr ⟨j, List.mem_range.mpr hj', rfl⟩⟩)
theorem says_all (ok : t.Ok) (KX : K.In h) (G : h.Ns mainGlobals mg) (c : SaysG P t.fa t.fn t.cs K) (base : Heap) : ∀ d, GF P w K mg base t.tab (callF t.fns t.gv d) t.gv (t.ca K) (d + 2) := by
  have c1 : He.SaysD t.fa t.fn K := congrArg (fun z : AlG => z.1) c
  have c2 : t.cs.all (clOk P K) = true := congrArg (fun z : AlG => z.2.1) c
  have c3 : t.cs.map (fun d => clV K d.x) = t.cs.map CD.val := congrArg (fun z : AlG => z.2.2) c
  have free : ∀ x ∈ bltNames, mg x = none := fun x hx => He.free_ok KX G (says_fact c (by
    unfold Txt.fa
    exact List.mem_append_left _ (List.mem_append_left _ (List.mem_append_right _ (List.mem_map_of_mem hx)))))
  refine all_fns (by simp only [Txt.tab, Txt.fns, List.map_map]; rfl) ⟨free, fun k name hk => ?_⟩ (says_cls ok KX G c base) fun F hF => ?_
  · have hk' : (t.gs.map (·.1))[k]? = some name := hk
    rw [List.getElem?_map] at hk'
    cases q : t.gs[k]? with
    | none => rw [q] at hk'; cases hk'
    | some g =>
      rw [q] at hk'
      cases hk'
      have hm := List.mem_of_getElem? q
      have hfl := List.all_eq_true.mp ok.gs g hm
      have hgv : t.gv[k]? = some g.2 := by unfold Txt.gv; rw [List.getElem?_map, q]; rfl
      have fm : ∀ f ∈ faD g, f.ok K = true := fun f hf => says_fact c (by
        unfold Txt.fa
        exact List.mem_append_left _ (List.mem_append_right _ (List.mem_flatMap.mpr ⟨g, hm, hf⟩)))
      obtain ⟨x, d⟩ := g
      cases d <;> first | (simp [flatB] at hfl; done) | skip
      · rename_i i
        obtain ⟨tk, e⟩ := He.int_ok KX G (fm (.int x i) (by simp [faD]))
        exact ⟨.int i, _, .int i, e, ⟨tk, rfl⟩, hgv, fun _ _ => rep_int⟩
      · rename_i z
        obtain ⟨tk, e⟩ := He.str_ok KX G (fm (.str x z) (by simp [faD]))
        exact ⟨.str z, _, .str z, e, ⟨tk, rfl⟩, hgv, fun _ _ => rep_str⟩
  · obtain ⟨p, hp, rfl⟩ := List.mem_map.mp hF
    have hd : p.dd ∈ t.fn := List.mem_map_of_mem hp
    obtain ⟨i, hi, e⟩ := List.mem_iff_getElem.mp hd
    obtain ⟨fd, fD⟩ := c1.def_ i (d := p.dd) (by rw [List.getElem?_eq_getElem hi, e])
    have fW : Fun K p.own p.own p.st (He.fAd K p.dd.at_) fd := He5.fun_of fD
    refine ⟨p.st, p.own, p.own, _, fd, fW, ?_, fW.binds (ok.bd p hp), ok.chk p hp⟩
    exact He.glo_ok KX G (says_fact c (by
      unfold Txt.fa
      exact List.mem_append_left _ (List.mem_append_left _ (List.mem_append_left _ (List.mem_map.mpr ⟨p, hp, rfl⟩)))))
end
/-! ### the end -/
theorem walkG {l : PySem.W.OpenLaw} {q : Program} {loose : List Str} {XP : (Str → Option Value) → Heap → Prop} {d : DefRec} {t : Txt} {n0 D : Nat} {f : Nat} {p : PD}
    (hn : l.most = some 63) (hdf : d.params.defaults = []) (hd : d.name = "law") (ok : t.Ok) (hf : t.ps[f]? = some p) (hnm : p.F.name = "law") (hps : psS p.F = [Str.ofString "script"]) (hr : Room (D + 3) callerA)
    (main : ∀ ns : List Int, ns.length ≤ 63 → ∃ m, callF t.fns t.gv (D + 1) f [.scr (ns.map .int)] [] = .ok (.bl true) m) :
    PySem.W.WalkO q loose XP (hookG l.prog n0 t.fa t.fn t.cs).says l.row.toRowW d [] (fun f vs => PySem.call f vs) := by
  refine Att.attach_callB hn hdf fun w s₀ s₁ mg mb fa o pm cd doc a vs ns Gd Y ho hd1 hcd hmg hobj hints hlen hbits hg => ?_
  obtain ⟨K, KX, c⟩ := Y
  have hmg : mg ("law" : Str) = some (.ref fa) := by rw [← hd]; exact hmg
  have c1 : He.SaysD t.fa t.fn K := congrArg (fun z : AlG => z.1) c
  have hp := List.mem_of_getElem? hf
  obtain ⟨i, hi, e⟩ := List.mem_iff_getElem.mp (show p.dd ∈ t.fn from List.mem_map_of_mem hp)
  obtain ⟨fd, fD⟩ := c1.def_ i (d := p.dd) (by rw [List.getElem?_eq_getElem hi, e])
  have fW : Fun K p.own p.own p.st (He.ga K (Str.ofString p.F.name)) fd := He5.fun_of fD
  have hga : mg (Str.ofString p.F.name) = some (.ref (He.ga K (Str.ofString p.F.name))) := He.glo_ok KX Gd.T.g (says_fact c (by
      unfold Txt.fa
      exact List.mem_append_left _ (List.mem_append_left _ (List.mem_append_left _ (List.mem_map.mpr ⟨p, hp, rfl⟩)))))
  rw [hnm] at hga fW
  have efa := hmg.symm.trans hga
  cases efa
  have hfn : t.fns[f]? = some p.F := by
    unfold Txt.fns
    rw [List.getElem?_map, hf]
    rfl
  have hl : ns.length ≤ sizeLine := Nat.le_trans hlen (by rw [sizeLine_eq]; decide)
  obtain ⟨m, hm⟩ := main ns hlen
  refine law_call (x := "script") (CX := L2.CX l.prog w) (fd := fd) (sp := spF K (t.ca K) p.F.np (callF t.fns t.gv (D + 1) f)) KX Gd.T.g Gd.T.b Gd.T.builtins Gd.T.nolimit hg hobj hints hl hr (fun base hb hns => ?_) (fun s u => ?_) (fun H hO hS => ?_) (fun H e s' z => ?_)
  · have S := says_all (P := l.prog) (w := w) ok KX Gd.T.g c base D
    have cf : ClsF l.prog w K mg base t.tab (t.ca K) := says_cls ok KX Gd.T.g c base
    have := fn_body S cf hfn fW (ok.chk p hp)
    rw [hps] at this
    exact this
  · have := fD.bindsA (ps := psS p.F) (ok.bd p hp) s [u] (by rw [hps]; rfl)
    rw [hps] at this
    exact this
  · refine ⟨[.scr (ns.map .int)], [], ⟨[], []⟩, ?_, ?_, ?_, ?_⟩
    · have h1 := (scB_ok (by have := ok.chk p hp; unfold defB at this; rw [Bool.and_eq_true] at this; exact this.1)).2
      rw [hps] at h1
      exact h1
    · refine Reps.cons ?_ Reps.nil
      simp only [Rep]
      refine ⟨a, ns.map V.int, rfl, ?_, by rw [List.length_map]; exact hl, ?_⟩
      · rcases hS with h | h
        · exact .inl ⟨h, fun z => by rcases z with z | z <;> cases z⟩
        · exact .inr h
      · have : ∀ l : List Int, Reps K ⟨[], []⟩ H (l.map G.D.int) (l.map V.int) := fun l => by
          induction l with
          | nil => exact Reps.nil
          | cons x l ih => exact Reps.cons rep_int ih
        exact this ns
    · exact ⟨rfl, List.nodup_nil, fun n o a e => by simp at e, fun a ha => by cases ha⟩
    · rw [hm]
      exact fun v ρ' H' _ _ r => r.bl
  · obtain ⟨_, _, _, _, _, _, _, _, _, _, _, _, z⟩ := z
    exact z
end G

set_option Elab.async false
set_option linter.all false
set_option maxRecDepth 100000
set_option maxHeartbeats 4000000
/-! G27: plain laws of the interpreter: values without cells, calls' ends, loops. -/
namespace G
open PySem PySem.Spec
mutual
/-- no cell is named -/
def nr : D → Bool
  | .tup xs => nrs xs
  | .lst xs => nrs xs
  | .scr xs => nrs xs
  | .dct ks vs => nrs ks && nrs vs
  | .ref _ => false
  | .exn _ fs => nrs fs
  | _ => true
def nrs : List D → Bool
  | [] => true
  | x :: r => nr x && nrs r
end
mutual
theorem frzW_nr (lk : Nat → Option D) : ∀ d : D, nr d = true → frzW lk d = some d
  | .non, _ => rfl
  | .bl _, _ => rfl
  | .int _, _ => rfl
  | .str _, _ => rfl
  | .tup xs, h => by simp only [frzW, frzWs_nr lk xs (by simpa only [nr] using h), Option.map_some]
  | .lst xs, h => by simp only [frzW, frzWs_nr lk xs (by simpa only [nr] using h), Option.map_some]
  | .scr xs, h => by simp only [frzW, frzWs_nr lk xs (by simpa only [nr] using h), Option.map_some]
  | .dct ks vs, h => by
    simp only [nr, Bool.and_eq_true] at h
    simp only [frzW, frzWs_nr lk ks h.1, frzWs_nr lk vs h.2]
  | .ref _, h => by simp [nr] at h
  | .exn _ fs, h => by simp only [frzW, frzWs_nr lk fs (by simpa only [nr] using h), Option.map_some]
theorem frzWs_nr (lk : Nat → Option D) : ∀ ds : List D, nrs ds = true → frzWs lk ds = some ds
  | [], _ => rfl
  | d :: ds, h => by
    simp only [nrs, Bool.and_eq_true] at h
    simp only [frzWs, frzW_nr lk d h.1, frzWs_nr lk ds h.2]
end
def nrO : MO → Bool
  | .lst xs => nrs xs
  | _ => false
def nrM (m : Mem) : Bool := m.all nrO
theorem frzM_nr (lk : Nat → Option D) : ∀ m : Mem, nrM m = true → frzM lk m = some m
  | [], _ => rfl
  | o :: r, h => by
    simp only [nrM, List.all_cons, Bool.and_eq_true] at h
    have : frzO lk o = some o := by
      cases o with
      | lst xs => simp only [frzO, frzWs_nr lk xs h.1, Option.map_some]
      | _ => simp [nrO] at h
    simp only [frzM, this, frzM_nr lk r h.2]
theorem leave_nr {b : Nat} {d : D} {m : Mem} (hd : nr d = true) (hm : nrM (m.take b) = true) : leave false b d m = .ok d (m.take b) := by
  unfold leave
  simp only [frzM_nr _ _ hm, frzD, frzW_nr _ _ hd]
theorem leave_ref {b n : Nat} {m : Mem} {xs : List D} (hn : b ≤ n) (hx : m[n]? = some (.lst xs)) (hxs : nrs xs = true) (hm : nrM (m.take b) = true) : leave true b (.ref n) m = .ok (.ref b) (m.take b ++ [.lst xs]) := by
  unfold leave
  simp only [if_neg (Nat.not_lt.mpr hn), hx, frzM_nr _ _ hm, frzWs_nr _ _ hxs]
theorem leaveX_nr {b c : Nat} {fs : List D} {m : Mem} (hd : nrs fs = true) (hm : nrM (m.take b) = true) : leaveX b c fs m = .exc c fs (m.take b) := by
  unfold leaveX
  simp only [frzM_nr _ _ hm, frzDs, frzWs_nr _ _ hd]
@[simp] theorem nrs_int (l : List Int) : nrs (l.map D.int) = true := by
  induction l with
  | nil => rfl
  | cons x l ih => simp only [List.map_cons, nrs, nr, ih, Bool.and_self]
theorem nrs_all {l : List D} (h : ∀ d ∈ l, nr d = true) : nrs l = true := by
  induction l with
  | nil => rfl
  | cons x l ih => simp only [nrs, h x List.mem_cons_self, ih fun d hd => h d (List.mem_cons_of_mem _ hd), Bool.and_self]
theorem nrs_mem {l : List D} (h : nrs l = true) : ∀ d ∈ l, nr d = true := by
  induction l with
  | nil => exact fun d hd => by cases hd
  | cons x l ih =>
    simp only [nrs, Bool.and_eq_true] at h
    intro d hd
    rcases List.mem_cons.mp hd with rfl | hd
    · exact h.1
    · exact ih h.2 d hd
/-- a call's end, by how its body ends -/
theorem call_ret {P : List Fn} {Gl : List D} {n f : Nat} {F : Fn} {ds : List D} {m m' : Mem} {d : D} (hF : P[f]? = some F) (hl : ds.length = F.np) (hk : F.keep = false) (hb : evSs (callF P Gl n) Gl whileW F.body (slots F.N.length ds) m = .ret d m') (hd : nr d = true)
    (hm : nrM (m'.take m.length) = true) : callF P Gl (n + 1) f ds m = .ok d (m'.take m.length) := by
  simp only [callF, hF, hl, if_pos, hb, endF, hk, leave_nr hd hm]
/-- .. where the memory is as it was -/
theorem call_ret' {P : List Fn} {Gl : List D} {n f : Nat} {F : Fn} {ds : List D} {m t : Mem} {d : D} (hF : P[f]? = some F) (hl : ds.length = F.np) (hk : F.keep = false) (hm : nrM m = true) (hb : evSs (callF P Gl n) Gl whileW F.body (slots F.N.length ds) m = .ret d (m ++ t)) (hd : nr d = true) :
    callF P Gl (n + 1) f ds m = .ok d m := by
  have := call_ret hF hl hk hb hd (by rw [List.take_left]; exact hm)
  rwa [List.take_left] at this
theorem call_exc' {P : List Fn} {Gl : List D} {n f c : Nat} {F : Fn} {ds fs : List D} {m t : Mem} {σ : Sl} (hF : P[f]? = some F) (hl : ds.length = F.np) (hm : nrM m = true) (hb : evSs (callF P Gl n) Gl whileW F.body (slots F.N.length ds) m = .exc c fs σ (m ++ t)) (hd : nrs fs = true) :
    callF P Gl (n + 1) f ds m = .exc c fs m := by
  have := leaveX_nr (b := m.length) (c := c) (m := m ++ t) hd (by rw [List.take_left]; exact hm)
  rw [List.take_left] at this
  simp only [callF, hF, hl, if_pos, hb, endF, this]
/-! ### comprehensions that change nothing -/
theorem lc_pure {xs : List D} {g : D → Sl → Option Sl} {tst : Sl → Mem → XR Bool} {el : Sl → Mem → XR D} {σ : Sl} {m : Mem} (p : D → Bool) (f : D → D)
    (h : ∀ x ∈ xs, ∃ σ', g x σ = some σ' ∧ tst σ' m = .ok (p x) m ∧ (p x = true → el σ' m = .ok (f x) m)) (hl : xs.length ≤ lim) : lcLoop (srcS xs) g tst el σ xs.length 0 [] m = .ok ((xs.filter p).map f) m := by
  have gen : ∀ (k i : Nat) (acc : List D), i + k = xs.length → acc.length + k ≤ lim → lcLoop (srcS xs) g tst el σ k i acc m = .ok (acc ++ ((xs.drop i).filter p).map f) m := by
    intro k
    induction k with
    | zero =>
      intro i acc hi _
      have : xs.drop i = [] := List.drop_eq_nil_of_le (by omega)
      simp only [lcLoop, srcS, if_true, this, List.filter_nil, List.map_nil, List.append_nil]
    | succ k ih =>
      intro i acc hi ha
      have hlt : i < xs.length := by omega
      obtain ⟨σ', h1, h2, h3⟩ := h xs[i] (List.getElem_mem hlt)
      have e : (srcS xs).at' i m = some xs[i] := List.getElem?_eq_getElem hlt
      rw [List.drop_eq_getElem_cons hlt]
      unfold lcLoop
      simp only [e, h1, h2]
      cases hp : p xs[i] with
      | false =>
        simp only [List.filter_cons, hp, Bool.false_eq_true, if_false]
        exact ih (i + 1) acc (by omega) (by omega)
      | true =>
        simp only [h3 hp, if_pos (show acc.length < lim by omega), List.filter_cons, hp, if_true, List.map_cons]
        rw [ih (i + 1) _ (by omega) (by rw [List.length_append, List.length_singleton]; omega), List.append_assoc]
        rfl
  have := gen xs.length 0 [] (by omega) (by simpa using hl)
  simpa using this
theorem filter_tt (xs : List D) : xs.filter (fun _ => true) = xs := List.filter_eq_self.mpr fun _ _ => rfl
/-- .. without a test -/
theorem lc_map {xs : List D} {g : D → Sl → Option Sl} {tst : Sl → Mem → XR Bool} {el : Sl → Mem → XR D} {σ : Sl} {m : Mem} (f : D → D)
    (h : ∀ x ∈ xs, ∃ σ', g x σ = some σ' ∧ tst σ' m = .ok true m ∧ el σ' m = .ok (f x) m) (hl : xs.length ≤ lim) : lcLoop (srcS xs) g tst el σ xs.length 0 [] m = .ok (xs.map f) m := by
  have := lc_pure (p := fun _ => true) f (fun x hx => (h x hx).imp fun _ q => ⟨q.1, q.2.1, fun _ => q.2.2⟩) hl
  rwa [filter_tt] at this
/-- a source over a range as one over its numbers -/
theorem srcN_at (lo : Int) (n : Nat) (i : Nat) (m : Mem) : (srcN lo n 1).at' i m = (srcS ((List.range n).map fun k : Nat => D.int (lo + k))).at' i m := by
  simp only [srcN, srcS]
  by_cases h : i < n
  · rw [if_pos h, List.getElem?_map, List.getElem?_range h]
    simp
  · rw [if_neg h, List.getElem?_map, List.getElem?_eq_none (by simpa using h)]
    rfl
theorem lcN {lo : Int} {n : Nat} {g : D → Sl → Option Sl} {tst : Sl → Mem → XR Bool} {el : Sl → Mem → XR D} {σ : Sl} : ∀ (k i : Nat) (acc : List D) (m : Mem), lcLoop (srcN lo n 1) g tst el σ k i acc m = lcLoop (srcS ((List.range n).map fun k : Nat => D.int (lo + k))) g tst el σ k i acc m
  | 0, i, acc, m => rfl
  | k + 1, i, acc, m => by
    unfold lcLoop
    rw [srcN_at]
    simp only [lcN k]
end G

set_option Elab.async false
set_option linter.all false
set_option maxRecDepth 100000
set_option maxHeartbeats 4000000
/-! G28: the interpreter's equations, for simp. -/
namespace G
open PySem PySem.Spec
def tri {α : Type} (o : Option Bool) (x y z : α) : α := match o with
  | some true => x
  | some false => y
  | none => z
@[simp] theorem tri_some {α : Type} {b : Bool} {x y z : α} : tri (some b) x y z = if b = true then x else y := by cases b <;> rfl
def oB {α β : Type} (o : Option α) (f : α → β) (z : β) : β := match o with
  | some a => f a
  | none => z
@[simp] theorem oB_some {α β : Type} {a : α} {f : α → β} {z : β} : oB (some a) f z = f a := rfl
section
variable {α β : Type} {a : α} {d x y : D} {m : Mem} {c : Nat} {fs : List D} {σ : Sl} {i j : Int} {b b' : Bool} {s t : Str} {xs ys : List D}
@[simp] theorem bind_ok (f : α → Mem → XR β) : (XR.ok a m).bind f = f a m := rfl
@[simp] theorem bind_exc (f : α → Mem → XR β) : (XR.exc c fs m).bind f = .exc c fs m := rfl
@[simp] theorem ofX_ok (f : α → Mem → SR) : ofX (XR.ok a m) σ f = f a m := rfl
@[simp] theorem ofX_exc (f : α → Mem → SR) : ofX (XR.exc c fs m) σ f = .exc c fs σ m := rfl
@[simp] theorem bind_ite {c : Prop} [Decidable c] {u v : XR α} (f : α → Mem → XR β) : (if c then u else v).bind f = if c then u.bind f else v.bind f := by split <;> rfl
@[simp] theorem ofX_ite {c : Prop} [Decidable c] {u v : XR α} (f : α → Mem → SR) : ofX (if c then u else v) σ f = if c then ofX u σ f else ofX v σ f := by split <;> rfl
@[simp] theorem sbind_ite {c : Prop} [Decidable c] {u v : SR} (f : Sl → Mem → SR) : (if c then u else v).bind f = if c then u.bind f else v.bind f := by split <;> rfl
@[simp] theorem sbind_next (f : Sl → Mem → SR) : (SR.next σ m).bind f = f σ m := rfl
@[simp] theorem sbind_ret (f : Sl → Mem → SR) : (SR.ret d m).bind f = .ret d m := rfl
@[simp] theorem sbind_exc (f : Sl → Mem → SR) : (SR.exc c fs σ m).bind f = .exc c fs σ m := rfl
@[simp] theorem sbind_brk (f : Sl → Mem → SR) : (SR.brk σ m).bind f = .brk σ m := rfl
@[simp] theorem sbind_cnt (f : Sl → Mem → SR) : (SR.cnt σ m).bind f = .cnt σ m := rfl
@[simp] theorem ofO_some : ofO (some d) m = .ok d m := rfl
@[simp] theorem ofB_some : ofB (some b) m = .ok (.bl b) m := rfl
@[simp] theorem ofP_some : ofP (some (d, m)) = .ok d m := rfl
@[simp] theorem ofS_some {S : Src} : ofS (some S) m = .ok S m := rfl
@[simp] theorem pk_some : pk (some d) m = some (d, m) := rfl
@[simp] theorem tr_non : truthy m .non = some false := rfl
@[simp] theorem tr_bl : truthy m (.bl b) = some b := rfl
@[simp] theorem tr_int : truthy m (.int i) = some (i != 0) := rfl
@[simp] theorem tr_tup : truthy m (.tup xs) = some !xs.isEmpty := rfl
@[simp] theorem tr_lst : truthy m (.lst xs) = some !xs.isEmpty := rfl
@[simp] theorem tr_scr : truthy m (.scr xs) = some !xs.isEmpty := rfl
@[simp] theorem cst_non : cstD .none = some .non := rfl
@[simp] theorem cst_bl : cstD (.bool b) = some (.bl b) := rfl
@[simp] theorem cst_int : cstD (.int i) = some (.int i) := rfl
@[simp] theorem cst_str : cstD (.str s) = some (.str s) := rfl
@[simp] theorem sget_zero {o : Option D} {r : Sl} : sget (some d :: r) 0 = some d := rfl
@[simp] theorem sget_succ {o : Option D} {r : Sl} {k : Nat} : sget (o :: r) (k + 1) = sget r k := rfl
@[simp] theorem isTys_nil : isTys m d [] = some false := rfl
@[simp] theorem isTys_cons {u : Ty} {r : List Ty} : isTys m d (u :: r) = match isTy m d u with
  | some true => some true
  | some false => isTys m d r
  | none => none := by first | (rw [isTys]; done) | (rw [isTys]; rfl)
@[simp] theorem ty_non {u : Ty} : isTy m .non u = some false := rfl
@[simp] theorem ty_bl {u : Ty} : isTy m (.bl b) u = some (decide (u = .bool) || decide (u = .int)) := by cases u <;> rfl
@[simp] theorem ty_int {u : Ty} : isTy m (.int i) u = some (decide (u = .int)) := by cases u <;> rfl
@[simp] theorem ty_str {u : Ty} : isTy m (.str s) u = some (decide (u = .str)) := by cases u <;> rfl
@[simp] theorem ty_tup {u : Ty} : isTy m (.tup xs) u = some (decide (u = .tuple)) := by cases u <;> rfl
@[simp] theorem ty_lst {u : Ty} : isTy m (.lst xs) u = some (decide (u = .list)) := by cases u <;> rfl
@[simp] theorem cmp_eq : cmpD m .Eq x y = eqD m x y := rfl
@[simp] theorem cmp_ne : cmpD m .NotEq x y = (eqD m x y).map (!·) := rfl
@[simp] theorem cmp_lt : cmpD m .Lt (.int i) (.int j) = some (decide (i < j)) := rfl
@[simp] theorem cmp_le : cmpD m .LtE (.int i) (.int j) = some (decide (i ≤ j)) := rfl
@[simp] theorem cmp_gt : cmpD m .Gt (.int i) (.int j) = some (decide (j < i)) := rfl
@[simp] theorem cmp_ge : cmpD m .GtE (.int i) (.int j) = some (decide (j ≤ i)) := rfl
@[simp] theorem cmp_in : cmpD m .In x y = inD m x y := rfl
@[simp] theorem cmp_nin : cmpD m .NotIn x y = (inD m x y).map (!·) := rfl
@[simp] theorem cmp_is : cmpD m .Is x y = isIt x y := rfl
@[simp] theorem cmp_isn : cmpD m .IsNot x y = (isIt x y).map (!·) := rfl
def isNon : D → Bool
  | .non => true
  | _ => false
@[simp] theorem is_non : isIt x .non = some (isNon x) := by cases x <;> rfl
@[simp] theorem is_bl : isIt (.bl b) (.bl b') = some (decide (b = b')) := rfl
@[simp] theorem bin_add : binD b .Add (.int i) (.int j) m = some (.int (i + j), m) := rfl
@[simp] theorem bin_sub : binD b .Sub (.int i) (.int j) m = some (.int (i - j), m) := rfl
theorem bin_str : binD b .Add (.str s) (.str t) m = if s.length + t.length ≤ lim then some (.str (s ++ t), m) else none := rfl
@[simp] theorem bin_tup : binD b .Add (.tup xs) (.tup ys) m = if xs.length + ys.length ≤ lim then some (.tup (xs ++ ys), m) else none := rfl
@[simp] theorem bin_mul : binD b .Mult (.int i) (.int j) m = if mulOk i j then some (.int (i * j), m) else none := rfl
@[simp] theorem bin_div : binD b .FloorDiv (.int i) (.int j) m = if divOk j then some (.int (i.fdiv j), m) else none := rfl
@[simp] theorem bin_mod : binD b .Mod (.int i) (.int j) m = if j ≠ 0 then some (.int (i.fmod j), m) else none := rfl
@[simp] theorem len_tup : lenD m (.tup xs) = some (xs.length : Int) := rfl
@[simp] theorem len_lst : lenD m (.lst xs) = some (xs.length : Int) := rfl
@[simp] theorem len_scr : lenD m (.scr xs) = some (xs.length : Int) := rfl
theorem len_str : lenD m (.str s) = if s.length ≤ lim then some (s.length : Int) else none := rfl
@[simp] theorem blt_len : bltD b .len [x] m = pk ((lenD m x).map .int) m := rfl
@[simp] theorem blt_int : bltD b .int [.int i] m = some (.int i, m) := rfl
@[simp] theorem blt_intb : bltD b .int [.bl b'] m = some (.int (if b' then 1 else 0), m) := rfl
@[simp] theorem blt_abs : bltD b .abs [.int i] m = some (.int (if i < 0 then -i else i), m) := rfl
@[simp] theorem blt_tup : bltD b .tuple [.tup xs] m = some (.tup xs, m) := rfl
@[simp] theorem blt_tupl : bltD b .tuple [.lst xs] m = some (.tup xs, m) := rfl
@[simp] theorem blt_list : bltD false .list [.tup xs] m = some (.lst xs, m) := rfl
@[simp] theorem blt_listl : bltD false .list [.lst xs] m = some (.lst xs, m) := rfl
theorem blt_all : bltD b .all [.lst xs] m = pk ((asBls xs).map fun is => .bl (is.all id)) m := rfl
@[simp] theorem mk_f : mkL false xs m = some (.lst xs, m) := rfl
@[simp] theorem mk_t : mkL true xs m = some (.ref m.length, m ++ [.lst xs]) := rfl
@[simp] theorem new_eq : newL b xs m = if xs.length ≤ lim then mkL b xs m else none := rfl
@[simp] theorem idx_tup : idxD m (.tup xs) (.int i) = L2.atI xs i := rfl
@[simp] theorem idx_lst : idxD m (.lst xs) (.int i) = L2.atI xs i := rfl
@[simp] theorem idx_scr : idxD m (.scr xs) (.int i) = L2.atI xs i := rfl
@[simp] theorem src_tup : srcD (.tup xs) m = some (srcS xs) := rfl
@[simp] theorem src_lst : srcD (.lst xs) m = some (srcS xs) := rfl
@[simp] theorem src_len : (srcS xs).len = xs.length := rfl
@[simp] theorem asg_nm {k : Nat} : asgG (.nm k) d σ = some (σ.set k (some d)) := by first | (rw [asgG]; done) | (rw [asgG]; rfl)
@[simp] theorem asg_tp {ts : Tgs} : asgG (.tp ts) (.tup xs) σ = asgGs ts xs σ := by first | (rw [asgG]; done) | (rw [asgG]; rfl)
@[simp] theorem asgs_nil : asgGs .nil [] σ = some σ := by first | (rw [asgGs]; done) | (rw [asgGs]; rfl)
@[simp] theorem asgs_cons {u : Tg} {r : Tgs} : asgGs (.cons u r) (x :: xs) σ = match asgG u x σ with
  | some σ' => asgGs r xs σ'
  | none => none := by first | (rw [asgGs]; done) | (rw [asgGs]; rfl)
@[simp] theorem wipe_nil : wipeD σ [] = σ := rfl
@[simp] theorem wipe_cons {v : Nat} {vs : List Nat} : wipeD σ (v :: vs) = (wipeD σ vs).set v none := rfl
@[simp] theorem par2 {k l : Nat} : parSet [k, l] [x, y] σ = some ((σ.set k (some x)).set l (some y)) := rfl
@[simp] theorem par3 {k l n : Nat} {z : D} : parSet [k, l, n] [x, y, z] σ = some (((σ.set k (some x)).set l (some y)).set n (some z)) := rfl
@[simp] theorem rng1 : rngS [.int j] = if -(2 ^ 62) ≤ j ∧ j < 2 ^ 62 then some (srcN 0 j.toNat 1) else none := rfl
@[simp] theorem rng2 : rngS [.int i, .int j] = if -(2 ^ 62) ≤ i ∧ i < 2 ^ 62 ∧ -(2 ^ 62) ≤ j ∧ j < 2 ^ 62 then some (srcN i (j - i).toNat 1) else none := rfl
@[simp] theorem slc_tup {lo hi : Option Int} : slcD b lo hi (.tup xs) m = some (.tup (cutL xs lo hi), m) := rfl
theorem slc_str {lo hi : Option Int} : slcD b lo hi (.str s) m = if s.length ≤ lim then some (.str (L2.cutS s lo hi), m) else none := rfl
@[simp] theorem slc_lst {lo hi : Option Int} : slcD false lo hi (.lst xs) m = some (.lst (cutL xs lo hi), m) := rfl
end
section
variable {Φ : Fns} {Gl : List D} {W : Nat} {σ : Sl} {m : Mem} {mu : Bool} {op op' : Operator} {co co' : CmpOp} {a b c e : E} {as cs : Es} {k : Nat}
@[simp] theorem ev_var : evE Φ Gl (.var k) σ m = ofO (sget σ k) m := by first | (rw [evE]; done) | (rw [evE]; rfl)
@[simp] theorem ev_cst {x : Const} : evE Φ Gl (.cst x) σ m = ofO (cstD x) m := by first | (rw [evE]; done) | (rw [evE]; rfl)
@[simp] theorem ev_glo : evE Φ Gl (.glo k) σ m = ofO (Gl[k]?) m := by first | (rw [evE]; done) | (rw [evE]; rfl)
@[simp] theorem ev_bin : evE Φ Gl (.bin mu op a b) σ m = (evE Φ Gl a σ m).bind fun x m1 => (evE Φ Gl b σ m1).bind fun y m2 => ofP (binD mu op x y m2) := by first | (rw [evE]; done) | (rw [evE]; rfl)
@[simp] theorem ev_neg : evE Φ Gl (.neg a) σ m = (evE Φ Gl a σ m).bind fun x m1 => match x with
    | .int i => .ok (.int (-i)) m1
    | _ => .bad := by first | (rw [evE]; done) | (rw [evE]; rfl)
@[simp] theorem ev_not : evE Φ Gl (.not a) σ m = (evE Φ Gl a σ m).bind fun x m1 => oB (truthy m1 x) (fun k => .ok (.bl !k) m1) .bad := by
  rw [evE]
  congr 1
  funext x m1
  cases truthy m1 x <;> rfl
@[simp] theorem ev_cmp : evE Φ Gl (.cmp co a b) σ m = (evE Φ Gl a σ m).bind fun x m1 => (evE Φ Gl b σ m1).bind fun y m2 => ofB (cmpD m2 co x y) m2 := by first | (rw [evE]; done) | (rw [evE]; rfl)
@[simp] theorem ev_chn : evE Φ Gl (.chn co co' a b c) σ m = (evE Φ Gl a σ m).bind fun x m1 => (evE Φ Gl b σ m1).bind fun y m2 => tri (cmpD m2 co x y) ((evE Φ Gl c σ m2).bind fun z m3 => ofB (cmpD m3 co' y z) m3) (.ok (.bl false) m2) .bad := by first | (rw [evE]; done) | (rw [evE]; rfl)
@[simp] theorem ev_and : evE Φ Gl (.and a b) σ m = (evE Φ Gl a σ m).bind fun x m1 => tri (truthy m1 x) (evE Φ Gl b σ m1) (.ok x m1) .bad := by first | (rw [evE]; done) | (rw [evE]; rfl)
@[simp] theorem ev_or : evE Φ Gl (.or a b) σ m = (evE Φ Gl a σ m).bind fun x m1 => tri (truthy m1 x) (.ok x m1) (evE Φ Gl b σ m1) .bad := by first | (rw [evE]; done) | (rw [evE]; rfl)
@[simp] theorem ev_ife : evE Φ Gl (.ife c a b) σ m = (evE Φ Gl c σ m).bind fun x m1 => tri (truthy m1 x) (evE Φ Gl a σ m1) (evE Φ Gl b σ m1) .bad := by first | (rw [evE]; done) | (rw [evE]; rfl)
@[simp] theorem ev_call : evE Φ Gl (.call k as) σ m = (evEs Φ Gl as σ m).bind fun ds m1 => Φ k ds m1 := by first | (rw [evE]; done) | (rw [evE]; rfl)
@[simp] theorem ev_blt {x : Blt} : evE Φ Gl (.blt mu x as) σ m = (evEs Φ Gl as σ m).bind fun ds m1 => ofP (bltD mu x ds m1) := by first | (rw [evE]; done) | (rw [evE]; rfl)
@[simp] theorem ev_mth {x : Mth} : evE Φ Gl (.mth x a as) σ m = (evE Φ Gl a σ m).bind fun d m1 => if mthOk x d = true then (evEs Φ Gl as σ m1).bind fun ds m2 => ofP (mthD x d ds m2) else .bad := by first | (rw [evE]; done) | (rw [evE]; rfl)
@[simp] theorem ev_isi {ts : List Ty} : evE Φ Gl (.isi a ts) σ m = (evE Φ Gl a σ m).bind fun x m1 => ofB (isTys m1 x ts) m1 := by first | (rw [evE]; done) | (rw [evE]; rfl)
@[simp] theorem ev_idx : evE Φ Gl (.idx a b) σ m = (evE Φ Gl a σ m).bind fun x m1 => (evE Φ Gl b σ m1).bind fun y m2 => ofO (idxD m2 x y) m2 := by first | (rw [evE]; done) | (rw [evE]; rfl)
@[simp] theorem ev_slc {lo hi : Eo} : evE Φ Gl (.slc mu a lo hi) σ m = (evE Φ Gl a σ m).bind fun x m1 => (evEo Φ Gl lo σ m1).bind fun l m2 => (evEo Φ Gl hi σ m2).bind fun h m3 => ofP (slcD mu l h x m3) := by first | (rw [evE]; done) | (rw [evE]; rfl)
@[simp] theorem ev_tup : evE Φ Gl (.tup as) σ m = (evEs Φ Gl as σ m).bind fun ds m1 => ofP (if ds.length ≤ lim then some (.tup ds, m1) else none) := by first | (rw [evE]; done) | (rw [evE]; rfl)
@[simp] theorem ev_lst : evE Φ Gl (.lst mu as) σ m = (evEs Φ Gl as σ m).bind fun ds m1 => ofP (newL mu ds m1) := by first | (rw [evE]; done) | (rw [evE]; rfl)
@[simp] theorem ev_lc {own : List Nat} {tg : Tg} {it : It} : evE Φ Gl (.lc mu own tg it cs e) σ m = (evI Φ Gl it σ m).bind fun S m1 =>
      (lcLoop S (asgG tg) (evC Φ Gl cs) (evE Φ Gl e) (wipeD σ own) S.len 0 [] m1).bind fun xs m2 => ofP (mkL mu xs m2) := by first | (rw [evE]; done) | (rw [evE]; rfl)
@[simp] theorem evs_nil : evEs Φ Gl .nil σ m = .ok [] m := by first | (rw [evEs]; done) | (rw [evEs]; rfl)
@[simp] theorem evs_cons : evEs Φ Gl (.cons a as) σ m = (evE Φ Gl a σ m).bind fun x m1 => (evEs Φ Gl as σ m1).bind fun xs m2 => .ok (x :: xs) m2 := by first | (rw [evEs]; done) | (rw [evEs]; rfl)
@[simp] theorem evo_no : evEo Φ Gl .no σ m = .ok none m := by first | (rw [evEo]; done) | (rw [evEo]; rfl)
@[simp] theorem evo_so : evEo Φ Gl (.so a) σ m = (evE Φ Gl a σ m).bind fun x m1 => match x with
    | .int i => .ok (some i) m1
    | _ => .bad := by first | (rw [evEo]; done) | (rw [evEo]; rfl)
@[simp] theorem evi_seq : evI Φ Gl (.seq a) σ m = (evE Φ Gl a σ m).bind fun x m1 => ofS (srcD x m1) m1 := by first | (rw [evI]; done) | (rw [evI]; rfl)
@[simp] theorem evi_rng : evI Φ Gl (.rng as) σ m = (evEs Φ Gl as σ m).bind fun ds m1 => ofS (rngS ds) m1 := by first | (rw [evI]; done) | (rw [evI]; rfl)
@[simp] theorem evc_nil : evC Φ Gl .nil σ m = .ok true m := by first | (rw [evC]; done) | (rw [evC]; rfl)
@[simp] theorem evc_one : evC Φ Gl (.cons a .nil) σ m = (evE Φ Gl a σ m).bind fun x m1 => oB (truthy m1 x) (fun k => .ok k m1) .bad := by
  rw [evC]
  congr 1
  funext x m1
  cases truthy m1 x <;> rfl
@[simp] theorem evt_eq : evT Φ Gl a σ m = (evE Φ Gl a σ m).bind fun x m1 => oB (truthy m1 x) (fun k => .ok k m1) .bad := by
  unfold evT
  congr 1
  funext x m1
  cases truthy m1 x <;> rfl
@[simp] theorem ast_nm {d : D} : asgT Φ Gl (.nm k) d σ m = .ok (σ.set k (some d)) m := by first | (rw [asgT]; done) | (rw [asgT]; rfl)
@[simp] theorem ast_sub {d : D} : asgT Φ Gl (.sub a b) d σ m = match evE Φ Gl a σ m with
    | .ok x m1 => (match evE Φ Gl b σ m1 with
      | .ok y m2 => (match putD x y d m2 with
        | some m3 => .ok σ m3
        | none => .bad)
      | _ => .bad)
    | _ => .bad := by first | (rw [asgT]; done) | (rw [asgT]; rfl)
@[simp] theorem ast_tp {ts : Ts} {xs : List D} : asgT Φ Gl (.tp ts) (.tup xs) σ m = asgTs Φ Gl ts xs σ m := by first | (rw [asgT]; done) | (rw [asgT]; rfl)
@[simp] theorem asts_nil : asgTs Φ Gl .nil [] σ m = .ok σ m := by first | (rw [asgTs]; done) | (rw [asgTs]; rfl)
@[simp] theorem asts_cons {t : T} {r : Ts} {x : D} {xs : List D} : asgTs Φ Gl (.cons t r) (x :: xs) σ m = match asgT Φ Gl t x σ m with
    | .ok σ' m' => asgTs Φ Gl r xs σ' m'
    | .bad => .bad := by first | (rw [asgTs]; done) | (rw [asgTs]; rfl)
@[simp] theorem st_asg {t : T} : evS Φ Gl W (.asg t e) σ m = ofX (evE Φ Gl e σ m) σ fun d m1 => match asgT Φ Gl t d σ m1 with
    | .ok σ' m' => .next σ' m'
    | .bad => .bad := by first | (rw [evS]; done) | (rw [evS]; rfl)
@[simp] theorem st_par {is : List Nat} : evS Φ Gl W (.par is as) σ m = ofX (evEs Φ Gl as σ m) σ fun ds m1 => match parSet is ds σ with
    | some σ' => .next σ' m1
    | none => .bad := by first | (rw [evS]; done) | (rw [evS]; rfl)
@[simp] theorem st_ex : evS Φ Gl W (.ex e) σ m = ofX (evE Φ Gl e σ m) σ fun _ m1 => .next σ m1 := by first | (rw [evS]; done) | (rw [evS]; rfl)
@[simp] theorem st_ret : evS Φ Gl W (.ret e) σ m = ofX (evE Φ Gl e σ m) σ fun d m1 => .ret d m1 := by first | (rw [evS]; done) | (rw [evS]; rfl)
@[simp] theorem st_iff {p q : Ss} : evS Φ Gl W (.iff c p q) σ m = ofX (evT Φ Gl c σ m) σ fun k m1 => if k = true then evSs Φ Gl W p σ m1 else evSs Φ Gl W q σ m1 := by
  rw [evS]
  congr 1
  funext k m1
  cases k <;> rfl
@[simp] theorem st_for {tg : Tg} {it : It} {p : Ss} : evS Φ Gl W (.for tg it p) σ m = ofX (evI Φ Gl it σ m) σ fun S m1 => forLoop S (asgG tg) (evSs Φ Gl W p) S.len 0 σ m1 := by first | (rw [evS]; done) | (rw [evS]; rfl)
@[simp] theorem st_whl {p : Ss} : evS Φ Gl W (.whl c p) σ m = whlLoop (evT Φ Gl c) (evSs Φ Gl W p) W σ m := by first | (rw [evS]; done) | (rw [evS]; rfl)
@[simp] theorem st_rse : evS Φ Gl W (.rse k as) σ m = ofX (evEs Φ Gl as σ m) σ fun ds m1 => .exc k ds σ m1 := by first | (rw [evS]; done) | (rw [evS]; rfl)
@[simp] theorem st_try {p : Ss} {n : Nat} {hs : Hs} : evS Φ Gl W (.try p n hs) σ m = match evSs Φ Gl W p σ m with
    | .exc c fs σ1 m1 => if c < n then evH hs c fs σ1 m1 else .bad
    | r => r := by first | (rw [evS]; done) | (rw [evS]; rfl)
@[simp] theorem st_brk : evS Φ Gl W .brk σ m = .brk σ m := by first | (rw [evS]; done) | (rw [evS]; rfl)
@[simp] theorem ss_nil : evSs Φ Gl W .nil σ m = .next σ m := by first | (rw [evSs]; done) | (rw [evSs]; rfl)
@[simp] theorem ss_cons {s : S} {r : Ss} : evSs Φ Gl W (.cons s r) σ m = (evS Φ Gl W s σ m).bind fun σ' m' => evSs Φ Gl W r σ' m' := by first | (rw [evSs]; done) | (rw [evSs]; rfl)
end
end G

set_option Elab.async false
set_option linter.all false
set_option maxRecDepth 100000
set_option maxHeartbeats 4000000
/-! G29: == on plain values. -/
namespace G
open PySem PySem.Spec
/-- as data, of a shape that == may look at -/
def shp (d : D) : Bool := match d.py with
  | some p => SeqAt.shaped p
  | none => false
theorem pyM_nr {m : Mem} {d : D} (h : nr d = true) : D.pyM m d = d.py := by
  unfold D.pyM frzD
  rw [frzW_nr _ _ h]
theorem eqD_of {m : Mem} {x y : D} {a b : PyData} (hx : nr x = true) (hy : nr y = true) (ax : x.py = some a) (ay : y.py = some b) (sx : SeqAt.shaped a = true) (sy : SeqAt.shaped b = true) : eqD m x y = some (PyData.eqv a b) := by
  unfold eqD
  rw [pyM_nr hx, pyM_nr hy, ax, ay]
  simp only [sx, sy, Bool.and_self, if_true]
@[simp] theorem eq_ints {m : Mem} {i j : Int} : eqD m (.int i) (.int j) = some (decide (i = j)) := by
  rw [eqD_of rfl rfl rfl rfl rfl rfl]
  simp only [PyData.eqv]
  congr 1
@[simp] theorem eq_bls {m : Mem} {i j : Bool} : eqD m (.bl i) (.bl j) = some (decide (i = j)) := by
  rw [eqD_of rfl rfl rfl rfl rfl rfl]
  simp only [PyData.eqv]
  congr 1
@[simp] theorem eq_nons {m : Mem} : eqD m .non .non = some true := by
  rw [eqD_of rfl rfl rfl rfl rfl rfl]
  rfl
def okS (x : Str) : Bool := PyData.canLay0 (.str x)
theorem shaped_str {x : Str} (h : okS x = true) : SeqAt.shaped (.str x) = true := by
  unfold SeqAt.shaped
  rw [show PyData.canLay0 (.str x) = true from h]
  rfl
theorem eq_strs {m : Mem} {x y : Str} (hx : okS x = true) (hy : okS y = true) : eqD m (.str x) (.str y) = some (decide (x = y)) := by
  rw [eqD_of rfl rfl rfl rfl (shaped_str hx) (shaped_str hy)]
  simp only [PyData.eqv]
  congr 1
theorem shp_py {d : D} (h : shp d = true) : ∃ p, d.py = some p ∧ SeqAt.shaped p = true := by
  unfold shp at h
  split at h
  · rename_i p e; exact ⟨p, e, h⟩
  · cases h
theorem pys_tup {xs : List D} {p : PyData} (h : D.py (.tup xs) = some p) : ∃ ds, D.pys xs = some ds ∧ p = .tuple ds := by
  simp only [D.py, Option.map_eq_some_iff] at h
  obtain ⟨ds, h, rfl⟩ := h
  exact ⟨ds, h, rfl⟩
theorem pys_lst {xs : List D} {p : PyData} (h : D.py (.lst xs) = some p) : ∃ ds, D.pys xs = some ds ∧ p = .list ds := by
  simp only [D.py, Option.map_eq_some_iff] at h
  obtain ⟨ds, h, rfl⟩ := h
  exact ⟨ds, h, rfl⟩
theorem pys_cons {x : D} {xs : List D} {ds : List PyData} (h : D.pys (x :: xs) = some ds) : ∃ a b, D.py x = some a ∧ D.pys xs = some b ∧ ds = a :: b := by
  simp only [D.pys] at h
  split at h
  · rename_i a b h1 h2
    cases h
    exact ⟨a, b, h1, h2, rfl⟩
  · cases h
theorem eqvAll_nil (ds : List PyData) : PyData.eqvAll ds [] = ds.isEmpty := by cases ds <;> rfl
theorem pys_empty {xs : List D} {ds : List PyData} (h : D.pys xs = some ds) : ds.isEmpty = xs.isEmpty := by
  cases xs with
  | nil => simp only [D.pys, Option.some.injEq] at h; subst h; rfl
  | cons x xs =>
    obtain ⟨a, b, _, _, rfl⟩ := pys_cons h
    rfl
theorem eq_tup0 {m : Mem} {xs : List D} (h : nrs xs = true) (s : shp (.tup xs) = true) : eqD m (.tup xs) (.tup []) = some xs.isEmpty := by
  obtain ⟨p, e, hp⟩ := shp_py s
  obtain ⟨ds, e2, rfl⟩ := pys_tup e
  rw [eqD_of (x := .tup xs) (y := .tup []) h rfl e rfl hp rfl]
  simp only [PyData.eqv, eqvAll_nil, pys_empty e2]
theorem eq_lst0 {m : Mem} {xs : List D} (h : nrs xs = true) (s : shp (.lst xs) = true) : eqD m (.lst xs) (.lst []) = some xs.isEmpty := by
  obtain ⟨p, e, hp⟩ := shp_py s
  obtain ⟨ds, e2, rfl⟩ := pys_lst e
  rw [eqD_of (x := .lst xs) (y := .lst []) h rfl e rfl hp rfl]
  simp only [PyData.eqv, eqvAll_nil, pys_empty e2]
/-! shapes: by depth -/
mutual
def lay : D → Bool
  | .non => true
  | .bl _ => true
  | .int _ => true
  | .str x => okS x
  | .tup xs => lays xs
  | .lst xs => lays xs
  | _ => false
def lays : List D → Bool
  | [] => true
  | x :: r => lay x && lays r
end
mutual
def dep : D → Nat
  | .tup xs => deps xs + 1
  | .lst xs => deps xs + 1
  | _ => 0
def deps : List D → Nat
  | [] => 0
  | x :: r => max (dep x) (deps r)
end
mutual
theorem lay_py : ∀ d : D, lay d = true → ∃ p, d.py = some p ∧ p.canLay0 = true ∧ p.depth = dep d ∧ nr d = true
  | .non, _ => ⟨_, rfl, rfl, rfl, rfl⟩
  | .bl _, _ => ⟨_, rfl, rfl, rfl, rfl⟩
  | .int _, _ => ⟨_, rfl, rfl, rfl, rfl⟩
  | .str x, h => ⟨_, rfl, h, rfl, rfl⟩
  | .tup xs, h => by
    obtain ⟨ds, h1, h2, h3, h4⟩ := lays_py xs (by simpa only [lay] using h)
    exact ⟨.tuple ds, by simp only [D.py, h1, Option.map_some], by simp only [PyData.canLay0, h2], by simp only [PyData.depth, dep, h3], by simp only [nr, h4]⟩
  | .lst xs, h => by
    obtain ⟨ds, h1, h2, h3, h4⟩ := lays_py xs (by simpa only [lay] using h)
    exact ⟨.list ds, by simp only [D.py, h1, Option.map_some], by simp only [PyData.canLay0, h2], by simp only [PyData.depth, dep, h3], by simp only [nr, h4]⟩
  | .scr _, h => by simp [lay] at h
  | .dct _ _, h => by simp [lay] at h
  | .ref _, h => by simp [lay] at h
  | .exn _ _, h => by simp [lay] at h
theorem lays_py : ∀ ds : List D, lays ds = true → ∃ ps, D.pys ds = some ps ∧ PyData.canLayAll0 ps = true ∧ PyData.depthAll ps = deps ds ∧ nrs ds = true
  | [], _ => ⟨[], rfl, rfl, rfl, rfl⟩
  | d :: ds, h => by
    simp only [lays, Bool.and_eq_true] at h
    obtain ⟨p, h1, h2, h3, h4⟩ := lay_py d h.1
    obtain ⟨ps, g1, g2, g3, g4⟩ := lays_py ds h.2
    exact ⟨p :: ps, by simp only [D.pys, h1, g1], by simp only [PyData.canLayAll0, h2, g2, Bool.and_self], by simp only [PyData.depthAll, deps, h3, g3], by simp only [nrs, h4, g4, Bool.and_self]⟩
end
theorem lay_nr {d : D} (h : lay d = true) : nr d = true := (lay_py d h).choose_spec.2.2.2
theorem lays_nr {d : List D} (h : lays d = true) : nrs d = true := (lays_py d h).choose_spec.2.2.2
theorem shp_of {d : D} (h : lay d = true) (hd : dep d ≤ 64) : shp d = true := by
  obtain ⟨p, h1, h2, h3, _⟩ := lay_py d h
  unfold shp
  rw [h1]
  show SeqAt.shaped p = true
  unfold SeqAt.shaped
  rw [h2, h3, decide_eq_true hd]
  rfl
@[simp] theorem lays_ints (l : List Int) : lays (l.map D.int) = true := by
  induction l with
  | nil => rfl
  | cons x l ih => simp only [List.map_cons, lays, lay, ih, Bool.and_self]
@[simp] theorem deps_ints (l : List Int) : deps (l.map D.int) = 0 := by
  induction l with
  | nil => rfl
  | cons x l ih => simp only [List.map_cons, deps, dep, ih, Nat.max_self]
theorem lays_all {l : List D} (h : ∀ d ∈ l, lay d = true) : lays l = true := by
  induction l with
  | nil => rfl
  | cons x l ih => simp only [lays, h x List.mem_cons_self, ih fun d hd => h d (List.mem_cons_of_mem _ hd), Bool.and_self]
theorem deps_all {l : List D} {k : Nat} (h : ∀ d ∈ l, dep d ≤ k) : deps l ≤ k := by
  induction l with
  | nil => exact Nat.zero_le _
  | cons x l ih =>
    simp only [deps]
    exact Nat.max_le.mpr ⟨h x List.mem_cons_self, ih fun d hd => h d (List.mem_cons_of_mem _ hd)⟩
end G

set_option Elab.async false
set_option linter.all false
set_option maxRecDepth 100000
set_option maxHeartbeats 4000000
/-! G30: texts as lists of signs; rows of numbers written and read. -/
namespace G
open PySem PySem.NumText TL
abbrev mkS (l : List Nat) : Str := ⟨l.toArray⟩
abbrev tx (l : List Nat) : D := .str (mkS l)
theorem mkS_len (l : List Nat) : (mkS l).length = l.length := by simp [mkS, Str.length]
theorem mkS_app (a b : List Nat) : mkS a ++ mkS b = mkS (a ++ b) := ext_tl (by rw [tl_append])
theorem mkS_inj {a b : List Nat} : mkS a = mkS b ↔ a = b := ⟨fun h => by simpa using congrArg tl h, fun h => by rw [h]⟩
theorem cutS_mk (l : List Nat) (lo hi : Option Int) : L2.cutS (mkS l) lo hi = mkS (cutL l lo hi) := by
  unfold L2.cutS cutL
  rw [mkS_len]
theorem kind1 {s : Nat} {S : List Nat} (h : ∀ c ∈ s :: S, c < 256) : (mkS (s :: S)).cps.all (· < 256) = true := by
  rw [← Array.all_toList]
  exact List.all_eq_true.mpr fun c hc => decide_eq_true (h c hc)
theorem map_tl_mk {l : List Str} {m : List (List Nat)} (h : l.map tl = m) : l = m.map mkS := map_tl_inj (by rw [h, List.map_map]; exact (List.map_id _).symm)
theorem split_mk (t : List Nat) {s : Nat} {S : List Nat} (h : ∀ c ∈ s :: S, c < 256) : Txt.split (mkS t) (mkS (s :: S)) = (spl (s :: S) 0 [] t).map mkS :=
  map_tl_mk (split_spl (mkS t) (mkS (s :: S)) (by simp) (kind_ok (kind1 h)))
theorem join_mk (y : List Nat) (ps : List (List Nat)) : Txt.join (mkS y) (ps.map mkS) = mkS (joinL y ps) := by
  rw [join_eq]
  refine ext_tl ?_
  rw [tl_join, List.map_map]
  show joinL y (ps.map (tl ∘ mkS)) = joinL y ps
  rw [show (tl ∘ mkS) = id from rfl, List.map_id]
theorem joinL_cons {S a : List Nat} {l : List (List Nat)} (h : l ≠ []) : joinL S (a :: l) = a ++ (S ++ joinL S l) := by
  cases l with
  | nil => exact absurd rfl h
  | cons b l => rfl
theorem spl_ne (S : List Nat) : ∀ (k : Nat) (acc l : List Nat), spl S k acc l ≠ []
  | _, acc, [] => by rw [spl_nil]; simp
  | 0, acc, c :: r => by
    cases h : pre S (c :: r) with
    | true => rw [spl_hit h]; simp
    | false => rw [spl_miss h]; exact spl_ne S 0 _ r
  | k + 1, acc, c :: r => spl_ne S k acc r
theorem joinL_head {S a b : List Nat} : ∀ {l : List (List Nat)}, joinL S ((a ++ b) :: l) = a ++ joinL S (b :: l)
  | [] => rfl
  | c :: l => by
    show (a ++ b) ++ (S ++ joinL S (c :: l)) = a ++ (b ++ (S ++ joinL S (c :: l)))
    rw [List.append_assoc]
/-- cut and joined again -/
theorem join_spl {S : List Nat} (hS : S ≠ []) : ∀ (n : Nat) (acc l : List Nat), l.length ≤ n → joinL S (spl S 0 acc l) = acc ++ l
  | _, acc, [], _ => by rw [spl_nil]; exact (List.append_nil _).symm
  | 0, acc, c :: r, h => by simp at h
  | n + 1, acc, c :: r, h => by
    cases hp : pre S (c :: r) with
    | false =>
      rw [spl_miss hp, join_spl hS n _ r (by simpa using h), List.append_assoc]
      rfl
    | true =>
      rw [spl_hit hp, spl_pass, joinL_cons (spl_ne _ _ _ _), join_spl hS n [] _ (by rw [List.length_drop]; simp at h; omega), List.nil_append]
      have e : (c :: r).take S.length = S := eq_of_beq hp
      have hl : 0 < S.length := List.length_pos_iff.mpr hS
      have e2 : r.drop (S.length - 1) = (c :: r).drop S.length := by
        obtain ⟨k, hk⟩ : ∃ k, S.length = k + 1 := ⟨S.length - 1, by omega⟩
        rw [hk]; rfl
      rw [e2]
      congr 1
      calc S ++ (c :: r).drop S.length = (c :: r).take S.length ++ (c :: r).drop S.length := by rw [e]
        _ = c :: r := List.take_append_drop _ _
/-- the parts are no longer than the whole -/
theorem spl_len {S : List Nat} : ∀ (n k : Nat) (acc l : List Nat), l.length ≤ n → ∀ p ∈ spl S k acc l, p.length ≤ acc.length + l.length
  | _, k, acc, [], _, p, hp => by rw [spl_nil, List.mem_singleton] at hp; subst hp; simp
  | 0, k, acc, c :: r, h, p, hp => by simp at h
  | n + 1, 0, acc, c :: r, h, p, hp => by
    have hr : r.length ≤ n := by simpa using h
    cases hq : pre S (c :: r) with
    | false =>
      rw [spl_miss hq] at hp
      have := spl_len n 0 _ r hr p hp
      simp at this ⊢
      omega
    | true =>
      rw [spl_hit hq] at hp
      rcases List.mem_cons.mp hp with rfl | hp
      · simp
      · have := spl_len n _ _ r hr p hp
        simp at this ⊢
        omega
  | n + 1, k + 1, acc, c :: r, h, p, hp => by
    have hr : r.length ≤ n := by simpa using h
    have := spl_len n k acc r hr p hp
    simp
    omega
theorem spl_count {S : List Nat} : ∀ (n k : Nat) (acc l : List Nat), l.length ≤ n → (spl S k acc l).length ≤ l.length + 1
  | _, k, acc, [], _ => by rw [spl_nil]; simp
  | 0, k, acc, c :: r, h => by simp at h
  | n + 1, 0, acc, c :: r, h => by
    have hr : r.length ≤ n := by simpa using h
    cases hq : pre S (c :: r) with
    | false =>
      rw [spl_miss hq]
      have := spl_count n 0 (S := S) (acc ++ [c]) r hr
      simp
      omega
    | true =>
      rw [spl_hit hq]
      have := spl_count n (S.length - 1) (S := S) [] r hr
      simp
      omega
  | n + 1, k + 1, acc, c :: r, h => by
    have hr : r.length ≤ n := by simpa using h
    have := spl_count n k (S := S) acc r hr
    show (spl S k acc r).length ≤ _
    simp
    omega
/-! ### numbers -/
def numT (i : Int) : List Nat := if i < 0 then 45 :: numL i.natAbs else numL i.natAbs
theorem tl_toString (i : Int) : tl (Str.ofString (toString i)) = numT i := by
  unfold numT
  cases i with
  | ofNat n => rw [if_neg (by simp)]; exact tl_num n
  | negSucc n =>
    rw [if_pos (Int.negSucc_lt_zero n)]
    have e : (toString (Int.negSucc n) : String) = "-" ++ toString (n + 1) := rfl
    rw [e, tl_ofString, String.toList_append, List.map_append]
    have h2 := tl_num (n + 1)
    rw [tl_ofString] at h2
    have e2 : (toString (((n + 1 : Nat) : Int)) : String) = toString (n + 1) := rfl
    rw [e2] at h2
    rw [h2]
    rfl
theorem str_num (i : Int) : Str.ofString (toString i) = mkS (numT i) := ext_tl (tl_toString i)
def isDig (c : Nat) : Bool := decide (48 ≤ c) && decide (c ≤ 57)
/-- l.all f, which simp leaves alone -/
def allB {α : Type} (f : α → Bool) (l : List α) : Bool := l.all f
theorem dig_iff {w : List Nat} : allB isDig w = true ↔ AllDigits w := by
  unfold AllDigits allB
  rw [List.all_eq_true]
  refine forall_congr' fun c => forall_congr' fun _ => ?_
  simp [isDig]
/-- a count, as it is read -/
def countR (w : List Nat) : Option Int := if w.isEmpty || !allB isDig w || (w.head? == some 48 && w != [48]) then none else some (digitsVal w : Nat)
def numR (w : List Nat) : Option Int := if w.head? = some 45 then (match countR w.tail with
    | some i => if i = 0 then none else some (-i)
    | none => none) else countR w
theorem val_snoc (v : List Nat) (d : Nat) : digitsVal (v ++ [d]) = digitsVal v * 10 + (d - 48) := by
  unfold digitsVal
  rw [List.foldl_append]
  rfl
theorem val_pos : ∀ (n : Nat) (w : List Nat), w.length ≤ n → AllDigits w → w ≠ [] → w.head? ≠ some 48 → 0 < digitsVal w
  | 0, w, h, _, hne, _ => absurd (List.length_eq_zero_iff.mp (Nat.le_zero.mp h)) hne
  | n + 1, w, h, hd, hne, h0 => by
    rcases List.eq_nil_or_concat w with e | ⟨v, d, e⟩
    · exact absurd e hne
    · rw [List.concat_eq_append] at e
      subst e
      rw [val_snoc]
      have hdd := hd d (by simp)
      cases v with
      | nil =>
        have : d ≠ 48 := fun z => h0 (by rw [z]; rfl)
        unfold digitsVal
        simp
        omega
      | cons c v =>
        have := val_pos n (c :: v) (by simp at h ⊢; omega) (fun x hx => hd x (List.mem_append_left _ hx)) (by simp) (by simpa using h0)
        omega
/-- what is read is written again as it stood -/
theorem numL_back : ∀ (n : Nat) (w : List Nat), w.length ≤ n → AllDigits w → w ≠ [] → (w.head? ≠ some 48 ∨ w = [48]) → numL (digitsVal w) = w
  | 0, w, h, _, hne, _ => absurd (List.length_eq_zero_iff.mp (Nat.le_zero.mp h)) hne
  | n + 1, w, h, hd, hne, h0 => by
    rcases List.eq_nil_or_concat w with e | ⟨v, d, e⟩
    · exact absurd e hne
    · rw [List.concat_eq_append] at e
      subst e
      have hdd := hd d (by simp)
      rw [val_snoc]
      cases v with
      | nil =>
        have e0 : digitsVal [] = 0 := rfl
        rw [e0, Nat.zero_mul, Nat.zero_add, numL_lt (by omega)]
        simp
        omega
      | cons c v =>
        have hc : (c :: v).head? ≠ some 48 := by
          rcases h0 with h0 | h0
          · simpa using h0
          · simp at h0
        have hv : AllDigits (c :: v) := fun x hx => hd x (List.mem_append_left _ hx)
        have hp := val_pos _ (c :: v) (Nat.le_refl _) hv (by simp) hc
        have ih := numL_back n (c :: v) (by simp at h ⊢; omega) hv (by simp) (.inl hc)
        rw [numL_step (by omega), show (digitsVal (c :: v) * 10 + (d - 48)) / 10 = digitsVal (c :: v) by omega, show (digitsVal (c :: v) * 10 + (d - 48)) % 10 = d - 48 by omega, ih]
        simp
        omega
theorem countR_some {w : List Nat} {i : Int} (h : countR w = some i) : 0 ≤ i ∧ AllDigits w ∧ w ≠ [] ∧ i = (digitsVal w : Nat) ∧ numL i.natAbs = w := by
  unfold countR at h
  split at h
  · cases h
  · rename_i hc
    simp only [Bool.or_eq_true, Bool.and_eq_true, Bool.not_eq_true', not_or, not_and, Bool.not_eq_false, List.isEmpty_iff, beq_iff_eq, bne_iff_ne, ne_eq, Decidable.not_not] at hc
    obtain ⟨⟨h1, h2⟩, h3⟩ := hc
    cases h
    have hd := dig_iff.mp h2
    refine ⟨by omega, hd, h1, rfl, ?_⟩
    show numL ((digitsVal w : Nat) : Int).natAbs = w
    rw [Int.natAbs_natCast]
    refine numL_back _ w (Nat.le_refl _) hd h1 ?_
    by_cases z : w.head? = some 48
    · exact .inr (h3 z)
    · exact .inl z
theorem countR_num (n : Nat) : countR (numL n) = some (n : Int) := by
  unfold countR
  have h0 : (numL n).head? = some 48 → numL n = [48] := by
    by_cases h : n < 10
    · rw [numL_lt h]
      intro e
      have : 48 + n = 48 := by simpa using e
      rw [this]
    · intro e
      exfalso
      have hne := numL_ne (n / 10)
      rw [numL_step (by omega)] at e
      have : ∀ k, 0 < k → (numL k).head? ≠ some 48 := by
        intro k
        induction k using Nat.strongRecOn with
        | _ k ih =>
          intro hk
          by_cases h : k < 10
          · rw [numL_lt h]; simp; omega
          · rw [numL_step (by omega)]
            have := ih (k / 10) (by omega) (by omega)
            rw [List.head?_append]
            cases q : (numL (k / 10)).head? with
            | none => exact absurd (List.head?_eq_none_iff.mp q) (numL_ne _)
            | some z => rw [q] at this; simpa using this
      have h1 := this (n / 10) (by omega)
      rw [List.head?_append] at e
      cases q : (numL (n / 10)).head? with
      | none => exact hne (List.head?_eq_none_iff.mp q)
      | some z => rw [q] at e h1; exact h1 (by simpa using e)
  rw [if_neg]
  · rw [numL_val]
  · simp only [Bool.or_eq_true, Bool.and_eq_true, Bool.not_eq_true', not_or, not_and, Bool.not_eq_false, List.isEmpty_iff, beq_iff_eq, bne_iff_ne, ne_eq, Decidable.not_not]
    exact ⟨⟨numL_ne n, dig_iff.mpr (numL_digits n)⟩, h0⟩
theorem numR_num (i : Int) : numR (numT i) = some i := by
  unfold numR numT
  by_cases h : i < 0
  · rw [if_pos h, if_pos (show (45 :: numL i.natAbs).head? = some 45 from rfl)]
    simp only [List.tail_cons, countR_num]
    rw [if_neg (by omega)]
    congr 1
    omega
  · rw [if_neg h, if_neg, countR_num]
    · congr 1; omega
    · intro e
      have hm := List.mem_of_mem_head? (show 45 ∈ (numL i.natAbs).head? from e)
      have := numL_digits _ _ hm
      omega
theorem numR_back {w : List Nat} {i : Int} (h : numR w = some i) : numT i = w := by
  unfold numR at h
  split at h
  · rename_i hh
    split at h
    · rename_i j hj
      split at h
      · cases h
      · cases h
        obtain ⟨h1, _, _, _, h5⟩ := countR_some hj
        unfold numT
        rw [if_pos (by omega), Int.natAbs_neg, h5]
        cases w with
        | nil => cases hh
        | cons c w => simp at hh; rw [hh]; rfl
    · cases h
  · obtain ⟨h1, _, _, _, h5⟩ := countR_some h
    unfold numT
    rw [if_neg (by omega), h5]
/-! ### rows -/
def oAll {α : Type} : List (Option α) → Option (List α)
  | [] => some []
  | o :: r => match o, oAll r with
    | some x, some xs => some (x :: xs)
    | _, _ => none
theorem oAll_some {α : Type} : ∀ {l : List (Option α)} {xs : List α}, oAll l = some xs → l = xs.map some
  | [], xs, h => by simp only [oAll, Option.some.injEq] at h; subst h; rfl
  | o :: r, xs, h => by
    simp only [oAll] at h
    split at h
    · rename_i x ys h1 h2
      cases h
      rw [oAll_some h2]
      rfl
    · cases h
theorem oAll_map {α : Type} : ∀ xs : List α, oAll (xs.map some) = some xs
  | [] => rfl
  | x :: xs => by simp only [List.map_cons, oAll, oAll_map xs]
theorem oAll_none {α : Type} : ∀ {l : List (Option α)}, oAll l = none ↔ none ∈ l
  | [] => by simp [oAll]
  | o :: r => by
    have := oAll_none (l := r)
    cases o with
    | none => simp [oAll]
    | some x =>
      cases h : oAll r with
      | none => simp [oAll, h, this.mp h]
      | some xs =>
        have hn : none ∉ r := fun z => by rw [this.mpr z] at h; cases h
        simp [oAll, h, hn]
def rowR (t : List Nat) : Option (List Int) := if t = [45] then some [] else oAll ((spl [32] 0 [] t).map numR)
def rowT (xs : List Int) : List Nat := if xs = [] then [45] else joinL [32] (xs.map numT)
theorem map_eq_map {α β γ : Type} {f : α → Option β} {l : List α} {xs : List β} (h : l.map f = xs.map some) (g : β → α) (hg : ∀ a b, f a = some b → g b = a) : xs.map g = l := by
  induction l generalizing xs with
  | nil =>
    cases xs with
    | nil => rfl
    | cons _ _ => simp at h
  | cons a l ih =>
    cases xs with
    | nil => simp at h
    | cons b xs =>
      simp only [List.map_cons, List.cons.injEq] at h
      simp only [List.map_cons, hg a b h.1, ih h.2]
theorem rowR_back {t : List Nat} {xs : List Int} (h : rowR t = some xs) : rowT xs = t := by
  unfold rowR at h
  split at h
  · rename_i e
    cases h
    rw [e]; rfl
  · have h1 := oAll_some h
    have h2 := map_eq_map (γ := Nat) h1 numT fun a b e => numR_back e
    unfold rowT
    rw [if_neg, h2, join_spl (by simp) _ _ _ (Nat.le_refl _), List.nil_append]
    intro e
    rw [e] at h2
    exact spl_ne _ _ _ _ h2.symm
theorem numT_free (i : Int) : 32 ∉ numT i := by
  unfold numT
  split
  · intro h
    rcases List.mem_cons.mp h with h | h
    · cases h
    · exact numL_free (.inl (by decide)) h
  · exact numL_free (.inl (by decide))
theorem numT_dig (i : Int) : ∃ c ∈ numT i, isDig c = true := by
  have hne := numL_ne i.natAbs
  obtain ⟨c, r, e⟩ := List.exists_cons_of_ne_nil hne
  have hd := numL_digits i.natAbs c (by rw [e]; exact List.mem_cons_self)
  refine ⟨c, ?_, by simp [isDig]; omega⟩
  unfold numT
  split
  · rw [e]; exact List.mem_cons_of_mem _ List.mem_cons_self
  · rw [e]; exact List.mem_cons_self
theorem rowR_num (xs : List Int) : rowR (rowT xs) = some xs := by
  unfold rowR rowT
  by_cases h : xs = []
  · subst h; rfl
  · rw [if_neg h]
    have hm : xs.map numT ≠ [] := fun z => h (List.map_eq_nil_iff.mp z)
    have hn : joinL [32] (xs.map numT) ≠ [45] := by
      intro e
      cases xs with
      | nil => exact h rfl
      | cons x xs =>
        obtain ⟨c, hc, hd⟩ := numT_dig x
        have : c ∈ joinL [32] ((x :: xs).map numT) := by
          cases xs with
          | nil => exact hc
          | cons y ys => exact List.mem_append_left _ hc
        rw [e, List.mem_singleton] at this
        subst this
        cases hd
    rw [if_neg hn, spl_join hm fun p hp => by
      obtain ⟨i, _, rfl⟩ := List.mem_map.mp hp
      exact numT_free i]
    rw [List.map_map, show (numR ∘ numT) = some from funext numR_num, oAll_map]
end G

set_option Elab.async false
set_option linter.all false
set_option maxRecDepth 100000
set_option maxHeartbeats 4000000
/-! G31: comprehensions over images; signs. -/
namespace G
open PySem TL
theorem lc_pureA {α : Type} {l : List α} {g0 : α → D} {g : D → Sl → Option Sl} {tst : Sl → Mem → XR Bool} {el : Sl → Mem → XR D} {σ : Sl} {m : Mem} (p : α → Bool) (f : α → D)
    (h : ∀ a ∈ l, ∃ σ', g (g0 a) σ = some σ' ∧ tst σ' m = .ok (p a) m ∧ (p a = true → el σ' m = .ok (f a) m)) (hl : l.length ≤ lim) : lcLoop (srcS (l.map g0)) g tst el σ l.length 0 [] m = .ok ((l.filter p).map f) m := by
  have gen : ∀ (k i : Nat) (acc : List D), i + k = l.length → acc.length + k ≤ lim → lcLoop (srcS (l.map g0)) g tst el σ k i acc m = .ok (acc ++ ((l.drop i).filter p).map f) m := by
    intro k
    induction k with
    | zero =>
      intro i acc hi _
      have : l.drop i = [] := List.drop_eq_nil_of_le (by omega)
      simp only [lcLoop, srcS, if_true, this, List.filter_nil, List.map_nil, List.append_nil]
    | succ k ih =>
      intro i acc hi ha
      have hlt : i < l.length := by omega
      obtain ⟨σ', h1, h2, h3⟩ := h l[i] (List.getElem_mem hlt)
      have e : (srcS (l.map g0)).at' i m = some (g0 l[i]) := by
        show (l.map g0)[i]? = _
        rw [List.getElem?_map, List.getElem?_eq_getElem hlt]
        rfl
      rw [List.drop_eq_getElem_cons hlt]
      unfold lcLoop
      simp only [e, h1, h2]
      cases hp : p l[i] with
      | false =>
        simp only [List.filter_cons, hp, Bool.false_eq_true, if_false]
        exact ih (i + 1) acc (by omega) (by omega)
      | true =>
        simp only [h3 hp, if_pos (show acc.length < lim by omega), List.filter_cons, hp, if_true, List.map_cons]
        rw [ih (i + 1) _ (by omega) (by rw [List.length_append, List.length_singleton]; omega), List.append_assoc]
        rfl
  have := gen l.length 0 [] (by omega) (by simpa using hl)
  simpa using this
theorem lc_mapA {α : Type} {l : List α} {g0 : α → D} {g : D → Sl → Option Sl} {tst : Sl → Mem → XR Bool} {el : Sl → Mem → XR D} {σ : Sl} {m : Mem} (f : α → D)
    (h : ∀ a ∈ l, ∃ σ', g (g0 a) σ = some σ' ∧ tst σ' m = .ok true m ∧ el σ' m = .ok (f a) m) (hl : l.length ≤ lim) : lcLoop (srcS (l.map g0)) g tst el σ l.length 0 [] m = .ok (l.map f) m := by
  have := lc_pureA (p := fun _ => true) f (fun x hx => (h x hx).imp fun _ q => ⟨q.1, q.2.1, fun _ => q.2.2⟩) hl
  rwa [List.filter_eq_self.mpr fun _ _ => rfl] at this
@[simp] theorem asBls_map {α : Type} (l : List α) (f : α → Bool) : asBls (l.map fun a => D.bl (f a)) = some (l.map f) := by
  induction l with
  | nil => rfl
  | cons a l ih => simp only [List.map_cons, asBls, ih, Option.map_some]
@[simp] theorem blt_allm {α : Type} {b : Bool} {l : List α} {f : α → Bool} {m : Mem} : bltD b .all [.lst (l.map fun a => D.bl (f a))] m = some (.bl (allB f l), m) := by
  rw [blt_all, asBls_map]
  simp only [Option.map_some, pk_some, allB]
  rw [List.all_map]
  rfl
@[simp] theorem src_tx {l : List Nat} {m : Mem} : srcD (tx l) m = some (srcS (l.map fun c => tx [c])) := rfl
@[simp] theorem len_tx {l : List Nat} {m : Mem} : lenD m (tx l) = if l.length ≤ lim then some (l.length : Int) else none := by
  show (if (mkS l).length ≤ lim then some ((mkS l).length : Int) else none) = _
  rw [mkS_len]
@[simp] theorem slc_tx {b : Bool} {l : List Nat} {m : Mem} {lo hi : Option Int} : slcD b lo hi (tx l) m = if l.length ≤ lim then some (tx (cutL l lo hi), m) else none := by
  show (if (mkS l).length ≤ lim then some (D.str (L2.cutS (mkS l) lo hi), m) else none) = _
  rw [mkS_len, cutS_mk]
@[simp] theorem idx_tx {l : List Nat} {m : Mem} {i : Int} : idxD m (tx l) (.int i) = if l.length ≤ lim then (L2.atI l i).map fun c => tx [c] else none := by
  show (if (mkS l).length ≤ lim then _ else none) = _
  rw [mkS_len]
@[simp] theorem add_tx {b : Bool} {x y : List Nat} {m : Mem} : binD b .Add (tx x) (tx y) m = if x.length + y.length ≤ lim then some (tx (x ++ y), m) else none := by
  show (if (mkS x).length + (mkS y).length ≤ lim then some (D.str (mkS x ++ mkS y), m) else none) = _
  rw [mkS_len, mkS_len, mkS_app]
@[simp] theorem in_tx {c : Nat} {l : List Nat} {m : Mem} : inD m (tx [c]) (tx l) = some (decide (c ∈ l)) := rfl
@[simp] theorem blt_tx {b : Bool} {l : List Nat} {m : Mem} : bltD b .int [tx l] m = if l.length ≤ 640 then pk ((PySem.intText? (mkS l)).map .int) m else none := by
  show (if (mkS l).length ≤ 640 then _ else none) = _
  rw [mkS_len]
theorem atI_nat {α : Type} {l : List α} {k : Nat} (h : k < l.length) : L2.atI l (k : Int) = l[k]? := by
  unfold L2.atI
  have : L2.ixN l.length (k : Int) = some k := by
    unfold L2.ixN
    rw [if_pos (by omega), if_pos (by omega)]
    simp
  rw [this]
  rfl
theorem atI_0 {α : Type} {l : List α} {a : α} {r : List α} (h : l = a :: r) : L2.atI l 0 = some a := by
  have := atI_nat (l := l) (k := 0) (by rw [h]; simp)
  rw [show ((0 : Nat) : Int) = 0 from rfl] at this
  rw [this, h]
  rfl
def okL (l : List Nat) : Bool := l.all fun c => decide (c < 1114112)
theorem okS_mk {l : List Nat} (h : okL l = true) : okS (mkS l) = true := by
  show PyData.strOk (mkS l) = true
  unfold PyData.strOk
  rw [← Array.all_toList]
  exact h
theorem eq_tx {m : Mem} {x y : List Nat} (hx : okL x = true) (hy : okL y = true) : eqD m (tx x) (tx y) = some (decide (x = y)) := by
  rw [eq_strs (okS_mk hx) (okS_mk hy)]
  simp only [mkS_inj]
theorem okL_cut {l : List Nat} (h : okL l = true) (lo hi : Option Int) : okL (cutL l lo hi) = true := by
  unfold okL at *
  rw [List.all_eq_true] at *
  exact fun c hc => h c (List.mem_of_mem_drop (List.mem_of_mem_take hc))
theorem okL_app {a b : List Nat} (ha : okL a = true) (hb : okL b = true) : okL (a ++ b) = true := by
  unfold okL at *
  rw [List.all_append, ha, hb]; rfl
theorem cut_len {l : List Nat} (lo hi : Option Int) : (cutL l lo hi).length ≤ l.length := by
  unfold cutL
  rw [List.length_take, List.length_drop]
  omega
/-- l[:k], l[k:] -/
theorem cut_take {α : Type} (l : List α) (k : Nat) : cutL l none (some (k : Int)) = l.take k := by
  unfold cutL
  rw [HT.sIx_nat, HT.sIx_none, List.drop_zero, Nat.sub_zero]
  by_cases h : k ≤ l.length
  · rw [Nat.min_eq_left h]
  · rw [Nat.min_eq_right (by omega), List.take_length, List.take_of_length_le (by omega)]
theorem cut_drop {α : Type} (l : List α) (k : Nat) : cutL l (some (k : Int)) none = l.drop k := by
  unfold cutL
  rw [HT.sIx_nat, HT.sIx_none]
  by_cases h : k ≤ l.length
  · rw [Nat.min_eq_left h]
    exact List.take_of_length_le (by rw [List.length_drop]; omega)
  · rw [Nat.min_eq_right (by omega), Nat.sub_self, List.take_zero, List.drop_eq_nil_of_le (by omega)]
def dI : Option Int → D
  | none => .non
  | some i => .int i
theorem split_d {t : List Nat} {s : Nat} {S : List Nat} {m : Mem} (h : ∀ c ∈ s :: S, c < 256) (hl : t.length + 2 ≤ lim) : mthD .split (tx t) [tx (s :: S)] m = some (.lst ((spl (s :: S) 0 [] t).map fun p => tx p), m) := by
  show (if (mkS (s :: S)).length ≠ 0 ∧ (mkS t).length + 2 ≤ lim then some (D.lst ((PySem.Txt.split (mkS t) (mkS (s :: S))).map .str), m) else none) = _
  rw [mkS_len, mkS_len, if_pos ⟨by simp, hl⟩, split_mk t h, List.map_map]
  rfl
theorem any_non : ∀ {ds : List D} {ps : List PyData}, D.pys ds = some ps → (ps.any fun z => PyData.eqv z .none) = ds.any isNon
  | [], ps, h => by simp only [D.pys, Option.some.injEq] at h; subst h; rfl
  | d :: ds, ps, h => by
    obtain ⟨a, b, h1, h2, rfl⟩ := pys_cons h
    rw [List.any_cons, List.any_cons, any_non h2]
    congr 1
    cases d <;> simp [D.py] at h1 <;> first | (subst h1; rfl) | (obtain ⟨z, _, rfl⟩ := h1; rfl)
theorem in_non {ds : List D} {m : Mem} (h : lays ds = true) (hd : deps ds ≤ 63) : inD m .non (.lst ds) = some (ds.any isNon) := by
  obtain ⟨ps, h1, h2, h3, h4⟩ := lays_py ds h
  have hp : D.pyM m (.lst ds) = some (.list ps) := by
    rw [pyM_nr (by simpa only [nr] using h4)]
    simp only [D.py, h1, Option.map_some]
  have hs : SeqAt.shaped (.list ps) = true := by
    unfold SeqAt.shaped
    rw [show PyData.canLay0 (.list ps) = true by simp only [PyData.canLay0, h2], show PyData.depth (.list ps) = deps ds + 1 by simp only [PyData.depth, h3]]
    simp
    omega
  show (match D.pyM m .non, D.pyM m (.lst ds) with
    | some a, some (.list ds) => if SeqAt.shaped a && SeqAt.shaped (.list ds) then some (ds.any fun z => PyData.eqv z a) else none
    | _, _ => none) = _
  rw [hp, pyM_nr (d := .non) rfl]
  simp only [D.py, hs]
  rw [show SeqAt.shaped PyData.none = true from rfl]
  simp [any_non h1]
def dR : Option (List Int) → D
  | none => .non
  | some xs => .tup (xs.map .int)
theorem dI_lay (o : Option Int) : lay (dI o) = true ∧ dep (dI o) = 0 ∧ isNon (dI o) = o.isNone := by cases o <;> exact ⟨rfl, rfl, rfl⟩
theorem nums_non {ws : List (List Nat)} {m : Mem} (f : List Nat → Option Int) : inD m .non (.lst (ws.map fun w => dI (f w))) = some (oAll (ws.map f)).isNone := by
  rw [in_non (lays_all fun d hd => by obtain ⟨w, _, rfl⟩ := List.mem_map.mp hd; exact (dI_lay _).1) (deps_all fun d hd => by obtain ⟨w, _, rfl⟩ := List.mem_map.mp hd; rw [(dI_lay _).2.1]; omega)]
  congr 1
  rw [List.any_map]
  cases h : oAll (ws.map f) with
  | none =>
    obtain ⟨w, hw, e⟩ := List.mem_map.mp (oAll_none.mp h)
    exact List.any_eq_true.mpr ⟨w, hw, by show isNon (dI (f w)) = true; rw [(dI_lay _).2.2, e]; rfl⟩
  | some xs =>
    have e := oAll_some h
    apply Bool.eq_false_iff.mpr
    intro z
    obtain ⟨w, hw, hz⟩ := List.any_eq_true.mp z
    have hm : f w ∈ xs.map some := by rw [← e]; exact List.mem_map_of_mem hw
    obtain ⟨x, _, ex⟩ := List.mem_map.mp hm
    have hz : isNon (dI (f w)) = true := hz
    rw [← ex] at hz
    cases hz
theorem nums_tup {ws : List (List Nat)} {f : List Nat → Option Int} {xs : List Int} (h : oAll (ws.map f) = some xs) : (ws.map fun w => dI (f w)) = xs.map .int := by
  have e := oAll_some h
  have : (ws.map f).map dI = (xs.map some).map dI := by rw [e]
  rw [List.map_map, List.map_map] at this
  exact this
/-! ### a body, statement by statement -/
def Ss.hd : Ss → S
  | .cons s _ => s
  | .nil => .pass
def Ss.tl : Ss → Ss
  | .cons _ r => r
  | .nil => .nil
theorem ss_hd {Φ : Fns} {Gl : List D} {W : Nat} {b : Ss} {σ : Sl} {m : Mem} (h : b ≠ .nil) : evSs Φ Gl W b σ m = (evS Φ Gl W b.hd σ m).bind fun σ' m' => evSs Φ Gl W b.tl σ' m' := by
  cases b with
  | nil => exact absurd rfl h
  | cons s r => exact ss_cons
/-! ### joined -/
theorem asStrs_tx : ∀ l : List (List Nat), asStrs (l.map fun p => tx p) = some (l.map mkS)
  | [] => rfl
  | p :: l => by simp only [List.map_cons, asStrs, asStrs_tx l, Option.map_some]
theorem join_d {z : List Nat} {l : List (List Nat)} {m : Mem} (h : (l.map List.length).sum + l.length * z.length ≤ lim) : mthD .join (tx z) [.lst (l.map fun p => tx p)] m = some (tx (joinL z l), m) := by
  show (match (items m (.lst (l.map fun p => tx p))).bind asStrs with
    | some ys => if (ys.map fun x : PySem.Str => x.length).sum + ys.length * (mkS z).length ≤ lim then some (D.str (PySem.Txt.join (mkS z) ys), m) else none
    | none => none) = _
  rw [show (items m (.lst (l.map fun p => tx p))).bind asStrs = some (l.map mkS) from asStrs_tx l]
  have e : (l.map mkS).map (fun x : PySem.Str => x.length) = l.map List.length := by
    rw [List.map_map]
    exact List.map_congr_left fun p _ => mkS_len p
  simp only [e, List.length_map, mkS_len, if_pos h, join_mk]
@[simp] theorem str_d {b : Bool} {i : Int} {m : Mem} : bltD b .str [.int i] m = if i.natAbs.log2 < 1920 then some (tx (numT i), m) else none := by
  show (if i.natAbs.log2 < 1920 then some (D.str (PySem.Str.ofString (toString i)), m) else none) = _
  rw [str_num]
theorem sum_le {l : List (List Nat)} {k : Nat} (h : ∀ p ∈ l, p.length ≤ k) : (l.map List.length).sum ≤ l.length * k := by
  induction l with
  | nil => simp
  | cons p l ih =>
    have h1 := h p List.mem_cons_self
    have h2 := ih fun q hq => h q (List.mem_cons_of_mem _ hq)
    simp only [List.map_cons, List.sum_cons, List.length_cons, Nat.add_mul, Nat.one_mul]
    omega
theorem joinL_len {z : List Nat} {l : List (List Nat)} {k : Nat} (h : ∀ p ∈ l, p.length ≤ k) : (joinL z l).length ≤ l.length * (k + z.length) := by
  induction l with
  | nil => simp [joinL]
  | cons p l ih =>
    have h1 := h p List.mem_cons_self
    have h2 := ih fun q hq => h q (List.mem_cons_of_mem _ hq)
    cases l with
    | nil => simp [joinL]; omega
    | cons q l =>
      rw [joinL_cons (by simp), List.length_append, List.length_append]
      simp only [List.length_cons, Nat.add_mul, Nat.one_mul] at *
      omega
theorem numT_len {i : Int} {k : Nat} (hk : 0 < k) (h : i.natAbs < 10 ^ k) : (numT i).length ≤ k + 1 := by
  unfold numT
  have := numL_len hk h
  split
  · rw [List.length_cons]; omega
  · omega
/-- a row of few small numbers -/
def smallR (xs : List Int) : Prop := xs.length ≤ 64 ∧ ∀ x ∈ xs, x.natAbs < 10 ^ 6
theorem log_small {x : Int} (h : x.natAbs < 10 ^ 6) : x.natAbs.log2 < 1920 := by
  by_cases h0 : x.natAbs = 0
  · rw [h0]; decide
  · exact Nat.lt_of_lt_of_le ((Nat.log2_lt h0).mpr (Nat.lt_of_lt_of_le h (show (10 : Nat) ^ 6 ≤ 2 ^ 20 by decide))) (by decide)
theorem rowT_len {xs : List Int} (h : smallR xs) : (rowT xs).length ≤ xs.length * 8 + 1 := by
  unfold rowT
  split
  · simp
  · have := joinL_len (z := [32]) (l := xs.map numT) (k := 7) fun p hp => by
      obtain ⟨x, hx, rfl⟩ := List.mem_map.mp hp
      exact numT_len (k := 6) (by decide) (h.2 x hx)
    rw [List.length_map] at this
    simp at this
    omega
theorem okL_join {z : List Nat} {l : List (List Nat)} (hz : okL z = true) (h : ∀ p ∈ l, okL p = true) : okL (joinL z l) = true := by
  induction l with
  | nil => rfl
  | cons p l ih =>
    have h1 := h p List.mem_cons_self
    have h2 := ih fun q hq => h q (List.mem_cons_of_mem _ hq)
    cases l with
    | nil => exact h1
    | cons q l =>
      rw [joinL_cons (by simp)]
      exact okL_app h1 (okL_app hz h2)
theorem okL_num (i : Int) : okL (numT i) = true := by
  have hd : okL (numL i.natAbs) = true := by
    unfold okL
    rw [List.all_eq_true]
    intro c hc
    have := numL_digits _ c hc
    exact decide_eq_true (by omega)
  unfold numT
  split
  · exact okL_app (a := [45]) rfl hd
  · exact hd
theorem okL_rowT (xs : List Int) : okL (rowT xs) = true := by
  unfold rowT
  split
  · rfl
  · exact okL_join rfl fun p hp => by
      obtain ⟨x, _, rfl⟩ := List.mem_map.mp hp
      exact okL_num x
theorem eq_ints0 {xs : List Int} {m : Mem} : eqD m (.tup (xs.map .int)) (.tup []) = some (decide (xs = [])) := by
  rw [eq_tup0 (nrs_int xs) (shp_of (by simp only [lay, lays_ints]) (by simp [dep]))]
  cases xs <;> rfl
/-! ### zip -/
def zipS (x y : D) (m : Mem) : XR Src := match x, y with
  | .tup xs, .tup ys => .ok (srcZ (srcS xs) (srcS ys)) m
  | .tup _, _ => .bad
  | _, .tup _ => .bad
  | .str _, _ => .bad
  | _, .str _ => .bad
  | x, y => (match srcD x m, srcD y m with
    | some s, some t => .ok (srcZ s t) m
    | _, _ => .bad)
@[simp] theorem evi_zip {Φ : Fns} {Gl : List D} {a b : E} {σ : Sl} {m : Mem} : evI Φ Gl (.zip a b) σ m = (evE Φ Gl a σ m).bind fun x m1 => (evE Φ Gl b σ m1).bind fun y m2 => zipS x y m2 := by
  first | (rw [evI]; done) | (rw [evI]; rfl)
@[simp] theorem zipS_tup {xs ys : List D} {m : Mem} : zipS (.tup xs) (.tup ys) m = .ok (srcZ (srcS xs) (srcS ys)) m := rfl
@[simp] theorem zipS_lst {xs ys : List D} {m : Mem} : zipS (.lst xs) (.lst ys) m = .ok (srcZ (srcS xs) (srcS ys)) m := rfl
@[simp] theorem zip_len {s t : Src} : (srcZ s t).len = min s.len t.len := rfl
@[simp] theorem allB_true {α : Type} (l : List α) : allB (fun _ => true) l = true := by simp [allB]
end G

set_option Elab.async false
set_option linter.all false
set_option maxRecDepth 100000
set_option maxHeartbeats 400000
/-! G32: what holds behind an expression, a statement (rules for a walk). -/
namespace G
open PySem
abbrev XK := Nat → List D → Mem → Prop
/-- no exception -/
abbrev NX : XK := fun _ _ _ => False
def xp {α : Type} (r : XR α) (Q : α → Mem → Prop) (X : XK) : Prop := match r with
  | .ok a m => Q a m
  | .exc c fs m => X c fs m
  | .bad => False
def sp (r : SR) (N : Sl → Mem → Prop) (K : SR → Prop) : Prop := match r with
  | .next σ m => N σ m
  | .bad => False
  | r => K r
@[irreducible] def Cl (P : List Fn) (Gl : List D) (n : Nat) : Fns := callF P Gl n
theorem Cl_eq {P : List Fn} {Gl : List D} {n : Nat} : Cl P Gl n = callF P Gl n := by unfold Cl; rfl
section
variable (Φ : Fns) (Gl : List D)
@[irreducible] def wE (e : E) (σ : Sl) (m : Mem) (Q : D → Mem → Prop) (X : XK) : Prop := xp (evE Φ Gl e σ m) Q X
@[irreducible] def wEs (e : Es) (σ : Sl) (m : Mem) (Q : List D → Mem → Prop) (X : XK) : Prop := xp (evEs Φ Gl e σ m) Q X
@[irreducible] def wEo (e : Eo) (σ : Sl) (m : Mem) (Q : Option Int → Mem → Prop) (X : XK) : Prop := xp (evEo Φ Gl e σ m) Q X
@[irreducible] def wI (e : It) (σ : Sl) (m : Mem) (Q : Src → Mem → Prop) (X : XK) : Prop := xp (evI Φ Gl e σ m) Q X
@[irreducible] def wC (f : Nat) (ds : List D) (m : Mem) (Q : D → Mem → Prop) (X : XK) : Prop := xp (Φ f ds m) Q X
@[irreducible] def wS (W : Nat) (s : S) (σ : Sl) (m : Mem) (N : Sl → Mem → Prop) (K : SR → Prop) : Prop := sp (evS Φ Gl W s σ m) N K
@[irreducible] def wSs (W : Nat) (s : Ss) (σ : Sl) (m : Mem) (N : Sl → Mem → Prop) (K : SR → Prop) : Prop := sp (evSs Φ Gl W s σ m) N K
end
@[irreducible] def wP (o : PR) (Q : D → Mem → Prop) : Prop := match o with
  | some p => Q p.1 p.2
  | none => False
@[irreducible] def wO {α : Type} (o : Option α) (Q : α → Prop) : Prop := match o with
  | some p => Q p
  | none => False
/-- an int -/
@[irreducible] def isI (x : D) (Q : Int → Prop) : Prop := match x with
  | .int i => Q i
  | _ => False
theorem i_int {i : Int} {Q : Int → Prop} (q : Q i) : isI (.int i) Q := by unfold isI; exact q
theorem isI_ex {x : D} {Q : Int → Prop} (h : isI x Q) : ∃ i, x = .int i ∧ Q i := by
  unfold isI at h; cases x <;> first | exact ⟨_, rfl, h⟩ | exact h.elim
theorem p_some {d : D} {m : Mem} {Q : D → Mem → Prop} (q : Q d m) : wP (some (d, m)) Q := by unfold wP; exact q
theorem o_some {α : Type} {d : α} {Q : α → Prop} (q : Q d) : wO (some d) Q := by unfold wO; exact q
theorem p_ex {o : PR} {Q : D → Mem → Prop} (h : wP o Q) : ∃ d m, o = some (d, m) ∧ Q d m := by
  unfold wP at h; cases o <;> first | exact ⟨_, _, rfl, h⟩ | exact h.elim
theorem o_ex {α : Type} {o : Option α} {Q : α → Prop} (h : wO o Q) : ∃ d, o = some d ∧ Q d := by
  unfold wO at h; cases o <;> first | exact ⟨_, rfl, h⟩ | exact h.elim
@[irreducible] def isB (x : D) (Q : Bool → Prop) : Prop := match x with
  | .bl i => Q i
  | _ => False
theorem i_bl {i : Bool} {Q : Bool → Prop} (q : Q i) : isB (.bl i) Q := by unfold isB; exact q
theorem isB_ex {x : D} {Q : Bool → Prop} (h : isB x Q) : ∃ i, x = .bl i ∧ Q i := by
  unfold isB at h; cases x <;> first | exact ⟨_, rfl, h⟩ | exact h.elim
@[irreducible] def lenQ (ds : List D) (Q : Prop) : Prop := ds.length ≤ 16777216 ∧ Q
theorem lq_lit {ds : List D} {Q : Prop} (h : Nat.ble ds.length 16777216 = true) (q : Q) : lenQ ds Q := by unfold lenQ; exact ⟨Nat.le_of_ble_eq_true h, q⟩
theorem lq_of {ds : List D} {Q : Prop} (h : ds.length ≤ 16777216) (q : Q) : lenQ ds Q := by unfold lenQ; exact ⟨h, q⟩
theorem lq_ex {ds : List D} {Q : Prop} (h : lenQ ds Q) : ds.length ≤ 16777216 ∧ Q := by unfold lenQ at h; exact h
@[irreducible] def okQ (b : Bool) (Q : Prop) : Prop := b = true ∧ Q
theorem ok_q {b : Bool} {Q : Prop} (h : b = true) (q : Q) : okQ b Q := by unfold okQ; exact ⟨h, q⟩
theorem okq_ex {b : Bool} {Q : Prop} (h : okQ b Q) : b = true ∧ Q := by unfold okQ at h; exact h
@[irreducible] def tTr (m : Mem) (x : D) (B : Bool → Prop) : Prop := wO (truthy m x) B
@[irreducible] def tCmp (m : Mem) (op : CmpOp) (x y : D) (B : Bool → Prop) : Prop := wO (cmpD m op x y) B
@[irreducible] def tIsi (m : Mem) (x : D) (ts : List Ty) (B : Bool → Prop) : Prop := wO (isTys m x ts) B
@[irreducible] def tIdx (m : Mem) (x y : D) (R : D → Prop) : Prop := wO (idxD m x y) R
@[irreducible] def tRng (ds : List D) (R : Src → Prop) : Prop := wO (rngS ds) R
@[irreducible] def tSrc (x : D) (m : Mem) (R : Src → Prop) : Prop := wO (srcD x m) R
@[irreducible] def tPut (o i v : D) (m : Mem) (R : Mem → Prop) : Prop := wO (putD o i v m) R
@[irreducible] def tPar (is : List Nat) (ds : List D) (σ : Sl) (R : Sl → Prop) : Prop := wO (parSet is ds σ) R
@[irreducible] def pBin (mu : Bool) (op : Operator) (x y : D) (m : Mem) (Q : D → Mem → Prop) : Prop := wP (binD mu op x y m) Q
@[irreducible] def pBlt (mu : Bool) (f : Blt) (ds : List D) (m : Mem) (Q : D → Mem → Prop) : Prop := wP (bltD mu f ds m) Q
@[irreducible] def pMth (f : Mth) (o : D) (ds : List D) (m : Mem) (Q : D → Mem → Prop) : Prop := wP (mthD f o ds m) Q
@[irreducible] def pSlc (mu : Bool) (lo hi : Option Int) (x : D) (m : Mem) (Q : D → Mem → Prop) : Prop := wP (slcD mu lo hi x m) Q
theorem tTr_eq {m : Mem} {x : D} {B : Bool → Prop} : tTr m x B = wO (truthy m x) B := by unfold tTr; rfl
theorem tCmp_eq {m : Mem} {op : CmpOp} {x y : D} {B : Bool → Prop} : tCmp m op x y B = wO (cmpD m op x y) B := by unfold tCmp; rfl
theorem tIsi_eq {m : Mem} {x : D} {ts : List Ty} {B : Bool → Prop} : tIsi m x ts B = wO (isTys m x ts) B := by unfold tIsi; rfl
theorem tIdx_eq {m : Mem} {x y : D} {R : D → Prop} : tIdx m x y R = wO (idxD m x y) R := by unfold tIdx; rfl
theorem tRng_eq {ds : List D} {R : Src → Prop} : tRng ds R = wO (rngS ds) R := by unfold tRng; rfl
theorem tSrc_eq {x : D} {m : Mem} {R : Src → Prop} : tSrc x m R = wO (srcD x m) R := by unfold tSrc; rfl
theorem tPut_eq {o i v : D} {m : Mem} {R : Mem → Prop} : tPut o i v m R = wO (putD o i v m) R := by unfold tPut; rfl
theorem tPar_eq {is : List Nat} {ds : List D} {σ : Sl} {R : Sl → Prop} : tPar is ds σ R = wO (parSet is ds σ) R := by unfold tPar; rfl
theorem pBin_eq {mu : Bool} {op : Operator} {x y : D} {m : Mem} {Q : D → Mem → Prop} : pBin mu op x y m Q = wP (binD mu op x y m) Q := by unfold pBin; rfl
theorem pBlt_eq {mu : Bool} {f : Blt} {ds : List D} {m : Mem} {Q : D → Mem → Prop} : pBlt mu f ds m Q = wP (bltD mu f ds m) Q := by unfold pBlt; rfl
theorem pMth_eq {f : Mth} {o : D} {ds : List D} {m : Mem} {Q : D → Mem → Prop} : pMth f o ds m Q = wP (mthD f o ds m) Q := by unfold pMth; rfl
theorem pSlc_eq {mu : Bool} {lo hi : Option Int} {x : D} {m : Mem} {Q : D → Mem → Prop} : pSlc mu lo hi x m Q = wP (slcD mu lo hi x m) Q := by unfold pSlc; rfl
theorem xp_bind {α β : Type} {r : XR α} {f : α → Mem → XR β} {Q : β → Mem → Prop} {X : XK} : xp (r.bind f) Q X = xp r (fun a m => xp (f a m) Q X) X := by cases r <;> rfl
theorem xp_ofP {o : PR} {Q : D → Mem → Prop} {X : XK} : xp (ofP o) Q X = wP o Q := by first | (unfold wP; cases o <;> rfl) | (unfold wO; cases o <;> rfl)
theorem xp_ofO {o : Option D} {m : Mem} {Q : D → Mem → Prop} {X : XK} : xp (ofO o m) Q X = wO o (fun d => Q d m) := by first | (unfold wP; cases o <;> rfl) | (unfold wO; cases o <;> rfl)
theorem xp_ofB {o : Option Bool} {m : Mem} {Q : D → Mem → Prop} {X : XK} : xp (ofB o m) Q X = wO o (fun d => Q (.bl d) m) := by first | (unfold wP; cases o <;> rfl) | (unfold wO; cases o <;> rfl)
theorem xp_ofS {o : Option Src} {m : Mem} {Q : Src → Mem → Prop} {X : XK} : xp (ofS o m) Q X = wO o (fun d => Q d m) := by first | (unfold wP; cases o <;> rfl) | (unfold wO; cases o <;> rfl)
theorem xp_ok {α : Type} {a : α} {m : Mem} {Q : α → Mem → Prop} {X : XK} : xp (.ok a m) Q X = Q a m := rfl
theorem xp_mono {α : Type} {r : XR α} {Q Q' : α → Mem → Prop} {X X' : XK} (h : xp r Q X) (hq : ∀ a m, Q a m → Q' a m) (hx : ∀ c fs m, X c fs m → X' c fs m) : xp r Q' X' := by
  cases r with
  | ok a m => exact hq a m h
  | exc c fs m => exact hx c fs m h
  | bad => exact h
theorem xp_mono' {α : Type} {r : XR α} {Q Q' : α → Mem → Prop} {X X' : XK} (h : xp r Q X) (hq : ∀ a m, Q a m → Q' a m) (hx : ∀ c fs m, X c fs m → X' c fs m) : xp r Q' X' := xp_mono h hq hx
theorem sp_bind {r : SR} {f : Sl → Mem → SR} {N : Sl → Mem → Prop} {K : SR → Prop} (h : sp r (fun σ m => sp (f σ m) N K) K) : sp (r.bind f) N K := by cases r <;> exact h
theorem sp_ofX {α : Type} {r : XR α} {σ : Sl} {f : α → Mem → SR} {N : Sl → Mem → Prop} {K : SR → Prop} (h : xp r (fun a m => sp (f a m) N K) (fun c fs m => K (.exc c fs σ m))) : sp (ofX r σ f) N K := by cases r <;> exact h
section
variable {Φ : Fns} {Gl : List D} {W : Nat} {σ σ' : Sl} {m : Mem} {X : XK} {Q : D → Mem → Prop} {d x y : D} {a b c e : E} {as : Es} {k : Nat} {mu : Bool} {i j : Int}
theorem w_var (h : sget σ k = some d) (q : Q d m) : wE Φ Gl (.var k) σ m Q X := by unfold wE; rw [ev_var, h]; exact q
theorem w_cst {k : Const} (h : cstD k = some d) (q : Q d m) : wE Φ Gl (.cst k) σ m Q X := by unfold wE; rw [ev_cst, h]; exact q
theorem w_glo (h : Gl[k]? = some d) (q : Q d m) : wE Φ Gl (.glo k) σ m Q X := by unfold wE; rw [ev_glo, h]; exact q
theorem w_bin {op : Operator} (h : wE Φ Gl a σ m (fun x m1 => wE Φ Gl b σ m1 (fun y m2 => pBin mu op x y m2 Q) X) X) : wE Φ Gl (.bin mu op a b) σ m Q X := by
  unfold wE at *; simpa only [ev_bin, xp_bind, xp_ofP, pBin_eq] using h
theorem w_neg (h : wE Φ Gl a σ m (fun x m1 => isI x fun i => Q (.int (-i)) m1) X) : wE Φ Gl (.neg a) σ m Q X := by
  unfold wE at *; rw [ev_neg, xp_bind]
  refine xp_mono h ?_ (fun _ _ _ z => z)
  intro x m1 q
  obtain ⟨i, rfl, q2⟩ := isI_ex q
  exact q2
theorem w_not (h : wE Φ Gl a σ m (fun x m1 => tTr m1 x fun b => Q (.bl !b) m1) X) : wE Φ Gl (.not a) σ m Q X := by
  unfold wE at *; rw [ev_not, xp_bind]
  refine xp_mono h ?_ (fun _ _ _ z => z)
  intro x m1 q
  obtain ⟨b, e, q⟩ := o_ex (tTr_eq ▸ q)
  rw [e]; exact q
theorem w_cmp {op : CmpOp} (h : wE Φ Gl a σ m (fun x m1 => wE Φ Gl b σ m1 (fun y m2 => tCmp m2 op x y fun b => Q (.bl b) m2) X) X) : wE Φ Gl (.cmp op a b) σ m Q X := by
  unfold wE at *; simpa only [ev_cmp, xp_bind, xp_ofB, tCmp_eq] using h
/-- a chain without effects -/
theorem w_chn {op op' : CmpOp} {p : Bool} (q : Bool) (h : wE Φ Gl a σ m (fun x m1 => m1 = m ∧ wE Φ Gl b σ m (fun y m2 => m2 = m ∧ cmpD m op x y = some p ∧ (p = true → wE Φ Gl c σ m (fun z m3 => m3 = m ∧ cmpD m op' y z = some q) NX)) NX) X) (hq : Q (.bl (p && q)) m) : wE Φ Gl (.chn op op' a b c) σ m Q X := by
  unfold wE at *; rw [ev_chn, xp_bind]
  refine xp_mono h ?_ (fun _ _ _ z => z)
  rintro x _ ⟨rfl, h2⟩
  rw [xp_bind]
  refine xp_mono h2 ?_ (fun _ _ _ z => z.elim)
  rintro y _ ⟨rfl, hp, h3⟩
  rw [hp]
  cases p with
  | false => exact hq
  | true =>
    show xp (XR.bind _ _) Q X
    rw [xp_bind]
    refine xp_mono (h3 rfl) ?_ (fun _ _ _ z => z.elim)
    rintro z _ ⟨rfl, hz⟩
    rw [hz]
    exact hq
/-- and, or of truths without effects -/
theorem w_andB (p q : Bool) (h : wE Φ Gl a σ m (fun x m1 => x = .bl p ∧ m1 = m) X) (h2 : p = true → wE Φ Gl b σ m (fun y m2 => y = .bl q ∧ m2 = m) X) (hq : Q (.bl (p && q)) m) : wE Φ Gl (.and a b) σ m Q X := by
  unfold wE at *; rw [ev_and, xp_bind]
  refine xp_mono h ?_ (fun _ _ _ z => z)
  rintro _ _ ⟨rfl, rfl⟩
  cases p with
  | false => exact hq
  | true =>
    refine xp_mono (h2 rfl) ?_ (fun _ _ _ z => z)
    rintro _ _ ⟨rfl, rfl⟩
    exact hq
theorem w_orB (p q : Bool) (h : wE Φ Gl a σ m (fun x m1 => x = .bl p ∧ m1 = m) X) (h2 : p = false → wE Φ Gl b σ m (fun y m2 => y = .bl q ∧ m2 = m) X) (hq : Q (.bl (p || q)) m) : wE Φ Gl (.or a b) σ m Q X := by
  unfold wE at *; rw [ev_or, xp_bind]
  refine xp_mono h ?_ (fun _ _ _ z => z)
  rintro _ _ ⟨rfl, rfl⟩
  cases p with
  | true => exact hq
  | false =>
    refine xp_mono (h2 rfl) ?_ (fun _ _ _ z => z)
    rintro _ _ ⟨rfl, rfl⟩
    exact hq
/-- .. by their ways -/
theorem w_and (h : wE Φ Gl a σ m (fun x m1 => tTr m1 x fun p => (p = true → wE Φ Gl b σ m1 Q X) ∧ (p = false → Q x m1)) X) : wE Φ Gl (.and a b) σ m Q X := by
  unfold wE at *; rw [ev_and, xp_bind]
  refine xp_mono h ?_ (fun _ _ _ z => z)
  intro x m1 q
  obtain ⟨p, e, q⟩ := o_ex (tTr_eq ▸ q)
  rw [e]
  cases p with
  | true => exact q.1 rfl
  | false => exact q.2 rfl
theorem w_or (h : wE Φ Gl a σ m (fun x m1 => tTr m1 x fun p => (p = true → Q x m1) ∧ (p = false → wE Φ Gl b σ m1 Q X)) X) : wE Φ Gl (.or a b) σ m Q X := by
  unfold wE at *; rw [ev_or, xp_bind]
  refine xp_mono h ?_ (fun _ _ _ z => z)
  intro x m1 q
  obtain ⟨p, e, q⟩ := o_ex (tTr_eq ▸ q)
  rw [e]
  cases p with
  | true => exact q.1 rfl
  | false => exact q.2 rfl
theorem w_orP (h : wE Φ Gl a σ m (fun x m1 => isB x fun p => (p = true → Q (.bl true) m1) ∧ (p = false → wE Φ Gl b σ m1 Q X)) X) : wE Φ Gl (.or a b) σ m Q X := by
  unfold wE at *; rw [ev_or, xp_bind]
  refine xp_mono h ?_ (fun _ _ _ z => z)
  intro x m1 q
  obtain ⟨p, rfl, q2⟩ := isB_ex q
  cases p with
  | true => exact q2.1 rfl
  | false => exact q2.2 rfl
theorem w_andP (h : wE Φ Gl a σ m (fun x m1 => isB x fun p => (p = true → wE Φ Gl b σ m1 Q X) ∧ (p = false → Q (.bl false) m1)) X) : wE Φ Gl (.and a b) σ m Q X := by
  unfold wE at *; rw [ev_and, xp_bind]
  refine xp_mono h ?_ (fun _ _ _ z => z)
  intro x m1 q
  obtain ⟨p, rfl, q2⟩ := isB_ex q
  cases p with
  | true => exact q2.1 rfl
  | false => exact q2.2 rfl
theorem w_ife (h : wE Φ Gl c σ m (fun x m1 => tTr m1 x fun p => (p = true → wE Φ Gl a σ m1 Q X) ∧ (p = false → wE Φ Gl b σ m1 Q X)) X) : wE Φ Gl (.ife c a b) σ m Q X := by
  unfold wE at *; rw [ev_ife, xp_bind]
  refine xp_mono h ?_ (fun _ _ _ z => z)
  intro x m1 q
  obtain ⟨p, e, q⟩ := o_ex (tTr_eq ▸ q)
  rw [e]
  cases p with
  | true => exact q.1 rfl
  | false => exact q.2 rfl
/-- .. as one value -/
theorem w_ifeV (p : Bool) (u v : D) (h : wE Φ Gl c σ m (fun x m1 => m1 = m ∧ truthy m x = some p) X) (ha : p = true → wE Φ Gl a σ m (fun d m1 => d = u ∧ m1 = m) X) (hb : p = false → wE Φ Gl b σ m (fun d m1 => d = v ∧ m1 = m) X) (q : Q (if p = true then u else v) m) : wE Φ Gl (.ife c a b) σ m Q X := by
  unfold wE at *; rw [ev_ife, xp_bind]
  refine xp_mono h ?_ (fun _ _ _ z => z)
  rintro x _ ⟨rfl, e⟩
  rw [e]
  cases p with
  | true =>
    refine xp_mono (ha rfl) ?_ (fun _ _ _ z => z)
    rintro _ _ ⟨rfl, rfl⟩; exact q
  | false =>
    refine xp_mono (hb rfl) ?_ (fun _ _ _ z => z)
    rintro _ _ ⟨rfl, rfl⟩; exact q
theorem w_call {f : Nat} (h : wEs Φ Gl as σ m (fun ds m1 => wC Φ f ds m1 Q X) X) : wE Φ Gl (.call f as) σ m Q X := by
  unfold wE wEs wC at *; simpa only [ev_call, xp_bind] using h
theorem w_blt {f : Blt} (h : wEs Φ Gl as σ m (fun ds m1 => pBlt mu f ds m1 Q) X) : wE Φ Gl (.blt mu f as) σ m Q X := by
  unfold wE wEs at *; simpa only [ev_blt, xp_bind, xp_ofP, pBlt_eq] using h
theorem w_mth {f : Mth} (h : wE Φ Gl a σ m (fun o m1 => okQ (mthOk f o) <| wEs Φ Gl as σ m1 (fun ds m2 => pMth f o ds m2 Q) X) X) : wE Φ Gl (.mth f a as) σ m Q X := by
  unfold wE wEs at *; rw [ev_mth, xp_bind]
  refine xp_mono h ?_ (fun _ _ _ z => z)
  intro o m1 z
  obtain ⟨h1, h2⟩ := okq_ex z
  rw [if_pos h1, xp_bind]
  simpa only [xp_ofP, pMth_eq] using h2
theorem w_isi {ts : List Ty} (h : wE Φ Gl a σ m (fun x m1 => tIsi m1 x ts fun b => Q (.bl b) m1) X) : wE Φ Gl (.isi a ts) σ m Q X := by
  unfold wE at *; simpa only [ev_isi, xp_bind, xp_ofB, tIsi_eq] using h
theorem w_idx (h : wE Φ Gl a σ m (fun x m1 => wE Φ Gl b σ m1 (fun y m2 => tIdx m2 x y fun d => Q d m2) X) X) : wE Φ Gl (.idx a b) σ m Q X := by
  unfold wE at *; simpa only [ev_idx, xp_bind, xp_ofO, tIdx_eq] using h
theorem w_slc {lo hi : Eo} (h : wE Φ Gl a σ m (fun x m1 => wEo Φ Gl lo σ m1 (fun l m2 => wEo Φ Gl hi σ m2 (fun h m3 => pSlc mu l h x m3 Q) X) X) X) : wE Φ Gl (.slc mu a lo hi) σ m Q X := by
  unfold wE wEo at *; simpa only [ev_slc, xp_bind, xp_ofP, pSlc_eq] using h
theorem wo_no {Q : Option Int → Mem → Prop} (q : Q none m) : wEo Φ Gl .no σ m Q X := by unfold wEo; rw [evo_no]; exact q
theorem wo_so {Q : Option Int → Mem → Prop} (h : wE Φ Gl a σ m (fun x m1 => isI x fun i => Q (some i) m1) X) : wEo Φ Gl (.so a) σ m Q X := by
  unfold wEo wE at *; rw [evo_so, xp_bind]
  refine xp_mono h ?_ (fun _ _ _ z => z)
  intro x m1 q
  obtain ⟨i, rfl, q2⟩ := isI_ex q
  exact q2
theorem w_tup (h : wEs Φ Gl as σ m (fun ds m1 => lenQ ds <| Q (.tup ds) m1) X) : wE Φ Gl (.tup as) σ m Q X := by
  unfold wE wEs at *; rw [ev_tup, xp_bind]
  refine xp_mono h ?_ (fun _ _ _ z => z)
  intro ds m1 z
  obtain ⟨h1, q⟩ := lq_ex z
  rw [if_pos (show ds.length ≤ lim from h1)]; exact q
theorem w_lstF (h : wEs Φ Gl as σ m (fun ds m1 => lenQ ds <| Q (.lst ds) m1) X) : wE Φ Gl (.lst false as) σ m Q X := by
  unfold wE wEs at *; rw [ev_lst, xp_bind]
  refine xp_mono h ?_ (fun _ _ _ z => z)
  intro ds m1 z
  obtain ⟨h1, q⟩ := lq_ex z
  rw [new_eq, if_pos (show ds.length ≤ lim from h1)]; exact q
theorem w_lstT (h : wEs Φ Gl as σ m (fun ds m1 => lenQ ds <| Q (.ref m1.length) (m1 ++ [.lst ds])) X) : wE Φ Gl (.lst true as) σ m Q X := by
  unfold wE wEs at *; rw [ev_lst, xp_bind]
  refine xp_mono h ?_ (fun _ _ _ z => z)
  intro ds m1 z
  obtain ⟨h1, q⟩ := lq_ex z
  rw [new_eq, if_pos (show ds.length ≤ lim from h1)]; exact q
theorem w_efl {cc : Nat} (h : sget σ k = some (.exn cc [d])) (q : Q d m) : wE Φ Gl (.efl k) σ m Q X := by
  unfold wE
  have : evE Φ Gl (.efl k) σ m = .ok d m := by rw [evE, h]
  rw [this]; exact q
theorem ws_nil {Q : List D → Mem → Prop} (q : Q [] m) : wEs Φ Gl .nil σ m Q X := by unfold wEs; rw [evs_nil]; exact q
theorem ws_cons {Q : List D → Mem → Prop} (h : wE Φ Gl a σ m (fun x m1 => wEs Φ Gl as σ m1 (fun xs m2 => Q (x :: xs) m2) X) X) : wEs Φ Gl (.cons a as) σ m Q X := by
  unfold wEs wE at *; rw [evs_cons, xp_bind]; simpa only [xp_bind, xp_ok] using h
/-! calls -/
theorem w_ok {f : Nat} {ds : List D} {m' : Mem} (h : Φ f ds m = .ok d m') (q : Q d m') : wC Φ f ds m Q X := by unfold wC; rw [h]; exact q
theorem w_exc {f cc : Nat} {ds fs : List D} {m' : Mem} (h : Φ f ds m = .exc cc fs m') (q : X cc fs m') : wC Φ f ds m Q X := by unfold wC; rw [h]; exact q
theorem w_xr {f : Nat} {ds : List D} {r : XR D} (h : Φ f ds m = r) (q : xp r Q X) : wC Φ f ds m Q X := by unfold wC; rw [h]; exact q
theorem w_mono {f : Nat} {ds : List D} {Q' : D → Mem → Prop} {X' : XK} (h : wC Φ f ds m Q' X') (q : ∀ d m', Q' d m' → Q d m') (x : ∀ c fs m', X' c fs m' → X c fs m') : wC Φ f ds m Q X := by unfold wC at *; exact xp_mono h q x
theorem w_monoN {f : Nat} {ds : List D} {Q' : D → Mem → Prop} (h : wC Φ f ds m Q' NX) (q : ∀ d m', Q' d m' → Q d m') : wC Φ f ds m Q X := w_mono h q fun _ _ _ z => z.elim
theorem wE_mono {Q' : D → Mem → Prop} {X' : XK} (h : wE Φ Gl e σ m Q' X') (q : ∀ d m', Q' d m' → Q d m') (x : ∀ c fs m', X' c fs m' → X c fs m') : wE Φ Gl e σ m Q X := by unfold wE at *; exact xp_mono h q x
end
end G

set_option Elab.async false
set_option linter.all false
set_option maxRecDepth 100000
set_option maxHeartbeats 400000
/-! G33: rules for sources, comprehensions, statements, loops, defs. -/
namespace G
open PySem
/-- a source that runs over these -/
structure SrcAt (m : Mem) (S : Src) (xs : List D) : Prop where
  len : S.len = xs.length
  ok : S.ok m = true
  at' : ∀ i, i < xs.length → S.at' i m = xs[i]?
theorem sa_S {α : Type} {l : List α} {g : α → D} {m : Mem} : SrcAt m (srcS (l.map g)) (l.map g) := ⟨rfl, rfl, fun _ _ => rfl⟩
theorem sa_D {xs : List D} {m : Mem} : SrcAt m (srcS xs) (xs.map id) := ⟨by simp [srcS], rfl, fun _ _ => by simp [srcS]⟩
theorem sa_N0 {k : Nat} {m : Mem} : SrcAt m (srcN 0 k 1) ((List.range k).map fun j : Nat => D.int (j : Int)) := ⟨by simp [srcN], rfl, fun i h => by
  have h : i < k := by simpa using h
  simp only [srcN, if_pos h, List.getElem?_map, List.getElem?_range h, Option.map_some]
  congr 2; omega⟩
theorem sa_N {lo : Int} {k : Nat} {m : Mem} : SrcAt m (srcN lo k 1) ((List.range k).map fun j : Nat => D.int (lo + (j : Int))) := ⟨by simp [srcN], rfl, fun i h => by
  have h : i < k := by simpa using h
  simp only [srcN, if_pos h, List.getElem?_map, List.getElem?_range h, Option.map_some]
  congr 2; omega⟩
theorem sa_Z {S T : Src} {α β : Type} {l : List α} {g : α → D} {l' : List β} {g' : β → D} {m : Mem} (h : SrcAt m S (l.map g)) (h' : SrcAt m T (l'.map g')) : SrcAt m (srcZ S T) ((l.zip l').map fun p => .tup [g p.1, g' p.2]) :=
  ⟨by simp [srcZ, h.len, h'.len], by simp [srcZ, h.ok, h'.ok], fun i hi => by
    simp only [List.length_map, List.length_zip] at hi
    have h1 : i < l.length := by omega
    have h2 : i < l'.length := by omega
    have e1 := h.at' i (by simpa using h1)
    have e2 := h'.at' i (by simpa using h2)
    simp only [srcZ, e1, e2, List.getElem?_map, List.getElem?_eq_getElem h1, List.getElem?_eq_getElem h2, Option.map_some]
    rw [List.getElem?_eq_getElem (by simp; omega)]
    simp⟩
theorem sa_E {S : Src} {α : Type} {l : List α} {g : α → D} {m : Mem} (h : SrcAt m S (l.map g)) : SrcAt m (srcE S) (l.zipIdx.map fun p => .tup [.int (p.2 : Nat), g p.1]) :=
  ⟨by simp [srcE, h.len], h.ok, fun i hi => by
    have h1 : i < l.length := by simpa using hi
    have e1 := h.at' i (by simpa using h1)
    simp only [srcE, e1, List.getElem?_map, List.getElem?_eq_getElem h1, Option.map_some]
    rw [List.getElem?_eq_getElem (by simpa using h1)]
    simp⟩
theorem sa_R {n : Nat} {α : Type} {l : List α} {g : α → D} {m : Mem} (h : m[n]? = some (.lst (l.map g))) : SrcAt m (srcR n (l.map g).length) (l.map g) := ⟨rfl, by simp [srcR, h], fun i hi => by simp [srcR, h]⟩
theorem sa_R' {n k : Nat} {α : Type} {l : List α} {g : α → D} {m : Mem} (h : m[n]? = some (.lst (l.map g))) (hk : k = l.length) : SrcAt m (srcR n k) (l.map g) := by
  have := sa_R h
  rw [List.length_map] at this
  rw [hk]; exact this
section
variable {Φ : Fns} {Gl : List D} {W : Nat} {σ σ' σ0 : Sl} {m : Mem} {X : XK} {Q : D → Mem → Prop} {R : Src → Mem → Prop} {d x y : D} {a b c e : E} {as : Es} {k : Nat} {mu : Bool} {i j : Int}
theorem wi_seq (h : wE Φ Gl a σ m (fun x m1 => tSrc x m1 fun S => R S m1) X) : wI Φ Gl (.seq a) σ m R X := by
  unfold wI wE at *; simpa only [evi_seq, xp_bind, xp_ofS, tSrc_eq] using h
theorem wi_rng (h : wEs Φ Gl as σ m (fun ds m1 => tRng ds fun S => R S m1) X) : wI Φ Gl (.rng as) σ m R X := by
  unfold wI wEs at *; simpa only [evi_rng, xp_bind, xp_ofS, tRng_eq] using h
theorem wi_zip (h : wE Φ Gl a σ m (fun x m1 => wE Φ Gl b σ m1 (fun y m2 => xp (zipS x y m2) R X) X) X) : wI Φ Gl (.zip a b) σ m R X := by
  unfold wI wE at *; simpa only [evi_zip, xp_bind] using h
@[irreducible] def tEnu (x : D) (m : Mem) (R : Src → Prop) : Prop := ∃ S, ((∃ xs, x = .lst xs) ∨ (∃ xs, x = .scr xs) ∨ (∃ n, x = .ref n)) ∧ srcD x m = some S ∧ R (srcE S)
theorem en_lst {xs : List D} {m : Mem} {R : Src → Prop} (q : R (srcE (srcS xs))) : tEnu (.lst xs) m R := by unfold tEnu; exact ⟨_, .inl ⟨_, rfl⟩, rfl, q⟩
theorem en_scr {xs : List D} {m : Mem} {R : Src → Prop} (q : R (srcE (srcS xs))) : tEnu (.scr xs) m R := by unfold tEnu; exact ⟨_, .inr (.inl ⟨_, rfl⟩), rfl, q⟩
theorem en_ref {n : Nat} {xs : List D} {m : Mem} {R : Src → Prop} (h : m[n]? = some (.lst xs)) (q : R (srcE (srcR n xs.length))) : tEnu (.ref n) m R := by
  unfold tEnu
  refine ⟨_, .inr (.inr ⟨_, rfl⟩), ?_, q⟩
  simp only [srcD, h]
theorem wi_enu (h : wE Φ Gl a σ m (fun x m1 => tEnu x m1 fun S => R S m1) X) : wI Φ Gl (.enu a) σ m R X := by
  unfold tEnu at h
  unfold wI wE at *
  rw [evI, xp_bind]
  refine xp_mono h ?_ (fun _ _ _ z => z)
  rintro x m1 ⟨S, hx, hs, q⟩
  rcases hx with ⟨xs, rfl⟩ | ⟨xs, rfl⟩ | ⟨n, rfl⟩ <;> simp only [hs] <;> exact q
theorem ro_1 {j : Int} {Q : Src → Prop} (h : -4611686018427387904 ≤ j ∧ j < 4611686018427387904) (q : Q (srcN 0 j.toNat 1)) : tRng [.int j] Q := by
  rw [tRng_eq, rng1, if_pos (show -(2 ^ 62) ≤ j ∧ j < 2 ^ 62 from h)]; exact o_some q
theorem ro_2 {i j : Int} {Q : Src → Prop} (h : -4611686018427387904 ≤ i ∧ i < 4611686018427387904 ∧ -4611686018427387904 ≤ j ∧ j < 4611686018427387904) (q : Q (srcN i (j - i).toNat 1)) : tRng [.int i, .int j] Q := by
  rw [tRng_eq, rng2, if_pos (show -(2 ^ 62) ≤ i ∧ i < 2 ^ 62 ∧ -(2 ^ 62) ≤ j ∧ j < 2 ^ 62 from h)]; exact o_some q
/-! ### comprehensions -/
theorem lc_gen {S : Src} {g : D → Sl → Option Sl} {tst : Sl → Mem → XR Bool} {el : Sl → Mem → XR D} {xs : List D} (I : Nat → List D → Mem → Prop) (hS : ∀ i acc m, I i acc m → SrcAt m S xs) (h0 : I 0 [] m) (hl : xs.length ≤ 16777216) (ha : ∀ i acc m, I i acc m → acc.length ≤ i)
    (hs : ∀ i acc m x, I i acc m → xs[i]? = some x → ∃ σ', g x σ = some σ' ∧ xp (tst σ' m) (fun b m1 => (b = true → xp (el σ' m1) (fun y m2 => I (i + 1) (acc ++ [y]) m2) NX) ∧ (b = false → I (i + 1) acc m1)) NX) :
    ∃ ys m', lcLoop S g tst el σ S.len 0 [] m = .ok ys m' ∧ I xs.length ys m' := by
  have gen : ∀ (k i : Nat) (acc : List D) (m : Mem), i + k = xs.length → I i acc m → ∃ ys m', lcLoop S g tst el σ k i acc m = .ok ys m' ∧ I xs.length ys m' := by
    intro k
    induction k with
    | zero =>
      intro i acc m hi hI
      have e : i = xs.length := by omega
      subst e
      refine ⟨acc, m, ?_, hI⟩
      simp only [lcLoop, (hS _ _ _ hI).ok, if_true]
    | succ k ih =>
      intro i acc m hi hI
      have hlt : i < xs.length := by omega
      have hat := (hS _ _ _ hI).at' i hlt
      obtain ⟨σ', h1, h2⟩ := hs i acc m xs[i] hI (List.getElem?_eq_getElem hlt)
      unfold lcLoop
      rw [hat, List.getElem?_eq_getElem hlt]
      simp only [h1]
      cases ht : tst σ' m with
      | bad => rw [ht] at h2; exact h2.elim
      | exc => rw [ht] at h2; exact h2.elim
      | ok b m1 =>
        rw [ht] at h2
        cases b with
        | false => exact ih _ _ _ (by omega) (h2.2 rfl)
        | true =>
          have h3 := h2.1 rfl
          cases he : el σ' m1 with
          | bad => rw [he] at h3; exact h3.elim
          | exc => rw [he] at h3; exact h3.elim
          | ok y m2 =>
            rw [he] at h3
            have := ha _ _ _ hI
            simp only [he, if_pos (show acc.length < lim from Nat.lt_of_lt_of_le (show acc.length < 16777216 by omega) (Nat.le_refl _))]
            exact ih _ _ _ (by omega) h3
  have hlen := (hS _ _ _ h0).len
  rw [hlen]
  exact gen xs.length 0 [] m (by omega) h0
@[irreducible] def wL (Φ : Fns) (Gl : List D) (own : List Nat) (tg : Tg) (cs : Es) (elt : E) (S : Src) (σ : Sl) (m : Mem) (Q : List D → Mem → Prop) : Prop :=
  xp (lcLoop S (asgG tg) (evC Φ Gl cs) (evE Φ Gl elt) (wipeD σ own) S.len 0 [] m) Q NX
theorem w_lcF {own : List Nat} {tg : Tg} {it : It} {cs : Es} {elt : E} (h : wI Φ Gl it σ m (fun S m1 => wL Φ Gl own tg cs elt S σ m1 fun xs m2 => Q (.lst xs) m2) X) : wE Φ Gl (.lc false own tg it cs elt) σ m Q X := by
  unfold wE wI wL at *
  rw [ev_lc, xp_bind]
  refine xp_mono h ?_ (fun _ _ _ z => z)
  intro S m1 q
  rw [xp_bind]
  exact xp_mono q (fun _ _ z => z) (fun _ _ _ z => z.elim)
theorem w_lcT {own : List Nat} {tg : Tg} {it : It} {cs : Es} {elt : E} (h : wI Φ Gl it σ m (fun S m1 => wL Φ Gl own tg cs elt S σ m1 fun xs m2 => Q (.ref m2.length) (m2 ++ [.lst xs])) X) : wE Φ Gl (.lc true own tg it cs elt) σ m Q X := by
  unfold wE wI wL at *
  rw [ev_lc, xp_bind]
  refine xp_mono h ?_ (fun _ _ _ z => z)
  intro S m1 q
  rw [xp_bind]
  exact xp_mono q (fun _ _ z => z) (fun _ _ _ z => z.elim)
variable {own : List Nat} {tg : Tg} {cs : Es} {elt : E} {S : Src} {R : List D → Mem → Prop}
/-- without effects, without a test -/
theorem wl_map {α : Type} {l : List α} {g : α → D} (f : α → D) (hS : SrcAt m S (l.map g)) (hσ : wipeD σ own = σ0) (hl : l.length ≤ 16777216) (h : ∀ a, a ∈ l → ∃ σ1, asgG tg (g a) σ0 = some σ1 ∧ wE Φ Gl elt σ1 m (fun d m' => d = f a ∧ m' = m) NX) (q : R (l.map f) m) : wL Φ Gl own tg .nil elt S σ m R := by
  unfold wL
  have := lc_gen (σ := wipeD σ own) (m := m) (g := asgG tg) (tst := evC Φ Gl .nil) (el := evE Φ Gl elt) (fun i acc m' => m' = m ∧ acc = (l.take i).map f) (fun _ _ _ z => by rw [z.1]; exact hS) ⟨rfl, rfl⟩ (by simpa using hl) (fun i acc m' z => by rw [z.2]; simp; omega) (by
    rintro i acc m' x ⟨rfl, rfl⟩ hx
    rw [List.getElem?_map, Option.map_eq_some_iff] at hx
    obtain ⟨a, ha, rfl⟩ := hx
    obtain ⟨σ1, h1, h2⟩ := h a (List.mem_of_getElem? ha)
    refine ⟨σ1, by rw [hσ]; exact h1, ?_⟩
    rw [evc_nil]
    refine ⟨fun _ => ?_, fun z => nomatch z⟩
    unfold wE at h2
    refine xp_mono h2 ?_ (fun _ _ _ z => z)
    rintro _ _ ⟨rfl, rfl⟩
    refine ⟨rfl, ?_⟩
    rw [List.take_succ, ha]
    simp)
  obtain ⟨ys, m', e, rfl, rfl⟩ := this
  rw [e]
  simpa [xp] using q
/-- .. with a test -/
theorem wl_fil {α : Type} {l : List α} {g : α → D} (p : α → Bool) (f : α → D) (hS : SrcAt m S (l.map g)) (hσ : wipeD σ own = σ0) (hl : l.length ≤ 16777216) (h : ∀ a, a ∈ l → ∃ σ1, asgG tg (g a) σ0 = some σ1 ∧ wE Φ Gl c σ1 m (fun d m' => m' = m ∧ truthy m d = some (p a)) NX ∧ (p a = true → wE Φ Gl elt σ1 m (fun d m' => d = f a ∧ m' = m) NX)) (q : R ((l.filter p).map f) m) : wL Φ Gl own tg (.cons c .nil) elt S σ m R := by
  unfold wL
  have := lc_gen (σ := wipeD σ own) (m := m) (g := asgG tg) (tst := evC Φ Gl (.cons c .nil)) (el := evE Φ Gl elt) (fun i acc m' => m' = m ∧ acc = ((l.take i).filter p).map f) (fun _ _ _ z => by rw [z.1]; exact hS) ⟨rfl, rfl⟩ (by simpa using hl) (fun i acc m' z => by
      rw [z.2, List.length_map]
      exact Nat.le_trans (List.length_filter_le _ _) (by simp; omega)) (by
    rintro i acc m' x ⟨rfl, rfl⟩ hx
    rw [List.getElem?_map, Option.map_eq_some_iff] at hx
    obtain ⟨a, ha, rfl⟩ := hx
    obtain ⟨σ1, h1, h2, h3⟩ := h a (List.mem_of_getElem? ha)
    refine ⟨σ1, by rw [hσ]; exact h1, ?_⟩
    rw [evc_one, xp_bind]
    unfold wE at h2 h3
    refine xp_mono h2 ?_ (fun _ _ _ z => z)
    rintro d _ ⟨rfl, e⟩
    rw [e]
    have et : (l.take (i + 1)) = l.take i ++ [a] := by rw [List.take_succ, ha]; rfl
    refine ⟨fun hp => ?_, fun hp => ?_⟩
    · refine xp_mono (h3 hp) ?_ (fun _ _ _ z => z)
      rintro _ _ ⟨rfl, rfl⟩
      refine ⟨rfl, ?_⟩
      rw [et, List.filter_append, List.map_append]
      simp [List.filter_cons, hp]
    · refine ⟨rfl, ?_⟩
      rw [et, List.filter_append]
      simp [List.filter_cons, hp])
  obtain ⟨ys, m', e, rfl, rfl⟩ := this
  rw [e]
  simpa [xp] using q
/-- with effects, without a test -/
theorem wl_st {α : Type} {l : List α} {g : α → D} (I : Nat → List D → Mem → Prop) (hS : ∀ i acc m, I i acc m → SrcAt m S (l.map g)) (hσ : wipeD σ own = σ0) (hl : l.length ≤ 16777216) (h0 : I 0 [] m)
    (h : ∀ i acc m a, I i acc m → acc.length = i → l[i]? = some a → ∃ σ1, asgG tg (g a) σ0 = some σ1 ∧ wE Φ Gl elt σ1 m (fun d m' => I (i + 1) (acc ++ [d]) m') NX) (q : ∀ ys m', I l.length ys m' → ys.length = l.length → R ys m') : wL Φ Gl own tg .nil elt S σ m R := by
  unfold wL
  have := lc_gen (σ := wipeD σ own) (m := m) (g := asgG tg) (tst := evC Φ Gl .nil) (el := evE Φ Gl elt) (fun i acc m' => I i acc m' ∧ acc.length = i) (fun i acc m' z => hS i acc m' z.1) ⟨h0, rfl⟩ (by simpa using hl) (fun i acc m' z => by rw [z.2]; exact Nat.le_refl _) (by
    rintro i acc m' x ⟨hI, hal⟩ hx
    rw [List.getElem?_map, Option.map_eq_some_iff] at hx
    obtain ⟨a, ha, rfl⟩ := hx
    obtain ⟨σ1, h1, h2⟩ := h i acc m' a hI hal ha
    refine ⟨σ1, by rw [hσ]; exact h1, ?_⟩
    rw [evc_nil]
    refine ⟨fun _ => ?_, fun z => nomatch z⟩
    unfold wE at h2
    exact xp_mono h2 (fun d m1 z => ⟨z, by simp [hal]⟩) (fun _ _ _ z => z))
  obtain ⟨ys, m', e, hI, hl2⟩ := this
  rw [e]
  rw [List.length_map] at hI hl2
  exact q ys m' hI hl2
end
/-! ### statements -/
def lpK (N C : Sl → Mem → Prop) (K : SR → Prop) : SR → Prop
  | .brk σ m => N σ m
  | .cnt σ m => C σ m
  | .next _ _ => False
  | r => K r
def tryK (nc : Nat) (hs : Hs) (N : Sl → Mem → Prop) (K : SR → Prop) : SR → Prop
  | .exc c fs σ m => c < nc ∧ sp (evH hs c fs σ m) N K
  | r => K r
section
variable {Φ : Fns} {Gl : List D} {W : Nat} {σ σ' σ0 : Sl} {m : Mem} {N : Sl → Mem → Prop} {K : SR → Prop} {d x y : D} {a b c e : E} {as : Es} {k : Nat} {p q : Ss} {s : S}
theorem z_nil (h : N σ m) : wSs Φ Gl W .nil σ m N K := by unfold wSs; rw [ss_nil]; exact h
theorem z_cons (h : wS Φ Gl W s σ m (fun σ' m' => wSs Φ Gl W p σ' m' N K) K) : wSs Φ Gl W (.cons s p) σ m N K := by
  unfold wS wSs at *; rw [ss_cons]; exact sp_bind h
theorem z_ret (h : wE Φ Gl e σ m (fun d m1 => K (.ret d m1)) (fun c fs m1 => K (.exc c fs σ m1))) : wS Φ Gl W (.ret e) σ m N K := by
  unfold wS wE at *; rw [st_ret]; exact sp_ofX h
theorem z_retN (h : K (.ret .non m)) : wS Φ Gl W .retN σ m N K := by
  unfold wS; rw [evS]; exact h
theorem z_ex (h : wE Φ Gl e σ m (fun d m1 => N σ m1) (fun c fs m1 => K (.exc c fs σ m1))) : wS Φ Gl W (.ex e) σ m N K := by
  unfold wS wE at *; rw [st_ex]; exact sp_ofX h
theorem z_nm (h : wE Φ Gl e σ m (fun d m1 => N (σ.set k (some d)) m1) (fun c fs m1 => K (.exc c fs σ m1))) : wS Φ Gl W (.asg (.nm k) e) σ m N K := by
  unfold wS wE at *; rw [st_asg]; refine sp_ofX (xp_mono h ?_ fun _ _ _ z => z)
  intro d m1 z; rw [ast_nm]; exact z
/-- an assignment's target -/
@[irreducible] def wT (Φ : Fns) (Gl : List D) (t : T) (d : D) (σ : Sl) (m : Mem) (N : Sl → Mem → Prop) : Prop := match asgT Φ Gl t d σ m with
  | .ok σ' m' => N σ' m'
  | .bad => False
@[irreducible] def wTs (Φ : Fns) (Gl : List D) (t : Ts) (d : List D) (σ : Sl) (m : Mem) (N : Sl → Mem → Prop) : Prop := match asgTs Φ Gl t d σ m with
  | .ok σ' m' => N σ' m'
  | .bad => False
theorem z_asg {t : T} (h : wE Φ Gl e σ m (fun d m1 => wT Φ Gl t d σ m1 N) (fun c fs m1 => K (.exc c fs σ m1))) : wS Φ Gl W (.asg t e) σ m N K := by
  unfold wS wE at *; rw [st_asg]; refine sp_ofX (xp_mono h ?_ fun _ _ _ z => z)
  intro d m1 z; unfold wT at z; revert z; cases asgT Φ Gl t d σ m1 <;> exact fun z => z
theorem t_nm (h : N (σ.set k (some d)) m) : wT Φ Gl (.nm k) d σ m N := by unfold wT; rw [ast_nm]; exact h
theorem t_sub {o i : E} {v : D} (h : wE Φ Gl o σ m (fun x m1 => wE Φ Gl i σ m1 (fun y m2 => tPut x y v m2 fun m3 => N σ m3) NX) NX) : wT Φ Gl (.sub o i) v σ m N := by
  unfold wT; unfold wE at h; rw [ast_sub]
  cases e1 : evE Φ Gl o σ m with
  | bad => rw [e1] at h; exact h.elim
  | exc => rw [e1] at h; exact h.elim
  | ok x m1 =>
    rw [e1] at h
    have h : xp (evE Φ Gl i σ m1) (fun y m2 => tPut x y v m2 fun m3 => N σ m3) NX := h
    cases e2 : evE Φ Gl i σ m1 with
    | bad => rw [e2] at h; exact h.elim
    | exc => rw [e2] at h; exact h.elim
    | ok y m2 =>
      rw [e2] at h
      have h : tPut x y v m2 (fun m3 => N σ m3) := h
      rw [tPut_eq] at h
      simp only [e2]
      obtain ⟨m3, e3, h⟩ := o_ex h
      rw [e3]; exact h
theorem t_tp {ts : Ts} {xs : List D} (h : wTs Φ Gl ts xs σ m N) : wT Φ Gl (.tp ts) (.tup xs) σ m N := by unfold wT; unfold wTs at h; rw [ast_tp]; exact h
theorem ts_nil (h : N σ m) : wTs Φ Gl .nil [] σ m N := by unfold wTs; rw [asts_nil]; exact h
theorem ts_cons {t : T} {r : Ts} {x : D} {xs : List D} (h : wT Φ Gl t x σ m (fun σ' m' => wTs Φ Gl r xs σ' m' N)) : wTs Φ Gl (.cons t r) (x :: xs) σ m N := by
  unfold wTs; unfold wT wTs at h; rw [asts_cons]
  revert h
  cases asgT Φ Gl t x σ m <;> exact fun z => z
theorem z_par {is : List Nat} (h : wEs Φ Gl as σ m (fun ds m1 => tPar is ds σ fun σ' => N σ' m1) (fun c fs m1 => K (.exc c fs σ m1))) : wS Φ Gl W (.par is as) σ m N K := by
  unfold wS; unfold wEs at h; rw [st_par]; refine sp_ofX (xp_mono h ?_ fun _ _ _ z => z)
  intro ds m1 z; rw [tPar_eq] at z; obtain ⟨s, e, z⟩ := o_ex z; rw [e]; exact z
theorem z_iff (h : wE Φ Gl c σ m (fun x m1 => tTr m1 x fun b => (b = true → wSs Φ Gl W p σ m1 N K) ∧ (b = false → wSs Φ Gl W q σ m1 N K)) (fun c fs m1 => K (.exc c fs σ m1))) : wS Φ Gl W (.iff c p q) σ m N K := by
  unfold wS; unfold wSs wE at h; rw [st_iff]
  refine sp_ofX ?_
  rw [evt_eq, xp_bind]
  refine xp_mono h ?_ fun _ _ _ z => z
  intro x m1 z
  rw [tTr_eq] at z
  obtain ⟨b, e, z⟩ := o_ex z
  rw [e]
  cases b with
  | true => exact z.1 rfl
  | false => exact z.2 rfl
theorem z_rse {n : Nat} (h : wEs Φ Gl as σ m (fun ds m1 => K (.exc n ds σ m1)) (fun c fs m1 => K (.exc c fs σ m1))) : wS Φ Gl W (.rse n as) σ m N K := by
  unfold wS; unfold wEs at h; rw [st_rse]; exact sp_ofX h
theorem z_brk (h : K (.brk σ m)) : wS Φ Gl W .brk σ m N K := by unfold wS; rw [st_brk]; exact h
theorem z_cnt (h : K (.cnt σ m)) : wS Φ Gl W .cnt σ m N K := by unfold wS; rw [evS]; exact h
theorem z_pass (h : N σ m) : wS Φ Gl W .pass σ m N K := by unfold wS; rw [evS]; exact h
theorem z_try {n : Nat} {hs : Hs} (h : wSs Φ Gl W p σ m N (tryK n hs N K)) : wS Φ Gl W (.try p n hs) σ m N K := by
  unfold wS; unfold wSs at h; rw [st_try]
  revert h
  cases evSs Φ Gl W p σ m with
  | exc c fs σ1 m1 =>
    rintro ⟨h1, h2⟩
    simp only [h1, if_true]
    exact h2
  | _ => exact fun z => z
/-! loops -/
@[irreducible] def wF (Φ : Fns) (Gl : List D) (W : Nat) (S : Src) (tg : Tg) (b : Ss) (σ : Sl) (m : Mem) (N : Sl → Mem → Prop) (K : SR → Prop) : Prop := sp (forLoop S (asgG tg) (evSs Φ Gl W b) S.len 0 σ m) N K
theorem z_for {tg : Tg} {it : It} (h : wI Φ Gl it σ m (fun S m1 => wF Φ Gl W S tg p σ m1 N K) (fun c fs m1 => K (.exc c fs σ m1))) : wS Φ Gl W (.for tg it p) σ m N K := by
  unfold wS; unfold wI wF at h; rw [st_for]; exact sp_ofX h
theorem f_inv {S : Src} {tg : Tg} {α : Type} {l : List α} {g : α → D} (I : Nat → Sl → Mem → Prop) (hS : ∀ i σ m, I i σ m → SrcAt m S (l.map g)) (h0 : I 0 σ m)
    (hs : ∀ i σ m a, I i σ m → l[i]? = some a → ∃ σ1, asgG tg (g a) σ = some σ1 ∧ wSs Φ Gl W p σ1 m (fun σ2 m2 => I (i + 1) σ2 m2) (lpK N (fun σ2 m2 => I (i + 1) σ2 m2) K)) (he : ∀ σ m, I l.length σ m → N σ m) : wF Φ Gl W S tg p σ m N K := by
  unfold wF
  have gen : ∀ (k i : Nat) (σ : Sl) (m : Mem), i + k = l.length → I i σ m → sp (forLoop S (asgG tg) (evSs Φ Gl W p) k i σ m) N K := by
    intro k
    induction k with
    | zero =>
      intro i σ m hi hI
      have e : i = l.length := by omega
      subst e
      simp only [forLoop, (hS _ _ _ hI).ok, if_true]
      exact he _ _ hI
    | succ k ih =>
      intro i σ m hi hI
      have hlt : i < l.length := by omega
      have hat := (hS _ _ _ hI).at' i (by simpa using hlt)
      obtain ⟨σ1, h1, h2⟩ := hs i σ m l[i] hI (List.getElem?_eq_getElem hlt)
      unfold wSs at h2
      unfold forLoop
      rw [hat, List.getElem?_map, List.getElem?_eq_getElem hlt]
      simp only [Option.map_some, h1]
      revert h2
      cases evSs Φ Gl W p σ1 m with
      | next σ2 m2 => exact fun z => ih _ _ _ (by omega) z
      | cnt σ2 m2 => exact fun z => ih _ _ _ (by omega) z
      | brk σ2 m2 => exact fun z => z
      | _ => exact fun z => z
  have hlen := (hS _ _ _ h0).len
  rw [hlen, List.length_map]
  exact gen l.length 0 σ m (by omega) h0
/-- a while by a number that falls -/
theorem z_whl (I : Nat → Sl → Mem → Prop) (k : Nat) (hk : k < W) (h0 : I k σ m)
    (hs : ∀ j σ m, I j σ m → wE Φ Gl c σ m (fun x m1 => tTr m1 x fun b => (b = true → wSs Φ Gl W p σ m1 (fun σ2 m2 => ∃ j', j' < j ∧ I j' σ2 m2) (lpK N (fun σ2 m2 => ∃ j', j' < j ∧ I j' σ2 m2) K)) ∧ (b = false → N σ m1)) (fun c fs m1 => K (.exc c fs σ m1))) : wS Φ Gl W (.whl c p) σ m N K := by
  unfold wS
  rw [st_whl]
  have gen : ∀ (w j : Nat) (σ : Sl) (m : Mem), j < w → I j σ m → sp (whlLoop (evT Φ Gl c) (evSs Φ Gl W p) w σ m) N K := by
    intro w
    induction w with
    | zero => intro j σ m h; omega
    | succ w ih =>
      intro j σ m hj hI
      have h := hs j σ m hI
      unfold wE at h
      unfold whlLoop
      rw [evt_eq]
      revert h
      cases evE Φ Gl c σ m with
      | bad => exact fun z => z
      | exc => exact fun z => z
      | ok x m1 =>
        intro h
        simp only [bind_ok]
        obtain ⟨b, e, z⟩ := o_ex (tTr_eq ▸ (show tTr m1 x _ from h))
        rw [e]
        cases b with
          | false => exact z.2 rfl
          | true =>
            have z := z.1 rfl
            unfold wSs at z
            simp only [oB_some]
            revert z
            cases evSs Φ Gl W p σ m1 with
            | next σ2 m2 => rintro ⟨j', h1, h2⟩; exact ih j' σ2 m2 (by omega) h2
            | cnt σ2 m2 => rintro ⟨j', h1, h2⟩; exact ih j' σ2 m2 (by omega) h2
            | brk σ2 m2 => exact fun z => z
            | _ => exact fun z => z
  exact gen W k σ m hk h0
theorem wSs_mono {N' : Sl → Mem → Prop} {K' : SR → Prop} (h : wSs Φ Gl W p σ m N K) (hn : ∀ σ m, N σ m → N' σ m) (hk : ∀ r, K r → K' r) : wSs Φ Gl W p σ m N' K' := by
  unfold wSs at *
  revert h
  cases evSs Φ Gl W p σ m with
  | next => exact hn _ _
  | bad => exact fun z => z
  | _ => exact hk _
theorem wS_mono {N' : Sl → Mem → Prop} {K' : SR → Prop} (h : wS Φ Gl W s σ m N K) (hn : ∀ σ m, N σ m → N' σ m) (hk : ∀ r, K r → K' r) : wS Φ Gl W s σ m N' K' := by
  unfold wS at *
  revert h
  cases evS Φ Gl W s σ m with
  | next => exact hn _ _
  | bad => exact fun z => z
  | _ => exact hk _
end
theorem lp_ret {N C : Sl → Mem → Prop} {K : SR → Prop} {d : D} {m : Mem} (h : K (.ret d m)) : lpK N C K (.ret d m) := h
theorem lp_exc {N C : Sl → Mem → Prop} {K : SR → Prop} {c : Nat} {fs : List D} {σ : Sl} {m : Mem} (h : K (.exc c fs σ m)) : lpK N C K (.exc c fs σ m) := h
theorem lp_brk {N C : Sl → Mem → Prop} {K : SR → Prop} {σ : Sl} {m : Mem} (h : N σ m) : lpK N C K (.brk σ m) := h
theorem lp_cnt {N C : Sl → Mem → Prop} {K : SR → Prop} {σ : Sl} {m : Mem} (h : C σ m) : lpK N C K (.cnt σ m) := h
theorem ty_ret {N : Sl → Mem → Prop} {K : SR → Prop} {nc : Nat} {hs : Hs} {d : D} {m : Mem} (h : K (.ret d m)) : tryK nc hs N K (.ret d m) := h
theorem ty_exc {N : Sl → Mem → Prop} {K : SR → Prop} {nc c : Nat} {hs : Hs} {fs : List D} {σ : Sl} {m : Mem} (h : c < nc) (h2 : sp (evH hs c fs σ m) N K) : tryK nc hs N K (.exc c fs σ m) := ⟨h, h2⟩
theorem bw_t {b : Bool} {A B : Prop} (h : b = true) (q : A) : (b = true → A) ∧ (b = false → B) := ⟨fun _ => q, fun z => by rw [h] at z; cases z⟩
theorem bw_f {b : Bool} {A B : Prop} (h : b = false) (q : B) : (b = true → A) ∧ (b = false → B) := ⟨fun z => (by rw [h] at z; cases z), fun _ => q⟩
/-! ### defs -/
theorem leave_frz {b : Nat} {d d' : D} {m : Mem} (hd : frzD m b d = some d') (hm : nrM (m.take b) = true) : leave false b d m = .ok d' (m.take b) := by
  unfold leave
  simp only [frzM_nr _ _ hm, hd]
theorem frz_ref {m : Mem} {b n : Nat} {xs : List D} (hn : b ≤ n) (h : m[n]? = some (.lst xs)) (hx : nrs xs = true) : frzD m b (.ref n) = some (.lst xs) := by
  simp only [frzD, frzW, frzK, if_neg (Nat.not_lt.mpr hn), h, frzWs_nr _ _ hx, Option.map_some]
/-- a def that hands back r's value or raises r's exception, and leaves memory as it was -/
def endX (m : Mem) (r : XR D) : SR → Prop
  | .ret d m' => ∃ d', r = .ok d' m ∧ frzD m' m.length d = some d' ∧ ∃ t, m' = m ++ t
  | .exc c fs _ m' => r = .exc c fs m ∧ nrs fs = true ∧ ∃ t, m' = m ++ t
  | _ => False
section
variable {P : List Fn} {Gl : List D} {n d0 f : Nat} {F : Fn} {ds : List D} {m : Mem} {r : XR D} {d : D} {σ : Sl} {c : Nat} {fs : List D}
theorem w_def (hn : d0 < n) (hF : P[f]? = some F) (hl : ds.length = F.np) (hk : F.keep = false) (hm : nrM m = true) (h : ∀ k, d0 ≤ k → wSs (Cl P Gl k) Gl whileW F.body (slots F.N.length ds) m (fun _ m' => endX m r (.ret .non m')) (endX m r)) : Cl P Gl n f ds m = r := by
  obtain ⟨k, rfl⟩ : ∃ k, n = k + 1 := ⟨n - 1, by omega⟩
  have h := h k (by omega)
  unfold wSs at h
  rw [Cl_eq] at h ⊢
  simp only [callF, hF, hl, if_true]
  revert h
  cases evSs (callF P Gl k) Gl whileW F.body (slots F.N.length ds) m with
  | next σ m' =>
    rintro ⟨d', rfl, h2, t, rfl⟩
    simp only [endF, hk]
    rw [leave_frz h2 (by rw [List.take_left]; exact hm), List.take_left]
  | ret d m' =>
    rintro ⟨d', rfl, h2, t, rfl⟩
    simp only [endF, hk]
    rw [leave_frz h2 (by rw [List.take_left]; exact hm), List.take_left]
  | exc c fs σ m' =>
    rintro ⟨rfl, h2, t, rfl⟩
    simp only [endF]
    rw [leaveX_nr h2 (by rw [List.take_left]; exact hm), List.take_left]
  | bad => exact fun z => z.elim
  | brk => exact fun z => z.elim
  | cnt => exact fun z => z.elim
theorem e_ret {d0' : D} {m' : Mem} (hd : d = d0') (hr : nr d = true) (hm : ∃ t, m' = m ++ t) : endX m (.ok d0' m) (.ret d m') := by subst hd; exact ⟨_, rfl, frzW_nr _ _ hr, hm⟩
theorem e_retF {d0' : D} {m' : Mem} (hd : frzD m' m.length d = some d0') (hm : ∃ t, m' = m ++ t) : endX m (.ok d0' m) (.ret d m') := ⟨_, rfl, hd, hm⟩
theorem e_retX {m' : Mem} (h : r = .ok d m) (hr : nr d = true) (hm : ∃ t, m' = m ++ t) : endX m r (.ret d m') := ⟨_, h, frzW_nr _ _ hr, hm⟩
theorem e_excX {m' : Mem} (h : r = .exc c fs m) (hr : nrs fs = true) (hm : ∃ t, m' = m ++ t) : endX m r (.exc c fs σ m') := ⟨h, hr, hm⟩
theorem e_exc {fs' : List D} {m' : Mem} (hc : c = c') (hf : fs = fs') (hr : nrs fs = true) (hm : ∃ t, m' = m ++ t) : endX m (.exc c' fs' m) (.exc c fs σ m') := by subst hc hf; exact ⟨rfl, hr, hm⟩
/-- a def that changes what it was given: what holds behind it -/
def endR (b : Nat) (Q : D → Mem → Prop) : SR → Prop
  | .ret d m' => ∃ d', frzD m' b d = some d' ∧ nrM (m'.take b) = true ∧ Q d' (m'.take b)
  | _ => False
theorem w_defR {Q : D → Mem → Prop} (hn : d0 < n) (hF : P[f]? = some F) (hl : ds.length = F.np) (hk : F.keep = false) (h : ∀ k, d0 ≤ k → wSs (Cl P Gl k) Gl whileW F.body (slots F.N.length ds) m (fun _ m' => endR m.length Q (.ret .non m')) (endR m.length Q)) : wC (Cl P Gl n) f ds m Q NX := by
  obtain ⟨k, rfl⟩ : ∃ k, n = k + 1 := ⟨n - 1, by omega⟩
  have h := h k (by omega)
  unfold wSs at h
  unfold wC
  rw [Cl_eq] at h ⊢
  simp only [callF, hF, hl, if_true]
  revert h
  cases evSs (callF P Gl k) Gl whileW F.body (slots F.N.length ds) m with
  | next σ m' =>
    rintro ⟨d', h1, h2, h3⟩
    simp only [endF, hk]
    rw [leave_frz h1 h2]
    exact h3
  | ret d m' =>
    rintro ⟨d', h1, h2, h3⟩
    simp only [endF, hk]
    rw [leave_frz h1 h2]
    exact h3
  | exc c fs σ m' => exact fun z => z.elim
  | bad => exact fun z => z.elim
  | brk => exact fun z => z.elim
  | cnt => exact fun z => z.elim
theorem r_ret {b : Nat} {m' : Mem} {Q : D → Mem → Prop} (hr : nr d = true) (h : nrM (m'.take b) = true) (q : Q d (m'.take b)) : endR b Q (.ret d m') := ⟨_, frzW_nr _ _ hr, h, q⟩
theorem r_retF {b : Nat} {d' : D} {m' : Mem} {Q : D → Mem → Prop} (hr : frzD m' b d = some d') (h : nrM (m'.take b) = true) (q : Q d' (m'.take b)) : endR b Q (.ret d m') := ⟨_, hr, h, q⟩
end
end G

set_option Elab.async false
set_option linter.all false
set_option maxRecDepth 100000
set_option maxHeartbeats 400000
/-! G34: rules for single operations. -/
namespace G
open PySem TL
theorem o_of {α : Type} {o : Option α} {a : α} {Q : α → Prop} (h : o = some a) (q : Q a) : wO o Q := by rw [h]; first | exact q | exact p_some q | exact o_some q
theorem p_of {o : PR} {d : D} {m : Mem} {Q : D → Mem → Prop} (h : o = some (d, m)) (q : Q d m) : wP o Q := by rw [h]; first | exact q | exact p_some q | exact o_some q
section
variable {m : Mem} {mu : Bool} {i j : Int} {Q : D → Mem → Prop} {B : Bool → Prop} {xs ys : List D} {n : Nat} {y : D}
theorem p_add (q : Q (.int (i + j)) m) : pBin mu .Add (.int i) (.int j) m Q := by rw [pBin_eq]; first | exact q | exact p_some q | exact o_some q
theorem p_sub (q : Q (.int (i - j)) m) : pBin mu .Sub (.int i) (.int j) m Q := by rw [pBin_eq]; first | exact q | exact p_some q | exact o_some q
theorem mulOk_l (h : -18446744073709551616 < i ∧ i < 18446744073709551616) : mulOk i j = true := by
  unfold mulOk
  rw [show decide (-(2 ^ 64) < i) = true from decide_eq_true h.1, show decide (i < 2 ^ 64) = true from decide_eq_true h.2]
  simp
theorem mulOk_r (h : -18446744073709551616 < j ∧ j < 18446744073709551616) : mulOk i j = true := by
  unfold mulOk
  rw [show decide (-(2 ^ 64) < j) = true from decide_eq_true h.1, show decide (j < 2 ^ 64) = true from decide_eq_true h.2]
  simp
theorem p_mul (h : mulOk i j = true) (q : Q (.int (i * j)) m) : pBin mu .Mult (.int i) (.int j) m Q := by rw [pBin_eq]; rw [bin_mul, if_pos h]; first | exact q | exact p_some q | exact o_some q
theorem divOk_pos (h : 0 < j ∧ j < 18446744073709551616) : divOk j = true := by
  have h1 : j.natAbs.log2 < 9000 := by
    by_cases h0 : j.natAbs = 0
    · rw [h0]; decide
    · exact Nat.lt_of_lt_of_le ((Nat.log2_lt h0).mpr (show j.natAbs < 2 ^ 64 by omega)) (by decide)
  unfold divOk
  rw [decide_eq_true h.1, decide_eq_true h1]
  rfl
theorem divOk_small (h : j ≠ 0 ∧ -1073741824 < j ∧ j < 1073741824) : divOk j = true := by
  unfold divOk
  rw [decide_eq_true h.1, decide_eq_true (show j.natAbs < 1073741824 by omega)]
  simp
theorem p_div (h : divOk j = true) (q : Q (.int (i.fdiv j)) m) : pBin mu .FloorDiv (.int i) (.int j) m Q := by rw [pBin_eq]; rw [bin_div, if_pos h]; first | exact q | exact p_some q | exact o_some q
theorem p_mod (h : j ≠ 0) (q : Q (.int (i.fmod j)) m) : pBin mu .Mod (.int i) (.int j) m Q := by rw [pBin_eq]; rw [bin_mod, if_pos h]; first | exact q | exact p_some q | exact o_some q
/-- // and % by what is greater than 0 -/
theorem p_divP (h : 0 < j ∧ j < 18446744073709551616) (q : Q (.int (i / j)) m) : pBin mu .FloorDiv (.int i) (.int j) m Q := by
  refine p_div (divOk_pos h) ?_
  rw [Int.fdiv_eq_ediv_of_nonneg _ (by omega)]; first | exact q | exact p_some q | exact o_some q
theorem p_modP (h : 0 < j) (q : Q (.int (i % j)) m) : pBin mu .Mod (.int i) (.int j) m Q := by
  refine p_mod (by omega) ?_
  rw [Int.fmod_eq_emod_of_nonneg _ (by omega)]; first | exact q | exact p_some q | exact o_some q
theorem p_addT (h : xs.length + ys.length ≤ 16777216) (q : Q (.tup (xs ++ ys)) m) : pBin mu .Add (.tup xs) (.tup ys) m Q := by
  rw [pBin_eq]
  rw [bin_tup, if_pos (show xs.length + ys.length ≤ lim from h)]; first | exact q | exact p_some q | exact o_some q
theorem p_addL (h : xs.length + ys.length ≤ 16777216) (q : Q (.lst (xs ++ ys)) m) : pBin false .Add (.lst xs) (.lst ys) m Q := by
  rw [pBin_eq]
  show wP (newL false (xs ++ ys) m) Q
  rw [new_eq, if_pos (show (xs ++ ys).length ≤ lim by rw [List.length_append]; exact h)]; first | exact q | exact p_some q | exact o_some q
theorem p_addLT (h : xs.length + ys.length ≤ 16777216) (q : Q (.ref m.length) (m ++ [.lst (xs ++ ys)])) : pBin true .Add (.lst xs) (.lst ys) m Q := by
  rw [pBin_eq]
  show wP (newL true (xs ++ ys) m) Q
  rw [new_eq, if_pos (show (xs ++ ys).length ≤ lim by rw [List.length_append]; exact h)]; first | exact q | exact p_some q | exact o_some q
theorem p_addS {u v : List Nat} (h : u.length + v.length ≤ 16777216) (q : Q (tx (u ++ v)) m) : pBin mu .Add (tx u) (tx v) m Q := by
  rw [pBin_eq]
  rw [add_tx, if_pos (show u.length + v.length ≤ lim from h)]; first | exact q | exact p_some q | exact o_some q
theorem flat1 {α : Type} {k : Nat} {x : α} : (List.replicate k [x]).flatten = List.replicate k x := by
  induction k with
  | zero => rfl
  | succ k ih => rw [List.replicate_succ, List.flatten_cons, ih]; rfl
theorem p_mulT {d : D} (h : 1 ≤ i ∧ i ≤ 1000) (q : Q (.tup (List.replicate i.toNat d)) m) : pBin mu .Mult (.tup [d]) (.int i) m Q := by
  rw [pBin_eq]
  show wP (if i ≤ 1000 ∧ [d].length ≤ 1000 ∧ 1 ≤ i ∧ [d] ≠ [] then _ else _) Q
  rw [if_pos ⟨h.2, by simp, h.1, by simp⟩, flat1]; first | exact q | exact p_some q | exact o_some q
theorem p_mulLF {d : D} (h : -4611686018427387904 ≤ i ∧ i ≤ 16777216) (q : Q (.lst (List.replicate i.toNat d)) m) : pBin false .Mult (.lst [d]) (.int i) m Q := by
  rw [pBin_eq]
  show wP (match asL m (.lst [d]) with
    | some xs => if -(2 ^ 63) ≤ i ∧ i < 2 ^ 63 ∧ xs.length * i.toNat ≤ lim then mkL false (List.replicate i.toNat xs).flatten m else none
    | none => none) Q
  have h1 : -(2 ^ 63) ≤ i ∧ i < 2 ^ 63 ∧ [d].length * i.toNat ≤ lim := ⟨by omega, by omega, by simp only [List.length_singleton, lim]; omega⟩
  simp only [asL, if_pos h1, flat1]
  first | exact q | exact p_some q | exact o_some q
theorem o_eqi (q : B (decide (i = j))) : tCmp m .Eq (.int i) (.int j) B := by rw [tCmp_eq]; rw [cmp_eq, eq_ints]; first | exact q | exact p_some q | exact o_some q
theorem o_nei (q : B (!decide (i = j))) : tCmp m .NotEq (.int i) (.int j) B := by rw [tCmp_eq]; rw [cmp_ne, eq_ints]; first | exact q | exact p_some q | exact o_some q
theorem o_eqs {u v : List Nat} (hu : okL u = true) (hv : okL v = true) (q : B (decide (u = v))) : tCmp m .Eq (tx u) (tx v) B := by rw [tCmp_eq]; rw [cmp_eq, eq_tx hu hv]; first | exact q | exact p_some q | exact o_some q
theorem o_nes {u v : List Nat} (hu : okL u = true) (hv : okL v = true) (q : B (!decide (u = v))) : tCmp m .NotEq (tx u) (tx v) B := by rw [tCmp_eq]; rw [cmp_ne, eq_tx hu hv]; first | exact q | exact p_some q | exact o_some q
theorem o_eq {x y : D} {b : Bool} (h : eqD m x y = some b) (q : B b) : tCmp m .Eq x y B := by rw [tCmp_eq]; rw [cmp_eq, h]; first | exact q | exact p_some q | exact o_some q
theorem o_ne {x y : D} {b : Bool} (h : eqD m x y = some b) (q : B (!b)) : tCmp m .NotEq x y B := by rw [tCmp_eq]; rw [cmp_ne, h]; first | exact q | exact p_some q | exact o_some q
theorem o_isn {x : D} (q : B (isNon x)) : tCmp m .Is x .non B := by rw [tCmp_eq]; rw [cmp_is, is_non]; first | exact q | exact p_some q | exact o_some q
theorem o_isnn {x : D} (q : B (!isNon x)) : tCmp m .IsNot x .non B := by rw [tCmp_eq]; rw [cmp_isn, is_non]; first | exact q | exact p_some q | exact o_some q
theorem o_lt (q : B (decide (i < j))) : tCmp m .Lt (.int i) (.int j) B := by rw [tCmp_eq]; first | exact q | exact p_some q | exact o_some q
theorem o_le (q : B (decide (i ≤ j))) : tCmp m .LtE (.int i) (.int j) B := by rw [tCmp_eq]; first | exact q | exact p_some q | exact o_some q
theorem o_gt (q : B (decide (j < i))) : tCmp m .Gt (.int i) (.int j) B := by rw [tCmp_eq]; first | exact q | exact p_some q | exact o_some q
theorem o_ge (q : B (decide (j ≤ i))) : tCmp m .GtE (.int i) (.int j) B := by rw [tCmp_eq]; first | exact q | exact p_some q | exact o_some q
theorem o_tr {x : D} {b : Bool} (h : truthy m x = some b) (q : B b) : tTr m x B := by rw [tTr_eq, h]; first | exact q | exact p_some q | exact o_some q
theorem o_isi {x : D} {ts : List Ty} {b : Bool} (h : isTys m x ts = some b) (q : B b) : tIsi m x ts B := by rw [tIsi_eq]; rw [h]; first | exact q | exact p_some q | exact o_some q
theorem p_blt {mu : Bool} {f : Blt} {ds : List D} {d : D} (h : bltD mu f ds m = some (d, m)) (q : Q d m) : pBlt mu f ds m Q := by rw [pBlt_eq]; rw [h]; first | exact q | exact p_some q | exact o_some q
theorem p_slc {mu : Bool} {lo hi : Option Int} {x d : D} (h : slcD mu lo hi x m = some (d, m)) (q : Q d m) : pSlc mu lo hi x m Q := by rw [pSlc_eq]; rw [h]; first | exact q | exact p_some q | exact o_some q
theorem pr_2 {N : Sl → Prop} {σ : Sl} {i j : Nat} {x y : D} (q : N ((σ.set i (some x)).set j (some y))) : tPar [i, j] [x, y] σ N := by rw [tPar_eq]; exact o_some q
theorem pr_3 {N : Sl → Prop} {σ : Sl} {i j k : Nat} {x y z : D} (q : N (((σ.set i (some x)).set j (some y)).set k (some z))) : tPar [i, j, k] [x, y, z] σ N := by rw [tPar_eq]; exact o_some q
/-! items -/
variable {α : Type} {l : List α} {g : α → D} {a : α} {k : Nat} {R : D → Prop}
theorem atI_map {i : Int} : L2.atI (l.map g) i = (L2.atI l i).map g := by
  unfold L2.atI
  rw [List.length_map]
  cases L2.ixN l.length i with
  | none => rfl
  | some j => simp
theorem x_lit {x : D} {y : D} (h : idxD m x (.int i) = some y) (q : R y) : tIdx m x (.int i) R := by rw [tIdx_eq]; rw [h]; first | exact q | exact p_some q | exact o_some q
theorem x_hd {x : D} (q : R x) : tIdx m (.tup (x :: xs)) (.int 0) R := by rw [tIdx_eq]; rw [idx_tup, atI_0 rfl]; exact o_some q
theorem x_hdL {x : D} (q : R x) : tIdx m (.lst (x :: xs)) (.int 0) R := by rw [tIdx_eq]; rw [idx_lst, atI_0 rfl]; exact o_some q
theorem x_tup (h : L2.atI l i = some a) (q : R (g a)) : tIdx m (.tup (l.map g)) (.int i) R := by rw [tIdx_eq]; rw [idx_tup, atI_map, h]; first | exact q | exact p_some q | exact o_some q
theorem x_lst (h : L2.atI l i = some a) (q : R (g a)) : tIdx m (.lst (l.map g)) (.int i) R := by rw [tIdx_eq]; rw [idx_lst, atI_map, h]; first | exact q | exact p_some q | exact o_some q
theorem x_ref (hm : m[n]? = some (.lst (l.map g))) (h : L2.atI l i = some a) (q : R (g a)) : tIdx m (.ref n) (.int i) R := by
  rw [tIdx_eq]
  show wO (match m[n]? with
    | some (.lst xs) => L2.atI xs i
    | _ => none) R
  rw [hm]
  show wO (L2.atI (l.map g) i) R
  rw [atI_map, h]; first | exact q | exact p_some q | exact o_some q
theorem x_refD {y : D} (hm : m[n]? = some (.lst xs)) (h : L2.atI xs i = some y) (q : R y) : tIdx m (.ref n) (.int i) R := by
  rw [tIdx_eq]
  show wO (match m[n]? with
    | some (.lst xs) => L2.atI xs i
    | _ => none) R
  rw [hm]
  show wO (L2.atI xs i) R
  rw [h]; first | exact q | exact p_some q | exact o_some q
theorem at_nat (h : l[k]? = some a) : L2.atI l (k : Int) = some a := by
  have hk := (List.getElem?_eq_some_iff.mp h).1
  rw [atI_nat hk]; exact h
theorem at_last (h : l.getLast? = some a) : L2.atI l (-1) = some a := by
  have hne : l ≠ [] := by intro z; rw [z] at h; cases h
  have hl : 0 < l.length := List.length_pos_iff.mpr hne
  unfold L2.atI
  have : L2.ixN l.length (-1) = some (l.length - 1) := by
    unfold L2.ixN
    rw [if_neg (by omega)]
    rw [if_pos (by omega)]
    congr 1
    omega
  rw [this]
  rw [List.getLast?_eq_getElem?] at h
  exact h
theorem at_pre {pre : List α} {post : List α} : L2.atI (pre ++ a :: post) (pre.length : Int) = some a := at_nat (by simp)
/-! cells -/
theorem m_get {L : Mem} : (m ++ L)[m.length + k]? = L[k]? := by rw [List.getElem?_append_right (by omega)]; congr 1; omega
theorem m_get0 {L : Mem} : (m ++ L)[m.length]? = L[0]? := by rw [List.getElem?_append_right (by omega)]; congr 1; omega
theorem m_set {L : Mem} {o : MO} : (m ++ L).set (m.length + k) o = m ++ L.set k o := (List.set_append_right (m.length + k) o (Nat.le_add_right _ _)).trans (by congr 2; omega)
theorem m_set0 {L : Mem} {o : MO} : (m ++ L).set m.length o = m ++ L.set 0 o := (List.set_append_right m.length o (Nat.le_refl _)).trans (by congr 2; omega)
theorem p_append (h : m[n]? = some (.lst xs)) (hl : xs.length < 16777216) (q : Q .non (m.set n (.lst (xs ++ [y])))) : pMth .append (.ref n) [y] m Q := by
  rw [pMth_eq]
  show wP (match m[n]? with
    | some (.lst xs) => if xs.length < lim then some (.non, m.set n (.lst (xs ++ [y]))) else none
    | _ => none) Q
  rw [h]
  show wP (if xs.length < lim then some (.non, m.set n (.lst (xs ++ [y]))) else none) Q
  rw [if_pos (show xs.length < lim from hl)]; first | exact q | exact p_some q | exact o_some q
theorem p_extend (h : m[n]? = some (.lst xs)) (h2 : asL m y = some ys) (hl : xs.length + ys.length ≤ 16777216) (q : Q .non (m.set n (.lst (xs ++ ys)))) : pMth .extend (.ref n) [y] m Q := by
  rw [pMth_eq]
  show wP (match m[n]?, asL m y with
    | some (.lst xs), some ys => if xs.length + ys.length ≤ lim then some (.non, m.set n (.lst (xs ++ ys))) else none
    | _, _ => none) Q
  rw [h, h2]
  show wP (if xs.length + ys.length ≤ lim then some (.non, m.set n (.lst (xs ++ ys))) else none) Q
  rw [if_pos (show xs.length + ys.length ≤ lim from hl)]; first | exact q | exact p_some q | exact o_some q
theorem p_popAt {b : D} {k : Nat} (h : m[n]? = some (.lst xs)) (hi : -9223372036854775808 ≤ i ∧ i < 9223372036854775808) (hx : L2.ixN xs.length i = some k) (hk : xs[k]? = some b) (q : Q b (m.set n (.lst (xs.eraseIdx k)))) : pMth .popAt (.ref n) [.int i] m Q := by
  rw [pMth_eq]
  show wP (match m[n]? with
    | some (.lst xs) => if -(2 ^ 63) ≤ i ∧ i < 2 ^ 63 then (match L2.ixN xs.length i with
      | some j => (match xs[j]? with
        | some y => some (y, m.set n (.lst (xs.eraseIdx j)))
        | none => none)
      | none => none) else none
    | _ => none) Q
  rw [h]
  have h1 : -(2 ^ 63) ≤ i ∧ i < 2 ^ 63 := hi
  simp only [if_pos h1, hx, hk]
  first | exact q | exact p_some q | exact o_some q
theorem ix_nat {N k : Nat} (h : k < N) : L2.ixN N (k : Int) = some k := by
  unfold L2.ixN
  rw [if_pos (by omega), if_pos (by omega)]
  simp
theorem put_ref {v : D} {k : Nat} {Q : Mem → Prop} (h : m[n]? = some (.lst xs)) (hx : L2.ixN xs.length i = some k) (q : Q (m.set n (.lst (xs.set k v)))) : tPut (.ref n) (.int i) v m Q := by
  rw [tPut_eq]
  show wO (match m[n]? with
    | some (.lst xs) => (match L2.ixN xs.length i with
      | some j => some (m.set n (.lst (xs.set j v)))
      | none => none)
    | _ => none) Q
  rw [h]
  simp only [hx]
  first | exact q | exact p_some q | exact o_some q
theorem p_lenR {b : Bool} (h : m[n]? = some (.lst xs)) (q : Q (.int (xs.length : Nat)) m) : pBlt b .len [.ref n] m Q := by
  rw [pBlt_eq]
  show wP (pk ((match m[n]? with
    | some (.lst xs) => some (xs.length : Int)
    | _ => none).map .int) m) Q
  rw [h]; first | exact q | exact p_some q | exact o_some q
theorem p_tupR {b : Bool} (h : m[n]? = some (.lst xs)) (q : Q (.tup xs) m) : pBlt b .tuple [.ref n] m Q := by
  rw [pBlt_eq]
  show wP (match (D.ref n), items m (.ref n) with
    | .scr _, _ => none
    | _, some xs => some (.tup xs, m)
    | _, none => none) Q
  have e : items m (.ref n) = some xs := by
    show (match m[n]? with
    | some (.lst xs) => some xs
    | _ => none) = _
    rw [h]
  rw [e]
  first | exact q | exact p_some q | exact o_some q
theorem p_listR {b : Bool} (h : m[n]? = some (.lst xs)) (q : wP (mkL b xs m) Q) : wP (bltD b .list [.ref n] m) Q := by
  show wP (match items m (.ref n) with
    | some xs => mkL b xs m
    | none => none) Q
  have e : items m (.ref n) = some xs := by
    show (match m[n]? with
    | some (.lst xs) => some xs
    | _ => none) = _
    rw [h]
  rw [e]
  first | exact q | exact p_some q | exact o_some q
theorem p_listT (q : Q (.ref m.length) (m ++ [.lst xs])) : pBlt true .list [.lst xs] m Q := by rw [pBlt_eq]; exact p_some q
theorem o_trR (h : m[n]? = some (.lst xs)) (q : B (!xs.isEmpty)) : tTr m (.ref n) B := by
  rw [tTr_eq]
  show wO (match m[n]? with
    | some (.lst xs) => some !xs.isEmpty
    | _ => none) B
  rw [h]; exact o_some q
theorem cutL_map {lo hi : Option Int} : cutL (l.map g) lo hi = (cutL l lo hi).map g := by
  unfold cutL; rw [List.length_map, List.map_take, List.map_drop]
theorem p_all {b : Bool} {f : α → Bool} (q : Q (.bl (l.all f)) m) : pBlt b .all [.lst (l.map fun a => D.bl (f a))] m Q := by rw [pBlt_eq]; rw [blt_allm]; first | exact q | exact p_some q | exact o_some q
theorem sr_tup {S : Src → Prop} (q : S (srcS xs)) : tSrc (.tup xs) m S := by rw [tSrc_eq]; exact o_some q
theorem sr_lst {S : Src → Prop} (q : S (srcS xs)) : tSrc (.lst xs) m S := by rw [tSrc_eq]; exact o_some q
theorem sr_scr {S : Src → Prop} (q : S (srcS xs)) : tSrc (.scr xs) m S := by rw [tSrc_eq]; exact o_some q
theorem srcR_o {S : Src → Prop} (h : m[n]? = some (.lst xs)) (q : S (srcR n xs.length)) : tSrc (.ref n) m S := by
  rw [tSrc_eq]
  show wO (match m[n]? with
    | some (.lst xs) => some (srcR n xs.length)
    | _ => none) S
  rw [h]; first | exact q | exact p_some q | exact o_some q
theorem asInts_map {f : α → Int} : asInts (l.map fun a => D.int (f a)) = some (l.map f) := by
  induction l with
  | nil => rfl
  | cons a l ih => simp only [List.map_cons, asInts, ih, Option.map_some]
theorem p_sum {b : Bool} {f : α → Int} (q : Q (.int (l.map f).sum) m) : pBlt b .sum [.lst (l.map fun a => D.int (f a))] m Q := by
  rw [pBlt_eq]
  show wP (pk (((asInts (l.map fun a => D.int (f a)))).map fun is => .int (sumI is)) m) Q
  rw [asInts_map]; first | exact q | exact p_some q | exact o_some q
end
theorem nrM_app {a b : Mem} : nrM (a ++ b) = (nrM a && nrM b) := by simp [nrM]
theorem nrM_cons {o : MO} {m : Mem} : nrM (o :: m) = (nrO o && nrM m) := rfl
theorem nrM_nil : nrM [] = true := rfl
theorem nrs_map {α : Type} {l : List α} {g : α → D} (h : ∀ a ∈ l, nr (g a) = true) : nrs (l.map g) = true := nrs_all fun d hd => by obtain ⟨a, ha, rfl⟩ := List.mem_map.mp hd; exact h a ha
theorem nrs_app {a b : List D} : nrs (a ++ b) = (nrs a && nrs b) := by
  induction a with
  | nil => rfl
  | cons x a ih => simp only [List.cons_append, nrs, ih, Bool.and_assoc]
theorem ex_app0 {m : Mem} : ∃ t, m = m ++ t := ⟨[], by simp⟩
theorem ex_app1 {m t : Mem} : ∃ t', m ++ t = m ++ t' := ⟨t, rfl⟩
end G

set_option Elab.async false
set_option linter.all false
set_option maxRecDepth 100000
set_option maxHeartbeats 400000
/-! G35: the drawing cell, comprehensions that draw, defs that hand on a cell. -/
namespace G
open PySem
abbrev rowD (xs : List Int) : D := .tup (xs.map .int)
abbrev rowsD (R : List (List Int)) : D := .tup (R.map rowD)
abbrev ruleD (M : Int) (R : List (List Int)) (A : List Int) : D := .tup [.int M, rowsD R, rowD A]
abbrev tinD (a b c : Int) : MO := .lst [.int a, .int b, .int c]
/-- the drawing cell, its counter at most N -/
def Tn (N : Int) (r m : Mem) : Prop := ∃ a b c, m = tinD a b c :: r ∧ 0 ≤ c ∧ c ≤ N
theorem Tn_nr {N : Int} {r m : Mem} (h : Tn N r m) (hr : nrM r = true) : nrM m = true := by
  obtain ⟨a, b, c, rfl, _⟩ := h
  rw [nrM_cons, hr]; rfl
theorem Tn_le {N N' : Int} {r m : Mem} (h : Tn N r m) (hn : N ≤ N') : Tn N' r m := by
  obtain ⟨a, b, c, e, h0, h1⟩ := h
  exact ⟨a, b, c, e, h0, by omega⟩
theorem Tn_len {N : Int} {r m : Mem} (h : Tn N r m) : m.length = r.length + 1 := by
  obtain ⟨a, b, c, rfl, _⟩ := h; rfl
theorem Tn_app {N : Int} {r m t : Mem} (h : Tn N r m) : Tn N (r ++ t) (m ++ t) := by
  obtain ⟨a, b, c, rfl, h0, h1⟩ := h
  exact ⟨a, b, c, rfl, h0, h1⟩
theorem Tn_take {N : Int} {r m t : Mem} (h : Tn N (r ++ t) m) : Tn N r (m.take (r.length + 1)) := by
  obtain ⟨a, b, c, rfl, h0, h1⟩ := h
  refine ⟨a, b, c, ?_, h0, h1⟩
  rw [List.take_succ_cons, List.take_left]
theorem Tn_take0 {N : Int} {r m : Mem} (h : Tn N r m) : m.take (r.length + 1) = m := by
  rw [← Tn_len h, List.take_length]
theorem Tn_get {N : Int} {r m : Mem} {k : Nat} (h : Tn N r m) : m[k + 1]? = r[k]? := by
  obtain ⟨a, b, c, rfl, _⟩ := h; rfl
theorem Tn_set {N : Int} {r m : Mem} {k : Nat} {o : MO} (h : Tn N r m) : Tn N (r.set k o) (m.set (k + 1) o) := by
  obtain ⟨a, b, c, rfl, h0, h1⟩ := h
  exact ⟨a, b, c, rfl, h0, h1⟩
section
variable {Φ : Fns} {Gl : List D} {σ σ0 : Sl} {m r : Mem} {own : List Nat} {tg : Tg} {elt : E} {S : Src} {R : List D → Mem → Prop} {N : Int}
/-- a comprehension that draws -/
theorem wl_dr {β α : Type} {l : List β} {g : β → D} (e : α → D) (P : α → Prop) (c : Int) (hc : 0 ≤ c) (h0 : Tn N r m) (hS : ∀ m, SrcAt m S (l.map g)) (hσ : wipeD σ own = σ0) (hl : l.length ≤ 16777216)
    (h : ∀ a ∈ l, ∀ N' m', N ≤ N' → N' + c ≤ N + c * l.length → Tn N' r m' → ∃ σ1, asgG tg (g a) σ0 = some σ1 ∧ wE Φ Gl elt σ1 m' (fun d m2 => ∃ a, d = e a ∧ P a ∧ Tn (N' + c) r m2) NX)
    (q : ∀ (xs : List α) m', xs.length = l.length → (∀ x ∈ xs, P x) → Tn (N + c * l.length) r m' → R (xs.map e) m') : wL Φ Gl own tg .nil elt S σ m R := by
  refine wl_st (l := l) (g := g) (fun i acc m' => i ≤ l.length ∧ Tn (N + c * i) r m' ∧ ∃ xs, acc = xs.map e ∧ xs.length = i ∧ ∀ x ∈ xs, P x) (fun _ _ m _ => hS m) hσ hl ⟨Nat.zero_le _, by simpa using h0, [], rfl, rfl, fun _ h => nomatch h⟩ ?_ ?_
  · rintro i acc m' a ⟨hi, hT, xs, rfl, hxl, hxP⟩ hal ha
    have hlt := (List.getElem?_eq_some_iff.mp ha).1
    have h1 : N ≤ N + c * (i : Int) := by have := Int.mul_nonneg hc (show (0 : Int) ≤ i by omega); omega
    have h2 : N + c * (i : Int) + c ≤ N + c * (l.length : Int) := by
      have : c * ((i : Int) + 1) ≤ c * (l.length : Int) := Int.mul_le_mul_of_nonneg_left (by omega) hc
      rw [Int.mul_add, Int.mul_one] at this
      omega
    obtain ⟨σ1, q1, q2⟩ := h a (List.mem_of_getElem? ha) _ m' h1 h2 hT
    refine ⟨σ1, q1, wE_mono q2 ?_ fun _ _ _ z => z⟩
    rintro d m2 ⟨b, rfl, hb, hT2⟩
    refine ⟨by omega, ?_, xs ++ [b], by simp, by simp [hxl], ?_⟩
    · have e1 : N + c * ((i + 1 : Nat) : Int) = N + c * (i : Int) + c := by
        rw [show ((i + 1 : Nat) : Int) = (i : Int) + 1 from rfl, Int.mul_add, Int.mul_one]; omega
      rw [e1]; exact hT2
    · intro x hx
      rcases List.mem_append.mp hx with hx | hx
      · exact hxP x hx
      · rw [List.mem_singleton] at hx; subst hx; exact hb
  · rintro ys m' ⟨_, hT, xs, rfl, hxl, hxP⟩ hyl
    exact q xs m' hxl hxP hT
end
/-- a def that hands back a new list that may be changed -/
theorem w_defK {P : List Fn} {Gl : List D} {n d0 f : Nat} {F : Fn} {ds : List D} {m : Mem} {Q : D → Mem → Prop} (hn : d0 < n) (hF : P[f]? = some F) (hl : ds.length = F.np) (hk : F.keep = true)
    (h : ∀ k, d0 ≤ k → wSs (Cl P Gl k) Gl whileW F.body (slots F.N.length ds) m (fun _ _ => False) (fun s => match s with
      | .ret d m' => ∃ n' xs, d = .ref n' ∧ m.length ≤ n' ∧ m'[n']? = some (.lst xs) ∧ nrs xs = true ∧ nrM (m'.take m.length) = true ∧ Q (.ref m.length) (m'.take m.length ++ [.lst xs])
      | _ => False)) : wC (Cl P Gl n) f ds m Q NX := by
  obtain ⟨k, rfl⟩ : ∃ k, n = k + 1 := ⟨n - 1, by omega⟩
  have h := h k (by omega)
  unfold wSs at h
  unfold wC
  rw [Cl_eq] at h ⊢
  simp only [callF, hF, hl, if_true]
  revert h
  cases evSs (callF P Gl k) Gl whileW F.body (slots F.N.length ds) m with
  | ret d m' =>
    rintro ⟨n', xs, rfl, h1, h2, h3, h4, h5⟩
    simp only [endF, hk]
    rw [leave_ref h1 h2 h3 h4]
    exact h5
  | next σ m' => exact fun z => z.elim
  | exc c fs σ m' => exact fun z => z.elim
  | bad => exact fun z => z.elim
  | brk => exact fun z => z.elim
  | cnt => exact fun z => z.elim
theorem p_pow {mu : Bool} {i j : Int} {m : Mem} {Q : D → Mem → Prop} (h : 0 ≤ j ∧ j ≤ 1000000 ∧ -18446744073709551616 < i ∧ i < 18446744073709551616) (q : Q (.int (i ^ j.toNat)) m) : pBin mu .Pow (.int i) (.int j) m Q := by
  rw [pBin_eq]
  show wP (if 0 ≤ j ∧ j ≤ 1000000 ∧ i.natAbs < 2 ^ 64 then some (.int (i ^ j.toNat), m) else none) Q
  rw [if_pos ⟨h.1, h.2.1, by omega⟩]; exact p_some q
theorem p_listS {xs : List D} {lo hi : Option Int} {m : Mem} {Q : D → Mem → Prop} (q : wP (mkL false (cutL xs lo hi) m) Q) : pSlc false lo hi (.scr xs) m Q := by
  rw [pSlc_eq]; exact q
end G

set_option Elab.async false
set_option linter.all false
set_option maxRecDepth 100000
set_option maxHeartbeats 0
namespace K53
open PySem PySem.Spec PyProof.Rows L2 G
def top (i : Nat) : Stmt := PySem.Challenge.pw_seedsround_k53_whole_texts_there_and_bac.main.body.getD i (.Pass ⟨0, 0, 0, 0⟩)
abbrev i_is_number : Nat := 0
abbrev i_is_count : Nat := 1
abbrev i_is_below : Nat := 2
abbrev i_is_tuple_of : Nat := 3
abbrev i_are_numbers : Nat := 4
abbrev i_are_below : Nat := 5
abbrev i_tupled : Nat := 6
abbrev i_is_rule : Nat := 7
abbrev i_is_line_of : Nat := 8
abbrev i_sure_rule : Nat := 9
abbrev i_row_in_text : Nat := 10
abbrev i_rows_in_text : Nat := 11
abbrev i_row_text : Nat := 12
abbrev i_rows_text : Nat := 13
abbrev i_rule_lines : Nat := 14
abbrev i_rule_text : Nat := 15
abbrev i_count_read : Nat := 16
abbrev i_number_read : Nat := 17
abbrev i_row_read : Nat := 18
abbrev i_sure_text : Nat := 19
abbrev i_read_row : Nat := 20
abbrev i_read_rows : Nat := 21
abbrev i_line_read : Nat := 22
abbrev i_sure_line_of : Nat := 23
abbrev i_read_rule : Nat := 24
abbrev i__law_box : Nat := 25
abbrev i__law_take : Nat := 26
abbrev i__law_cells : Nat := 27
abbrev i__law_of : Nat := 28
abbrev i__law_same : Nat := 29
abbrev i__law_lists : Nat := 30
abbrev i__law_far : Nat := 31
abbrev i__law_power : Nat := 32
abbrev i__law_wide_rule : Nat := 33
abbrev i__law_row_text : Nat := 34
abbrev i__law_rule_text : Nat := 35
abbrev i__law_heard : Nat := 36
abbrev i__law_number_read : Nat := 37
abbrev i__law_row_read : Nat := 38
abbrev i__law_bad_line : Nat := 39
abbrev i__law_bent : Nat := 40
abbrev i_law : Nat := 41
abbrev g_FIGURES : Nat := 0
abbrev g_NOTHING : Nat := 1
abbrev g_NONE : Nat := 2
abbrev g_BETWEEN : Nat := 3
abbrev g_MODULUS : Nat := 4
abbrev g_ROW : Nat := 5
abbrev g_ADDED : Nat := 6
abbrev x_Unfit : Nat := 0
abbrev x_BadText : Nat := 1
abbrev x_BadLine : Nat := 2
def f_is_number : Fn := ⟨"is_number", ["thing"], 1, false,
    (.cons (.ret (.and (.isi (.var 0) [.int]) (.not (.isi (.var 0) [.bool]))))
    .nil)⟩
def f_is_count : Fn := ⟨"is_count", ["thing"], 1, false,
    (.cons (.ret (.and (.call i_is_number (.cons (.var 0) .nil)) (.cmp .GtE (.var 0) (.cst (.int 0)))))
    .nil)⟩
def f_is_below : Fn := ⟨"is_below", ["thing", "bound"], 2, false,
    (.cons (.ret (.and (.call i_is_count (.cons (.var 0) .nil)) (.cmp .Lt (.var 0) (.var 1))))
    .nil)⟩
def f_is_tuple_of : Fn := ⟨"is_tuple_of", ["thing", "many"], 2, false,
    (.cons (.ret (.and (.isi (.var 0) [.tuple]) (.cmp .Eq (.blt false .len (.cons (.var 0) .nil)) (.var 1))))
    .nil)⟩
def f_are_numbers : Fn := ⟨"are_numbers", ["thing", "own"], 1, false,
    (.cons (.ret (.and (.isi (.var 0) [.tuple]) (.blt false .all (.cons (.lc false [1] (.nm 1) (.seq (.var 0)) .nil (.call i_is_number (.cons (.var 1) .nil))) .nil))))
    .nil)⟩
def f_are_below : Fn := ⟨"are_below", ["thing", "bound", "own"], 2, false,
    (.cons (.ret (.and (.isi (.var 0) [.tuple]) (.blt false .all (.cons (.lc false [2] (.nm 2) (.seq (.var 0)) .nil (.call i_is_below (.cons (.var 2) (.cons (.var 1) .nil)))) .nil))))
    .nil)⟩
def f_tupled : Fn := ⟨"tupled", ["thing", "part"], 1, false,
    (.cons (.ret (.ife (.isi (.var 0) [.list, .tuple]) (.blt false .tuple (.cons (.lc false [1] (.nm 1) (.seq (.var 0)) .nil (.call i_tupled (.cons (.var 1) .nil))) .nil)) (.var 0)))
    .nil)⟩
def f_is_rule : Fn := ⟨"is_rule", ["thing", "modulus", "table", "added", "line"], 1, false,
    (.cons (.iff (.or (.not (.call i_is_tuple_of (.cons (.var 0) (.cons (.cst (.int 3)) .nil)))) (.or (.not (.call i_is_number (.cons (.idx (.var 0) (.cst (.int 0))) .nil))) (.cmp .Lt (.idx (.var 0) (.cst (.int 0))) (.cst (.int 2)))))
    (.cons (.ret (.cst (.bool false)))
    .nil)
    .nil)
    (.cons (.asg (.tp (.cons (.nm 1) (.cons (.nm 2) (.cons (.nm 3) .nil)))) (.var 0))
    (.cons (.iff (.or (.not (.isi (.var 2) [.tuple])) (.cmp .Eq (.var 2) (.tup .nil)))
    (.cons (.ret (.cst (.bool false)))
    .nil)
    .nil)
    (.cons (.iff (.not (.blt false .all (.cons (.lc false [4] (.nm 4) (.seq (.var 2)) .nil (.call i_is_line_of (.cons (.var 4) (.cons (.var 1) (.cons (.blt false .len (.cons (.var 2) .nil)) .nil))))) .nil)))
    (.cons (.ret (.cst (.bool false)))
    .nil)
    .nil)
    (.cons (.ret (.call i_is_line_of (.cons (.var 3) (.cons (.var 1) (.cons (.blt false .len (.cons (.var 2) .nil)) .nil)))))
    .nil)))))⟩
def f_is_line_of : Fn := ⟨"is_line_of", ["thing", "modulus", "many"], 3, false,
    (.cons (.ret (.and (.call i_are_below (.cons (.var 0) (.cons (.var 1) .nil))) (.cmp .Eq (.blt false .len (.cons (.var 0) .nil)) (.var 2))))
    .nil)⟩
def f_sure_rule : Fn := ⟨"sure_rule", ["rule", "own"], 1, false,
    (.cons (.asg (.nm 1) (.call i_tupled (.cons (.var 0) .nil)))
    (.cons (.iff (.not (.call i_is_rule (.cons (.var 1) .nil)))
    (.cons (.rse x_Unfit .nil)
    .nil)
    .nil)
    (.cons (.ret (.var 1))
    .nil)))⟩
def f_row_in_text : Fn := ⟨"row_in_text", ["row", "own"], 1, false,
    (.cons (.ret (.ife (.cmp .NotEq (.var 0) (.tup .nil)) (.mth .join (.cst (.str " ")) (.cons (.lc false [1] (.nm 1) (.seq (.var 0)) .nil (.blt false .str (.cons (.var 1) .nil))) .nil)) (.glo g_NOTHING)))
    .nil)⟩
def f_rows_in_text : Fn := ⟨"rows_in_text", ["rows", "own"], 1, false,
    (.cons (.ret (.ife (.cmp .NotEq (.var 0) (.tup .nil)) (.mth .join (.glo g_BETWEEN) (.cons (.lc false [1] (.nm 1) (.seq (.var 0)) .nil (.call i_row_in_text (.cons (.var 1) .nil))) .nil)) (.glo g_NONE)))
    .nil)⟩
def f_row_text : Fn := ⟨"row_text", ["row", "own"], 1, false,
    (.cons (.asg (.nm 1) (.call i_tupled (.cons (.var 0) .nil)))
    (.cons (.iff (.not (.call i_are_numbers (.cons (.var 1) .nil)))
    (.cons (.rse x_Unfit .nil)
    .nil)
    .nil)
    (.cons (.ret (.call i_row_in_text (.cons (.var 1) .nil)))
    .nil)))⟩
def f_rows_text : Fn := ⟨"rows_text", ["rows", "own", "row"], 1, false,
    (.cons (.asg (.nm 1) (.call i_tupled (.cons (.var 0) .nil)))
    (.cons (.iff (.or (.not (.isi (.var 1) [.tuple])) (.not (.blt false .all (.cons (.lc false [2] (.nm 2) (.seq (.var 1)) .nil (.call i_are_numbers (.cons (.var 2) .nil))) .nil))))
    (.cons (.rse x_Unfit .nil)
    .nil)
    .nil)
    (.cons (.ret (.call i_rows_in_text (.cons (.var 1) .nil)))
    .nil)))⟩
def f_rule_lines : Fn := ⟨"rule_lines", ["rule", "row"], 1, false,
    (.cons (.ret (.bin false .Add (.bin false .Add (.lst false (.cons (.bin false .Add (.glo g_MODULUS) (.blt false .str (.cons (.idx (.var 0) (.cst (.int 0))) .nil))) .nil)) (.lc false [1] (.nm 1) (.seq (.idx (.var 0) (.cst (.int 1)))) .nil (.bin false .Add (.glo g_ROW) (.call i_row_in_text (.cons (.var 1) .nil))))) (.lst false (.cons (.bin false .Add (.glo g_ADDED) (.call i_row_in_text (.cons (.idx (.var 0) (.cst (.int 2))) .nil))) .nil))))
    .nil)⟩
def f_rule_text : Fn := ⟨"rule_text", ["rule"], 1, false,
    (.cons (.ret (.mth .join (.cst (.str "\n")) (.cons (.call i_rule_lines (.cons (.call i_sure_rule (.cons (.var 0) .nil)) .nil)) .nil)))
    .nil)⟩
def f_count_read : Fn := ⟨"count_read", ["word", "sign"], 1, false,
    (.cons (.iff (.or (.cmp .Eq (.var 0) (.cst (.str ""))) (.or (.not (.blt false .all (.cons (.lc false [1] (.nm 1) (.seq (.var 0)) .nil (.cmp .In (.var 1) (.glo g_FIGURES))) .nil))) (.and (.cmp .Eq (.idx (.var 0) (.cst (.int 0))) (.cst (.str "0"))) (.cmp .NotEq (.var 0) (.cst (.str "0"))))))
    (.cons (.ret (.cst .none))
    .nil)
    .nil)
    (.cons (.ret (.blt false .int (.cons (.var 0) .nil)))
    .nil))⟩
def f_number_read : Fn := ⟨"number_read", ["word", "found"], 1, false,
    (.cons (.iff (.cmp .NotEq (.slc false (.var 0) .no (.so (.cst (.int 1)))) (.cst (.str "-")))
    (.cons (.ret (.call i_count_read (.cons (.var 0) .nil)))
    .nil)
    .nil)
    (.cons (.asg (.nm 1) (.call i_count_read (.cons (.slc false (.var 0) (.so (.cst (.int 1))) .no) .nil)))
    (.cons (.ret (.ife (.or (.cmp .Is (.var 1) (.cst .none)) (.cmp .Eq (.var 1) (.cst (.int 0)))) (.cst .none) (.neg (.var 1))))
    .nil)))⟩
def f_row_read : Fn := ⟨"row_read", ["text", "found", "word"], 1, false,
    (.cons (.iff (.cmp .Eq (.var 0) (.glo g_NOTHING))
    (.cons (.ret (.tup .nil))
    .nil)
    .nil)
    (.cons (.asg (.nm 1) (.lc false [2] (.nm 2) (.seq (.mth .split (.var 0) (.cons (.cst (.str " ")) .nil))) .nil (.call i_number_read (.cons (.var 2) .nil))))
    (.cons (.ret (.ife (.cmp .In (.cst .none) (.var 1)) (.cst .none) (.blt false .tuple (.cons (.var 1) .nil))))
    .nil)))⟩
def f_sure_text : Fn := ⟨"sure_text", ["text"], 1, false,
    (.cons (.iff (.not (.isi (.var 0) [.str]))
    (.cons (.rse x_Unfit .nil)
    .nil)
    .nil)
    (.cons (.ret (.var 0))
    .nil))⟩
def f_read_row : Fn := ⟨"read_row", ["text", "found"], 1, false,
    (.cons (.asg (.nm 1) (.call i_row_read (.cons (.call i_sure_text (.cons (.var 0) .nil)) .nil)))
    (.cons (.iff (.cmp .Is (.var 1) (.cst .none))
    (.cons (.rse x_BadText .nil)
    .nil)
    .nil)
    (.cons (.ret (.var 1))
    .nil)))⟩
def f_read_rows : Fn := ⟨"read_rows", ["text", "own", "found", "part"], 1, false,
    (.cons (.asg (.nm 1) (.call i_sure_text (.cons (.var 0) .nil)))
    (.cons (.iff (.cmp .Eq (.var 1) (.glo g_NONE))
    (.cons (.ret (.tup .nil))
    .nil)
    .nil)
    (.cons (.asg (.nm 2) (.lc false [3] (.nm 3) (.seq (.mth .split (.var 1) (.cons (.glo g_BETWEEN) .nil))) .nil (.call i_row_read (.cons (.var 3) .nil))))
    (.cons (.iff (.cmp .In (.cst .none) (.var 2))
    (.cons (.rse x_BadText .nil)
    .nil)
    .nil)
    (.cons (.ret (.blt false .tuple (.cons (.var 2) .nil)))
    .nil)))))⟩
def f_line_read : Fn := ⟨"line_read", ["lines", "number", "head", "found"], 3, false,
    (.cons (.iff (.or (.cmp .Eq (.var 1) (.blt false .len (.cons (.var 0) .nil))) (.cmp .NotEq (.slc false (.idx (.var 0) (.var 1)) .no (.so (.blt false .len (.cons (.var 2) .nil)))) (.var 2)))
    (.cons (.rse x_BadLine (.cons (.var 1) .nil))
    .nil)
    .nil)
    (.cons (.asg (.nm 3) (.call i_row_read (.cons (.slc false (.idx (.var 0) (.var 1)) (.so (.blt false .len (.cons (.var 2) .nil))) .no) .nil)))
    (.cons (.iff (.or (.cmp .Is (.var 3) (.cst .none)) (.cmp .Eq (.var 3) (.tup .nil)))
    (.cons (.rse x_BadLine (.cons (.var 1) .nil))
    .nil)
    .nil)
    (.cons (.ret (.var 3))
    .nil))))⟩
def f_sure_line_of : Fn := ⟨"sure_line_of", ["row", "modulus", "many", "number"], 4, false,
    (.cons (.iff (.or (.not (.call i_are_below (.cons (.var 0) (.cons (.var 1) .nil)))) (.cmp .NotEq (.blt false .len (.cons (.var 0) .nil)) (.var 2)))
    (.cons (.rse x_BadLine (.cons (.var 3) .nil))
    .nil)
    .nil)
    (.cons (.ret (.var 0))
    .nil))⟩
def f_read_rule : Fn := ⟨"read_rule", ["text", "lines", "head", "first", "number", "added", "many", "rows"], 1, false,
    (.cons (.asg (.nm 1) (.mth .split (.call i_sure_text (.cons (.var 0) .nil)) (.cons (.cst (.str "\n")) .nil)))
    (.cons (.asg (.nm 2) (.call i_line_read (.cons (.var 1) (.cons (.cst (.int 0)) (.cons (.glo g_MODULUS) .nil)))))
    (.cons (.iff (.or (.cmp .NotEq (.blt false .len (.cons (.var 2) .nil)) (.cst (.int 1))) (.cmp .Lt (.idx (.var 2) (.cst (.int 0))) (.cst (.int 2))))
    (.cons (.rse x_BadLine (.cons (.cst (.int 0)) .nil))
    .nil)
    .nil)
    (.cons (.asg (.nm 3) (.call i_line_read (.cons (.var 1) (.cons (.cst (.int 1)) (.cons (.glo g_ROW) .nil)))))
    (.cons (.par [6, 7] (.cons (.blt false .len (.cons (.var 3) .nil)) (.cons (.lst true .nil) .nil)))
    (.cons (.for (.nm 4) (.rng (.cons (.cst (.int 1)) (.cons (.bin false .Add (.var 6) (.cst (.int 1))) .nil)))
    (.cons (.ex (.mth .append (.var 7) (.cons (.call i_sure_line_of (.cons (.call i_line_read (.cons (.var 1) (.cons (.var 4) (.cons (.glo g_ROW) .nil)))) (.cons (.idx (.var 2) (.cst (.int 0))) (.cons (.var 6) (.cons (.var 4) .nil))))) .nil)))
    .nil))
    (.cons (.asg (.nm 5) (.call i_sure_line_of (.cons (.call i_line_read (.cons (.var 1) (.cons (.bin false .Add (.var 6) (.cst (.int 1))) (.cons (.glo g_ADDED) .nil)))) (.cons (.idx (.var 2) (.cst (.int 0))) (.cons (.var 6) (.cons (.bin false .Add (.var 6) (.cst (.int 1))) .nil))))))
    (.cons (.iff (.cmp .Gt (.blt false .len (.cons (.var 1) .nil)) (.bin false .Add (.var 6) (.cst (.int 2))))
    (.cons (.rse x_BadLine (.cons (.bin false .Add (.var 6) (.cst (.int 2))) .nil))
    .nil)
    .nil)
    (.cons (.ret (.tup (.cons (.idx (.var 2) (.cst (.int 0))) (.cons (.blt false .tuple (.cons (.var 7) .nil)) (.cons (.var 5) .nil)))))
    .nil)))))))))⟩
def f__law_box : Fn := ⟨"_law_box", ["script", "k", "cell"], 2, true,
    (.cons (.asg (.nm 2) (.ife (.cmp .Lt (.var 1) (.blt false .len (.cons (.var 0) .nil))) (.idx (.var 0) (.var 1)) (.cst (.int 0))))
    (.cons (.ret (.lst true (.cons (.bin false .Mult (.blt false .abs (.cons (.var 2) .nil)) (.blt false .int (.cons (.cmp .GtE (.blt false .abs (.cons (.var 2) .nil)) (.bin false .Pow (.cst (.int 10)) (.cst (.int 18)))) .nil))) (.cons (.bin false .Add (.bin false .Add (.bin false .Mod (.blt false .int (.cons (.var 2) .nil)) (.cst (.int 2305843009213693951))) (.bin false .Mult (.cst (.int 39373)) (.var 1))) (.cst (.int 26109))) (.cons (.cst (.int 0)) .nil)))))
    .nil))⟩
def f__law_take : Fn := ⟨"_law_take", ["tin", "below_so", "once_so", "wide_so", "twice_so", "drawn"], 2, false,
    (.cons (.iff (.cmp .Gt (.idx (.var 0) (.cst (.int 0))) (.cst (.int 0)))
    (.cons (.asg (.nm 5) (.bin false .Mod (.blt false .int (.cons (.idx (.var 0) (.cst (.int 0))) .nil)) (.var 1)))
    (.cons (.asg (.sub (.var 0) (.cst (.int 0))) (.bin false .FloorDiv (.idx (.var 0) (.cst (.int 0))) (.var 1)))
    (.cons (.ret (.var 5))
    .nil)))
    .nil)
    (.cons (.asg (.sub (.var 0) (.cst (.int 2))) (.bin false .Add (.idx (.var 0) (.cst (.int 2))) (.cst (.int 1))))
    (.cons (.asg (.nm 2) (.bin false .Mod (.blt false .int (.cons (.bin false .Mult (.bin false .Add (.idx (.var 0) (.cst (.int 1))) (.bin false .Mult (.cst (.int 48271)) (.idx (.var 0) (.cst (.int 2))))) (.bin false .Add (.cst (.int 39373)) (.idx (.var 0) (.cst (.int 2))))) .nil)) (.cst (.int 2147483647))))
    (.cons (.asg (.nm 3) (.bin false .Add (.bin false .Mod (.blt false .int (.cons (.var 2) .nil)) (.cst (.int 40009))) (.cst (.int 7))))
    (.cons (.asg (.nm 4) (.bin false .Mod (.blt false .int (.cons (.bin false .Mult (.bin false .Add (.bin false .Add (.var 2) (.idx (.var 0) (.cst (.int 2)))) (.bin false .FloorDiv (.idx (.var 0) (.cst (.int 1))) (.cst (.int 1000003)))) (.var 3)) .nil)) (.cst (.int 2147483629))))
    (.cons (.ret (.bin false .Mod (.blt false .int (.cons (.bin false .FloorDiv (.bin false .Mod (.blt false .int (.cons (.bin false .Add (.bin false .Mult (.var 4) (.cst (.int 48271))) (.var 2)) .nil)) (.cst (.int 2147483587))) (.cst (.int 64))) .nil)) (.var 1)))
    .nil))))))⟩
def f__law_cells : Fn := ⟨"_law_cells", ["script", "most_so", "cells_so", "k", "cell_so", "at_so"], 2, false,
    (.cons (.asg (.nm 2) (.or (.blt true .list (.cons (.slc false (.var 0) .no (.so (.var 1))) .nil)) (.lst true (.cons (.cst (.int 0)) .nil))))
    (.cons (.for (.tp (.cons (.nm 3) (.cons (.nm 4) .nil))) (.enu (.slc false (.var 0) (.so (.var 1)) (.so (.cst (.int 63)))))
    (.cons (.asg (.nm 5) (.bin false .Mod (.blt false .int (.cons (.var 3) .nil)) (.var 1)))
    (.cons (.asg (.sub (.var 2) (.var 5)) (.bin false .Add (.idx (.var 2) (.var 5)) (.bin false .Mult (.var 4) (.bin false .Add (.var 3) (.cst (.int 2))))))
    .nil)))
    (.cons (.ret (.var 2))
    .nil)))⟩
def f__law_of : Fn := ⟨"_law_of", ["tin", "goods_so"], 2, false,
    (.cons (.ret (.idx (.var 1) (.call i__law_take (.cons (.var 0) (.cons (.blt false .len (.cons (.var 1) .nil)) .nil)))))
    .nil)⟩
def f__law_same : Fn := ⟨"_law_same", ["got", "due", "mine", "its"], 2, false,
    (.cons (.iff (.isi (.var 1) [.list, .tuple])
    (.cons (.iff (.or (.cmp .NotEq (.isi (.var 0) [.list]) (.isi (.var 1) [.list])) (.cmp .NotEq (.isi (.var 0) [.tuple]) (.isi (.var 1) [.tuple])))
    (.cons (.ret (.cst (.bool false)))
    .nil)
    .nil)
    (.cons (.ret (.and (.cmp .Eq (.blt false .len (.cons (.var 0) .nil)) (.blt false .len (.cons (.var 1) .nil))) (.blt false .all (.cons (.lc false [2, 3] (.tp (.cons (.nm 2) (.cons (.nm 3) .nil))) (.zip (.var 0) (.var 1)) .nil (.call i__law_same (.cons (.var 2) (.cons (.var 3) .nil)))) .nil))))
    .nil))
    .nil)
    (.cons (.iff (.or (.cmp .Is (.var 1) (.cst .none)) (.isi (.var 1) [.bool, .str]))
    (.cons (.ret (.and (.cmp .Eq (.var 0) (.var 1)) (.and (.cmp .Eq (.isi (.var 0) [.bool]) (.isi (.var 1) [.bool])) (.cmp .Eq (.cmp .Is (.var 0) (.cst .none)) (.cmp .Is (.var 1) (.cst .none))))))
    .nil)
    .nil)
    (.cons (.ret (.and (.isi (.var 0) [.int]) (.and (.not (.isi (.var 0) [.bool])) (.cmp .Eq (.var 0) (.var 1)))))
    .nil)))⟩
def f__law_lists : Fn := ⟨"_law_lists", ["matter", "bit"], 1, false,
    (.cons (.ret (.ife (.isi (.var 0) [.list, .tuple]) (.lc false [1] (.nm 1) (.seq (.var 0)) .nil (.call i__law_lists (.cons (.var 1) .nil))) (.var 0)))
    .nil)⟩
def f__law_far : Fn := ⟨"_law_far", ["m", "row", "many", "j", "k"], 2, false,
    (.cons (.asg (.nm 2) (.blt false .len (.cons (.var 1) .nil)))
    (.cons (.ret (.tup (.cons (.var 0) (.cons (.bin false .Add (.blt false .tuple (.cons (.lc false [3] (.nm 3) (.rng (.cons (.bin false .Sub (.var 2) (.cst (.int 1))) .nil)) .nil (.blt false .tuple (.cons (.lc false [4] (.nm 4) (.rng (.cons (.var 2) .nil)) .nil (.blt false .int (.cons (.cmp .Eq (.var 4) (.bin false .Add (.var 3) (.cst (.int 1)))) .nil))) .nil))) .nil)) (.tup (.cons (.blt false .tuple (.cons (.var 1) .nil)) .nil))) (.cons (.bin false .Mult (.tup (.cons (.cst (.int 0)) .nil)) (.var 2)) .nil)))))
    .nil))⟩
def f__law_power : Fn := ⟨"_law_power", ["one", "many", "found", "lap"], 2, false,
    (.cons (.asg (.nm 2) (.cst (.int 1)))
    (.cons (.for (.nm 3) (.rng (.cons (.var 1) .nil))
    (.cons (.asg (.nm 2) (.bin false .Mult (.var 2) (.var 0)))
    .nil))
    (.cons (.ret (.var 2))
    .nil)))⟩
def f__law_wide_rule : Fn := ⟨"_law_wide_rule", ["tin", "moduli", "most", "m", "places", "door", "rows", "j", "k"], 3, false,
    (.cons (.asg (.nm 3) (.call i__law_of (.cons (.var 0) (.cons (.var 1) .nil))))
    (.cons (.asg (.nm 4) (.bin false .Add (.cst (.int 1)) (.call i__law_take (.cons (.var 0) (.cons (.cst (.int 7)) .nil)))))
    (.cons (.whl (.and (.cmp .Gt (.call i__law_power (.cons (.var 3) (.cons (.var 4) .nil))) (.var 2)) (.cmp .Gt (.var 4) (.cst (.int 1))))
    (.cons (.asg (.nm 4) (.bin false .Sub (.var 4) (.cst (.int 1))))
    .nil))
    (.cons (.asg (.nm 5) (.call i__law_take (.cons (.var 0) (.cons (.cst (.int 4)) .nil))))
    (.cons (.iff (.cmp .Eq (.var 5) (.cst (.int 0)))
    (.cons (.ret (.call i__law_far (.cons (.var 3) (.cons (.blt false .tuple (.cons (.lc false [8] (.nm 8) (.rng (.cons (.var 4) .nil)) .nil (.call i__law_take (.cons (.var 0) (.cons (.var 3) .nil)))) .nil)) .nil))))
    .nil)
    .nil)
    (.cons (.asg (.nm 6) (.lc true [7] (.nm 7) (.rng (.cons (.var 4) .nil)) .nil (.blt false .tuple (.cons (.lc false [8] (.nm 8) (.rng (.cons (.var 4) .nil)) .nil (.ife (.or (.cmp .Lt (.var 5) (.cst (.int 3))) (.cmp .Eq (.call i__law_take (.cons (.var 0) (.cons (.cst (.int 3)) .nil))) (.cst (.int 0)))) (.call i__law_take (.cons (.var 0) (.cons (.var 3) .nil))) (.cst (.int 0)))) .nil))))
    (.cons (.iff (.and (.cmp .Eq (.var 5) (.cst (.int 2))) (.cmp .Gt (.var 4) (.cst (.int 1))))
    (.cons (.asg (.sub (.var 6) (.call i__law_take (.cons (.var 0) (.cons (.var 4) .nil)))) (.call i__law_of (.cons (.var 0) (.cons (.var 6) .nil))))
    .nil)
    .nil)
    (.cons (.ret (.tup (.cons (.var 3) (.cons (.blt false .tuple (.cons (.var 6) .nil)) (.cons (.blt false .tuple (.cons (.lc false [8] (.nm 8) (.rng (.cons (.var 4) .nil)) .nil (.ife (.cmp .Eq (.call i__law_take (.cons (.var 0) (.cons (.cst (.int 2)) .nil))) (.cst (.int 0))) (.call i__law_take (.cons (.var 0) (.cons (.var 3) .nil))) (.cst (.int 0)))) .nil)) .nil)))))
    .nil))))))))⟩
def f__law_row_text : Fn := ⟨"_law_row_text", ["row", "own"], 1, false,
    (.cons (.ret (.ife (.cmp .NotEq (.var 0) (.tup .nil)) (.mth .join (.cst (.str " ")) (.cons (.lc false [1] (.nm 1) (.seq (.var 0)) .nil (.blt false .str (.cons (.var 1) .nil))) .nil)) (.cst (.str "-"))))
    .nil)⟩
def f__law_rule_text : Fn := ⟨"_law_rule_text", ["rule", "between", "rows", "own"], 2, false,
    (.cons (.asg (.nm 2) (.bin false .Add (.bin false .Add (.lst false (.cons (.bin false .Add (.cst (.str "modulus ")) (.blt false .str (.cons (.idx (.var 0) (.cst (.int 0))) .nil))) .nil)) (.lc false [3] (.nm 3) (.seq (.idx (.var 0) (.cst (.int 1)))) .nil (.bin false .Add (.cst (.str "row ")) (.call i__law_row_text (.cons (.var 3) .nil))))) (.lst false (.cons (.bin false .Add (.cst (.str "added ")) (.call i__law_row_text (.cons (.idx (.var 0) (.cst (.int 2))) .nil))) .nil))))
    (.cons (.ret (.mth .join (.var 1) (.cons (.var 2) .nil)))
    .nil))⟩
def f__law_heard : Fn := ⟨"_law_heard", ["door", "text", "error"], 2, false,
    (.cons (.try (.cons (.ret (.ife (.cmp .Eq (.var 0) (.cst (.int 0))) (.call i_read_rule (.cons (.var 1) .nil)) (.ife (.cmp .Eq (.var 0) (.cst (.int 1))) (.call i_read_row (.cons (.var 1) .nil)) (.call i_read_rows (.cons (.var 1) .nil)))))
    .nil) 3 (.retC x_BadText (.str "BadText") (.retX x_BadLine 2 (.str "BadLine") .nil)))
    .nil)⟩
def f__law_number_read : Fn := ⟨"_law_number_read", ["word", "figures", "own"], 1, false,
    (.cons (.asg (.nm 1) (.ife (.cmp .Eq (.slc false (.var 0) .no (.so (.cst (.int 1)))) (.cst (.str "-"))) (.slc false (.var 0) (.so (.cst (.int 1))) .no) (.var 0)))
    (.cons (.iff (.or (.cmp .Eq (.var 1) (.cst (.str ""))) (.or (.cmp .NotEq (.lc false [2] (.nm 2) (.seq (.var 1)) (.cons (.cmp .NotIn (.var 2) (.cst (.str "0123456789"))) .nil) (.var 2)) (.lst false .nil)) (.or (.and (.cmp .Eq (.idx (.var 1) (.cst (.int 0))) (.cst (.str "0"))) (.cmp .NotEq (.var 1) (.cst (.str "0")))) (.cmp .Eq (.var 0) (.cst (.str "-0"))))))
    (.cons (.ret (.cst .none))
    .nil)
    .nil)
    (.cons (.ret (.blt false .int (.cons (.var 0) .nil)))
    .nil)))⟩
def f__law_row_read : Fn := ⟨"_law_row_read", ["text", "found", "own"], 1, false,
    (.cons (.iff (.cmp .Eq (.var 0) (.cst (.str "-")))
    (.cons (.ret (.tup .nil))
    .nil)
    .nil)
    (.cons (.asg (.nm 1) (.lc false [2] (.nm 2) (.seq (.mth .split (.var 0) (.cons (.cst (.str " ")) .nil))) .nil (.call i__law_number_read (.cons (.var 2) .nil))))
    (.cons (.ret (.ife (.cmp .In (.cst .none) (.var 1)) (.cst .none) (.blt false .tuple (.cons (.var 1) .nil))))
    .nil)))⟩
def f__law_bad_line : Fn := ⟨"_law_bad_line", ["text", "lines", "row", "m", "many", "k", "own"], 1, false,
    (.cons (.asg (.nm 1) (.mth .split (.var 0) (.cons (.cst (.str "\n")) .nil)))
    (.cons (.asg (.nm 2) (.ife (.cmp .Eq (.slc false (.idx (.var 1) (.cst (.int 0))) .no (.so (.cst (.int 8)))) (.cst (.str "modulus "))) (.call i__law_row_read (.cons (.slc false (.idx (.var 1) (.cst (.int 0))) (.so (.cst (.int 8))) .no) .nil)) (.cst .none)))
    (.cons (.iff (.or (.cmp .Is (.var 2) (.cst .none)) (.or (.cmp .NotEq (.blt false .len (.cons (.var 2) .nil)) (.cst (.int 1))) (.cmp .Lt (.idx (.var 2) (.cst (.int 0))) (.cst (.int 2)))))
    (.cons (.ret (.cst (.int 0)))
    .nil)
    .nil)
    (.cons (.asg (.tp (.cons (.nm 3) (.cons (.nm 4) (.cons (.nm 5) .nil)))) (.tup (.cons (.idx (.var 2) (.cst (.int 0))) (.cons (.cst .none) (.cons (.cst (.int 1)) .nil)))))
    (.cons (.whl (.or (.cmp .Is (.var 4) (.cst .none)) (.cmp .LtE (.var 5) (.var 4)))
    (.cons (.iff (.or (.cmp .Eq (.var 5) (.blt false .len (.cons (.var 1) .nil))) (.cmp .NotEq (.slc false (.idx (.var 1) (.var 5)) .no (.so (.cst (.int 4)))) (.cst (.str "row "))))
    (.cons (.ret (.var 5))
    .nil)
    .nil)
    (.cons (.asg (.nm 2) (.call i__law_row_read (.cons (.slc false (.idx (.var 1) (.var 5)) (.so (.cst (.int 4))) .no) .nil)))
    (.cons (.iff (.or (.cmp .Is (.var 2) (.cst .none)) (.or (.cmp .Eq (.var 2) (.tup .nil)) (.or (.cmp .NotEq (.lc false [6] (.nm 6) (.seq (.var 2)) (.cons (.or (.cmp .Lt (.var 6) (.cst (.int 0))) (.cmp .GtE (.var 6) (.var 3))) .nil) (.var 6)) (.lst false .nil)) (.and (.cmp .IsNot (.var 4) (.cst .none)) (.cmp .NotEq (.blt false .len (.cons (.var 2) .nil)) (.var 4))))))
    (.cons (.ret (.var 5))
    .nil)
    .nil)
    (.cons (.par [4, 5] (.cons (.ife (.cmp .Is (.var 4) (.cst .none)) (.blt false .len (.cons (.var 2) .nil)) (.var 4)) (.cons (.bin false .Add (.var 5) (.cst (.int 1))) .nil)))
    .nil)))))
    (.cons (.iff (.or (.cmp .Eq (.var 5) (.blt false .len (.cons (.var 1) .nil))) (.cmp .NotEq (.slc false (.idx (.var 1) (.var 5)) .no (.so (.cst (.int 6)))) (.cst (.str "added "))))
    (.cons (.ret (.var 5))
    .nil)
    .nil)
    (.cons (.asg (.nm 2) (.call i__law_row_read (.cons (.slc false (.idx (.var 1) (.var 5)) (.so (.cst (.int 6))) .no) .nil)))
    (.cons (.iff (.or (.cmp .Is (.var 2) (.cst .none)) (.or (.cmp .NotEq (.blt false .len (.cons (.var 2) .nil)) (.var 4)) (.cmp .NotEq (.lc false [6] (.nm 6) (.seq (.var 2)) (.cons (.or (.cmp .Lt (.var 6) (.cst (.int 0))) (.cmp .GtE (.var 6) (.var 3))) .nil) (.var 6)) (.lst false .nil))))
    (.cons (.ret (.var 5))
    .nil)
    .nil)
    (.cons (.ret (.ife (.cmp .Eq (.bin false .Add (.var 5) (.cst (.int 1))) (.blt false .len (.cons (.var 1) .nil))) (.cst .none) (.bin false .Add (.var 5) (.cst (.int 1)))))
    .nil)))))))))⟩
def f__law_bent : Fn := ⟨"_law_bent", ["tin", "text", "k", "way_so"], 2, false,
    (.cons (.iff (.cmp .Eq (.var 1) (.cst (.str "")))
    (.cons (.ret (.cst (.str " ")))
    .nil)
    .nil)
    (.cons (.par [2, 3] (.cons (.call i__law_take (.cons (.var 0) (.cons (.blt false .len (.cons (.var 1) .nil)) .nil))) (.cons (.call i__law_take (.cons (.var 0) (.cons (.cst (.int 4)) .nil))) .nil)))
    (.cons (.iff (.cmp .Eq (.var 3) (.cst (.int 0)))
    (.cons (.ret (.bin false .Add (.slc false (.var 1) .no (.so (.var 2))) (.slc false (.var 1) (.so (.bin false .Add (.var 2) (.cst (.int 1)))) .no)))
    .nil)
    .nil)
    (.cons (.iff (.cmp .Eq (.var 3) (.cst (.int 1)))
    (.cons (.ret (.bin false .Add (.bin false .Add (.slc false (.var 1) .no (.so (.var 2))) (.idx (.var 1) (.var 2))) (.slc false (.var 1) (.so (.var 2)) .no)))
    .nil)
    .nil)
    (.cons (.iff (.cmp .Eq (.var 3) (.cst (.int 2)))
    (.cons (.ret (.slc false (.var 1) .no (.so (.var 2))))
    .nil)
    .nil)
    (.cons (.ret (.bin false .Add (.bin false .Add (.slc false (.var 1) .no (.so (.var 2))) (.call i__law_of (.cons (.var 0) (.cons (.blt false .list (.cons (.cst (.str "0123459 -/x\n")) .nil)) .nil)))) (.slc false (.var 1) (.so (.bin false .Add (.var 2) (.cst (.int 1)))) .no)))
    .nil))))))⟩
def f_law : Fn := ⟨"law", ["script", "tin", "lap", "rule", "row", "rows", "texts", "got", "turn", "bent", "again", "due", "parts", "told", "spot", "k", "j", "own"], 1, false,
    (.cons (.asg (.nm 1) (.call i__law_box (.cons (.call i__law_cells (.cons (.var 0) (.cons (.cst (.int 1)) .nil))) (.cons (.cst (.int 0)) .nil))))
    (.cons (.for (.nm 2) (.rng (.cons (.cst (.int 3)) .nil))
    (.cons (.asg (.nm 3) (.call i__law_wide_rule (.cons (.var 1) (.cons (.lst false (.cons (.cst (.int 2)) (.cons (.cst (.int 3)) (.cons (.cst (.int 5)) (.cons (.cst (.int 10)) (.cons (.cst (.int 12)) (.cons (.cst (.int 100)) (.cons (.cst (.int 1000)) .nil)))))))) (.cons (.bin false .Pow (.cst (.int 10)) (.cst (.int 9))) .nil)))))
    (.cons (.asg (.nm 4) (.blt false .tuple (.cons (.lc false [15] (.nm 15) (.rng (.cons (.call i__law_take (.cons (.var 1) (.cons (.cst (.int 6)) .nil))) .nil)) .nil (.ife (.cmp .Gt (.call i__law_take (.cons (.var 1) (.cons (.cst (.int 3)) .nil))) (.cst (.int 0))) (.bin false .Sub (.call i__law_take (.cons (.var 1) (.cons (.cst (.int 20001)) .nil))) (.cst (.int 10000))) (.cst (.int 0)))) .nil)))
    (.cons (.asg (.nm 5) (.blt false .tuple (.cons (.lc false [16] (.nm 16) (.rng (.cons (.call i__law_take (.cons (.var 1) (.cons (.cst (.int 4)) .nil))) .nil)) .nil (.blt false .tuple (.cons (.lc false [15] (.nm 15) (.rng (.cons (.call i__law_take (.cons (.var 1) (.cons (.cst (.int 4)) .nil))) .nil)) .nil (.bin false .Sub (.call i__law_take (.cons (.var 1) (.cons (.cst (.int 9)) .nil))) (.cst (.int 4)))) .nil))) .nil)))
    (.cons (.asg (.nm 6) (.lst false (.cons (.call i__law_rule_text (.cons (.var 3) (.cons (.cst (.str "\n")) .nil))) (.cons (.call i__law_row_text (.cons (.var 4) .nil)) (.cons (.ife (.cmp .NotEq (.var 5) (.tup .nil)) (.mth .join (.cst (.str " / ")) (.cons (.lc false [17] (.nm 17) (.seq (.var 5)) .nil (.call i__law_row_text (.cons (.var 17) .nil))) .nil)) (.cst (.str "none"))) .nil)))))
    (.cons (.asg (.nm 7) (.lst false (.cons (.call i_rule_text (.cons (.var 3) .nil)) (.cons (.call i_row_text (.cons (.var 4) .nil)) (.cons (.call i_rows_text (.cons (.var 5) .nil)) (.cons (.call i_rule_text (.cons (.call i__law_lists (.cons (.var 3) .nil)) .nil)) (.cons (.call i_row_text (.cons (.blt false .list (.cons (.var 4) .nil)) .nil)) (.cons (.call i_rows_text (.cons (.call i__law_lists (.cons (.var 5) .nil)) .nil)) (.cons (.lc false [15] (.nm 15) (.rng (.cons (.cst (.int 3)) .nil)) .nil (.call i__law_heard (.cons (.var 15) (.cons (.idx (.var 6) (.var 15)) .nil)))) .nil)))))))))
    (.cons (.iff (.not (.call i__law_same (.cons (.var 7) (.cons (.bin false .Add (.bin false .Add (.var 6) (.var 6)) (.lst false (.cons (.lst false (.cons (.var 3) (.cons (.var 4) (.cons (.var 5) .nil)))) .nil))) .nil))))
    (.cons (.ret (.cst (.bool false)))
    .nil)
    .nil)
    (.cons (.for (.nm 8) (.rng (.cons (.cst (.int 6)) .nil))
    (.cons (.asg (.nm 9) (.call i__law_bent (.cons (.var 1) (.cons (.idx (.var 6) (.cst (.int 0))) .nil))))
    (.cons (.for (.nm 10) (.rng (.cons (.call i__law_take (.cons (.var 1) (.cons (.cst (.int 2)) .nil))) .nil))
    (.cons (.asg (.nm 9) (.call i__law_bent (.cons (.var 1) (.cons (.var 9) .nil))))
    .nil))
    (.cons (.par [13, 14] (.cons (.call i__law_heard (.cons (.cst (.int 0)) (.cons (.var 9) .nil))) (.cons (.call i__law_bad_line (.cons (.var 9) .nil)) .nil)))
    (.cons (.iff (.cmp .IsNot (.var 14) (.cst .none))
    (.cons (.iff (.not (.call i__law_same (.cons (.var 13) (.cons (.tup (.cons (.cst (.str "BadLine")) (.cons (.var 14) .nil))) .nil))))
    (.cons (.ret (.cst (.bool false)))
    .nil)
    .nil)
    .nil)
    (.cons (.iff (.or (.isi (.idx (.var 13) (.cst (.int 0))) [.str]) (.or (.cmp .NotEq (.call i__law_rule_text (.cons (.var 13) (.cons (.cst (.str "\n")) .nil))) (.var 9)) (.cmp .IsNot (.call i_is_rule (.cons (.var 13) .nil)) (.cst (.bool true)))))
    (.cons (.ret (.cst (.bool false)))
    .nil)
    .nil)
    .nil))
    (.cons (.asg (.nm 9) (.call i__law_bent (.cons (.var 1) (.cons (.idx (.var 6) (.cst (.int 1))) .nil))))
    (.cons (.asg (.nm 11) (.call i__law_row_read (.cons (.var 9) .nil)))
    (.cons (.iff (.not (.call i__law_same (.cons (.call i__law_heard (.cons (.cst (.int 1)) (.cons (.var 9) .nil))) (.cons (.ife (.cmp .Is (.var 11) (.cst .none)) (.cst (.str "BadText")) (.var 11)) .nil))))
    (.cons (.ret (.cst (.bool false)))
    .nil)
    .nil)
    (.cons (.asg (.nm 9) (.call i__law_bent (.cons (.var 1) (.cons (.idx (.var 6) (.cst (.int 2))) .nil))))
    (.cons (.asg (.nm 12) (.ife (.cmp .NotEq (.var 9) (.cst (.str "none"))) (.lc false [17] (.nm 17) (.seq (.mth .split (.var 9) (.cons (.cst (.str " / ")) .nil))) .nil (.call i__law_row_read (.cons (.var 17) .nil))) (.lst false .nil)))
    (.cons (.iff (.not (.call i__law_same (.cons (.call i__law_heard (.cons (.cst (.int 2)) (.cons (.var 9) .nil))) (.cons (.ife (.cmp .In (.cst .none) (.var 12)) (.cst (.str "BadText")) (.blt false .tuple (.cons (.var 12) .nil))) .nil))))
    (.cons (.ret (.cst (.bool false)))
    .nil)
    .nil)
    .nil)))))))))))
    .nil))))))))
    (.cons (.ret (.cst (.bool true)))
    .nil)))⟩
def p_is_number : PD := ⟨f_is_number, "is_number", top 5⟩
theorem b_is_number : p_is_number.Bd := fun _ _ _ _ _ _ us hl => match us, hl with | [_], _ => rfl
def p_is_count : PD := ⟨f_is_count, "is_count", top 6⟩
theorem b_is_count : p_is_count.Bd := fun _ _ _ _ _ _ us hl => match us, hl with | [_], _ => rfl
def p_is_below : PD := ⟨f_is_below, "is_below", top 7⟩
theorem b_is_below : p_is_below.Bd := fun _ _ _ _ _ _ us hl => match us, hl with | [_, _], _ => rfl
def p_is_tuple_of : PD := ⟨f_is_tuple_of, "is_tuple_of", top 8⟩
theorem b_is_tuple_of : p_is_tuple_of.Bd := fun _ _ _ _ _ _ us hl => match us, hl with | [_, _], _ => rfl
def p_are_numbers : PD := ⟨f_are_numbers, "are_numbers", top 9⟩
theorem b_are_numbers : p_are_numbers.Bd := fun _ _ _ _ _ _ us hl => match us, hl with | [_], _ => rfl
def p_are_below : PD := ⟨f_are_below, "are_below", top 10⟩
theorem b_are_below : p_are_below.Bd := fun _ _ _ _ _ _ us hl => match us, hl with | [_, _], _ => rfl
def p_tupled : PD := ⟨f_tupled, "tupled", top 11⟩
theorem b_tupled : p_tupled.Bd := fun _ _ _ _ _ _ us hl => match us, hl with | [_], _ => rfl
def p_is_rule : PD := ⟨f_is_rule, "is_rule", top 13⟩
theorem b_is_rule : p_is_rule.Bd := fun _ _ _ _ _ _ us hl => match us, hl with | [_], _ => rfl
def p_is_line_of : PD := ⟨f_is_line_of, "is_line_of", top 14⟩
theorem b_is_line_of : p_is_line_of.Bd := fun _ _ _ _ _ _ us hl => match us, hl with | [_, _, _], _ => rfl
def p_sure_rule : PD := ⟨f_sure_rule, "sure_rule", top 15⟩
theorem b_sure_rule : p_sure_rule.Bd := fun _ _ _ _ _ _ us hl => match us, hl with | [_], _ => rfl
def p_row_in_text : PD := ⟨f_row_in_text, "row_in_text", top 24⟩
theorem b_row_in_text : p_row_in_text.Bd := fun _ _ _ _ _ _ us hl => match us, hl with | [_], _ => rfl
def p_rows_in_text : PD := ⟨f_rows_in_text, "rows_in_text", top 25⟩
theorem b_rows_in_text : p_rows_in_text.Bd := fun _ _ _ _ _ _ us hl => match us, hl with | [_], _ => rfl
def p_row_text : PD := ⟨f_row_text, "row_text", top 26⟩
theorem b_row_text : p_row_text.Bd := fun _ _ _ _ _ _ us hl => match us, hl with | [_], _ => rfl
def p_rows_text : PD := ⟨f_rows_text, "rows_text", top 27⟩
theorem b_rows_text : p_rows_text.Bd := fun _ _ _ _ _ _ us hl => match us, hl with | [_], _ => rfl
def p_rule_lines : PD := ⟨f_rule_lines, "rule_lines", top 28⟩
theorem b_rule_lines : p_rule_lines.Bd := fun _ _ _ _ _ _ us hl => match us, hl with | [_], _ => rfl
def p_rule_text : PD := ⟨f_rule_text, "rule_text", top 29⟩
theorem b_rule_text : p_rule_text.Bd := fun _ _ _ _ _ _ us hl => match us, hl with | [_], _ => rfl
def p_count_read : PD := ⟨f_count_read, "count_read", top 30⟩
theorem b_count_read : p_count_read.Bd := fun _ _ _ _ _ _ us hl => match us, hl with | [_], _ => rfl
def p_number_read : PD := ⟨f_number_read, "number_read", top 31⟩
theorem b_number_read : p_number_read.Bd := fun _ _ _ _ _ _ us hl => match us, hl with | [_], _ => rfl
def p_row_read : PD := ⟨f_row_read, "row_read", top 32⟩
theorem b_row_read : p_row_read.Bd := fun _ _ _ _ _ _ us hl => match us, hl with | [_], _ => rfl
def p_sure_text : PD := ⟨f_sure_text, "sure_text", top 33⟩
theorem b_sure_text : p_sure_text.Bd := fun _ _ _ _ _ _ us hl => match us, hl with | [_], _ => rfl
def p_read_row : PD := ⟨f_read_row, "read_row", top 34⟩
theorem b_read_row : p_read_row.Bd := fun _ _ _ _ _ _ us hl => match us, hl with | [_], _ => rfl
def p_read_rows : PD := ⟨f_read_rows, "read_rows", top 35⟩
theorem b_read_rows : p_read_rows.Bd := fun _ _ _ _ _ _ us hl => match us, hl with | [_], _ => rfl
def p_line_read : PD := ⟨f_line_read, "line_read", top 36⟩
theorem b_line_read : p_line_read.Bd := fun _ _ _ _ _ _ us hl => match us, hl with | [_, _, _], _ => rfl
def p_sure_line_of : PD := ⟨f_sure_line_of, "sure_line_of", top 37⟩
theorem b_sure_line_of : p_sure_line_of.Bd := fun _ _ _ _ _ _ us hl => match us, hl with | [_, _, _, _], _ => rfl
def p_read_rule : PD := ⟨f_read_rule, "read_rule", top 38⟩
theorem b_read_rule : p_read_rule.Bd := fun _ _ _ _ _ _ us hl => match us, hl with | [_], _ => rfl
def p__law_box : PD := ⟨f__law_box, "_law_box", top 40⟩
theorem b__law_box : p__law_box.Bd := fun _ _ _ _ _ _ us hl => match us, hl with | [_, _], _ => rfl
def p__law_take : PD := ⟨f__law_take, "_law_take", top 41⟩
theorem b__law_take : p__law_take.Bd := fun _ _ _ _ _ _ us hl => match us, hl with | [_, _], _ => rfl
def p__law_cells : PD := ⟨f__law_cells, "_law_cells", top 42⟩
theorem b__law_cells : p__law_cells.Bd := fun _ _ _ _ _ _ us hl => match us, hl with | [_, _], _ => rfl
def p__law_of : PD := ⟨f__law_of, "_law_of", top 43⟩
theorem b__law_of : p__law_of.Bd := fun _ _ _ _ _ _ us hl => match us, hl with | [_, _], _ => rfl
def p__law_same : PD := ⟨f__law_same, "_law_same", top 44⟩
theorem b__law_same : p__law_same.Bd := fun _ _ _ _ _ _ us hl => match us, hl with | [_, _], _ => rfl
def p__law_lists : PD := ⟨f__law_lists, "_law_lists", top 45⟩
theorem b__law_lists : p__law_lists.Bd := fun _ _ _ _ _ _ us hl => match us, hl with | [_], _ => rfl
def p__law_far : PD := ⟨f__law_far, "_law_far", top 46⟩
theorem b__law_far : p__law_far.Bd := fun _ _ _ _ _ _ us hl => match us, hl with | [_, _], _ => rfl
def p__law_power : PD := ⟨f__law_power, "_law_power", top 47⟩
theorem b__law_power : p__law_power.Bd := fun _ _ _ _ _ _ us hl => match us, hl with | [_, _], _ => rfl
def p__law_wide_rule : PD := ⟨f__law_wide_rule, "_law_wide_rule", top 48⟩
theorem b__law_wide_rule : p__law_wide_rule.Bd := fun _ _ _ _ _ _ us hl => match us, hl with | [_, _, _], _ => rfl
def p__law_row_text : PD := ⟨f__law_row_text, "_law_row_text", top 49⟩
theorem b__law_row_text : p__law_row_text.Bd := fun _ _ _ _ _ _ us hl => match us, hl with | [_], _ => rfl
def p__law_rule_text : PD := ⟨f__law_rule_text, "_law_rule_text", top 50⟩
theorem b__law_rule_text : p__law_rule_text.Bd := fun _ _ _ _ _ _ us hl => match us, hl with | [_, _], _ => rfl
def p__law_heard : PD := ⟨f__law_heard, "_law_heard", top 51⟩
theorem b__law_heard : p__law_heard.Bd := fun _ _ _ _ _ _ us hl => match us, hl with | [_, _], _ => rfl
def p__law_number_read : PD := ⟨f__law_number_read, "_law_number_read", top 52⟩
theorem b__law_number_read : p__law_number_read.Bd := fun _ _ _ _ _ _ us hl => match us, hl with | [_], _ => rfl
def p__law_row_read : PD := ⟨f__law_row_read, "_law_row_read", top 53⟩
theorem b__law_row_read : p__law_row_read.Bd := fun _ _ _ _ _ _ us hl => match us, hl with | [_], _ => rfl
def p__law_bad_line : PD := ⟨f__law_bad_line, "_law_bad_line", top 54⟩
theorem b__law_bad_line : p__law_bad_line.Bd := fun _ _ _ _ _ _ us hl => match us, hl with | [_], _ => rfl
def p__law_bent : PD := ⟨f__law_bent, "_law_bent", top 55⟩
theorem b__law_bent : p__law_bent.Bd := fun _ _ _ _ _ _ us hl => match us, hl with | [_, _], _ => rfl
def p_law : PD := ⟨f_law, "law", top 56⟩
theorem b_law : p_law.Bd := fun _ _ _ _ _ _ us hl => match us, hl with | [_], _ => rfl
def txt : Txt := ⟨[p_is_number, p_is_count, p_is_below, p_is_tuple_of, p_are_numbers, p_are_below, p_tupled, p_is_rule, p_is_line_of, p_sure_rule, p_row_in_text, p_rows_in_text, p_row_text, p_rows_text, p_rule_lines, p_rule_text, p_count_read, p_number_read, p_row_read, p_sure_text, p_read_row, p_read_rows, p_line_read, p_sure_line_of, p_read_rule, p__law_box, p__law_take, p__law_cells, p__law_of, p__law_same, p__law_lists, p__law_far, p__law_power, p__law_wide_rule, p__law_row_text, p__law_rule_text, p__law_heard, p__law_number_read, p__law_row_read, p__law_bad_line, p__law_bent, p_law],
  [("FIGURES", .str "0123456789"), ("NOTHING", .str "-"), ("NONE", .str "none"), ("BETWEEN", .str " / "), ("MODULUS", .str "modulus "), ("ROW", .str "row "), ("ADDED", .str "added ")],
  [⟨"Unfit", 0, "Unfit.__init__", inClass (top 1) 0⟩, ⟨"BadText", 0, "BadText.__init__", inClass (top 2) 0⟩, ⟨"BadLine", 1, "BadLine.__init__", inClass (top 3) 0⟩]⟩
theorem bds : ∀ p ∈ txt.ps, p.Bd := List.forall_mem_cons.mpr ⟨b_is_number, List.forall_mem_cons.mpr ⟨b_is_count, List.forall_mem_cons.mpr ⟨b_is_below, List.forall_mem_cons.mpr ⟨b_is_tuple_of, List.forall_mem_cons.mpr ⟨b_are_numbers, List.forall_mem_cons.mpr ⟨b_are_below, List.forall_mem_cons.mpr ⟨b_tupled, List.forall_mem_cons.mpr ⟨b_is_rule, List.forall_mem_cons.mpr ⟨b_is_line_of, List.forall_mem_cons.mpr ⟨b_sure_rule, List.forall_mem_cons.mpr ⟨b_row_in_text, List.forall_mem_cons.mpr ⟨b_rows_in_text, List.forall_mem_cons.mpr ⟨b_row_text, List.forall_mem_cons.mpr ⟨b_rows_text, List.forall_mem_cons.mpr ⟨b_rule_lines, List.forall_mem_cons.mpr ⟨b_rule_text, List.forall_mem_cons.mpr ⟨b_count_read, List.forall_mem_cons.mpr ⟨b_number_read, List.forall_mem_cons.mpr ⟨b_row_read, List.forall_mem_cons.mpr ⟨b_sure_text, List.forall_mem_cons.mpr ⟨b_read_row, List.forall_mem_cons.mpr ⟨b_read_rows, List.forall_mem_cons.mpr ⟨b_line_read, List.forall_mem_cons.mpr ⟨b_sure_line_of, List.forall_mem_cons.mpr ⟨b_read_rule, List.forall_mem_cons.mpr ⟨b__law_box, List.forall_mem_cons.mpr ⟨b__law_take, List.forall_mem_cons.mpr ⟨b__law_cells, List.forall_mem_cons.mpr ⟨b__law_of, List.forall_mem_cons.mpr ⟨b__law_same, List.forall_mem_cons.mpr ⟨b__law_lists, List.forall_mem_cons.mpr ⟨b__law_far, List.forall_mem_cons.mpr ⟨b__law_power, List.forall_mem_cons.mpr ⟨b__law_wide_rule, List.forall_mem_cons.mpr ⟨b__law_row_text, List.forall_mem_cons.mpr ⟨b__law_rule_text, List.forall_mem_cons.mpr ⟨b__law_heard, List.forall_mem_cons.mpr ⟨b__law_number_read, List.forall_mem_cons.mpr ⟨b__law_row_read, List.forall_mem_cons.mpr ⟨b__law_bad_line, List.forall_mem_cons.mpr ⟨b__law_bent, List.forall_mem_cons.mpr ⟨b_law, List.forall_mem_nil _⟩⟩⟩⟩⟩⟩⟩⟩⟩⟩⟩⟩⟩⟩⟩⟩⟩⟩⟩⟩⟩⟩⟩⟩⟩⟩⟩⟩⟩⟩⟩⟩⟩⟩⟩⟩⟩⟩⟩⟩⟩⟩
theorem c_is_number : defB txt.tab p_is_number.F p_is_number.st = true := by decide +kernel
theorem c_is_count : defB txt.tab p_is_count.F p_is_count.st = true := by decide +kernel
theorem c_is_below : defB txt.tab p_is_below.F p_is_below.st = true := by decide +kernel
theorem c_is_tuple_of : defB txt.tab p_is_tuple_of.F p_is_tuple_of.st = true := by decide +kernel
theorem c_are_numbers : defB txt.tab p_are_numbers.F p_are_numbers.st = true := by decide +kernel
theorem c_are_below : defB txt.tab p_are_below.F p_are_below.st = true := by decide +kernel
theorem c_tupled : defB txt.tab p_tupled.F p_tupled.st = true := by decide +kernel
theorem c_is_rule : defB txt.tab p_is_rule.F p_is_rule.st = true := by decide +kernel
theorem c_is_line_of : defB txt.tab p_is_line_of.F p_is_line_of.st = true := by decide +kernel
theorem c_sure_rule : defB txt.tab p_sure_rule.F p_sure_rule.st = true := by decide +kernel
theorem c_row_in_text : defB txt.tab p_row_in_text.F p_row_in_text.st = true := by decide +kernel
theorem c_rows_in_text : defB txt.tab p_rows_in_text.F p_rows_in_text.st = true := by decide +kernel
theorem c_row_text : defB txt.tab p_row_text.F p_row_text.st = true := by decide +kernel
theorem c_rows_text : defB txt.tab p_rows_text.F p_rows_text.st = true := by decide +kernel
theorem c_rule_lines : defB txt.tab p_rule_lines.F p_rule_lines.st = true := by decide +kernel
theorem c_rule_text : defB txt.tab p_rule_text.F p_rule_text.st = true := by decide +kernel
theorem c_count_read : defB txt.tab p_count_read.F p_count_read.st = true := by decide +kernel
theorem c_number_read : defB txt.tab p_number_read.F p_number_read.st = true := by decide +kernel
theorem c_row_read : defB txt.tab p_row_read.F p_row_read.st = true := by decide +kernel
theorem c_sure_text : defB txt.tab p_sure_text.F p_sure_text.st = true := by decide +kernel
theorem c_read_row : defB txt.tab p_read_row.F p_read_row.st = true := by decide +kernel
theorem c_read_rows : defB txt.tab p_read_rows.F p_read_rows.st = true := by decide +kernel
theorem c_line_read : defB txt.tab p_line_read.F p_line_read.st = true := by decide +kernel
theorem c_sure_line_of : defB txt.tab p_sure_line_of.F p_sure_line_of.st = true := by decide +kernel
theorem c_read_rule : defB txt.tab p_read_rule.F p_read_rule.st = true := by decide +kernel
theorem c__law_box : defB txt.tab p__law_box.F p__law_box.st = true := by decide +kernel
theorem c__law_take : defB txt.tab p__law_take.F p__law_take.st = true := by decide +kernel
theorem c__law_cells : defB txt.tab p__law_cells.F p__law_cells.st = true := by decide +kernel
theorem c__law_of : defB txt.tab p__law_of.F p__law_of.st = true := by decide +kernel
theorem c__law_same : defB txt.tab p__law_same.F p__law_same.st = true := by decide +kernel
theorem c__law_lists : defB txt.tab p__law_lists.F p__law_lists.st = true := by decide +kernel
theorem c__law_far : defB txt.tab p__law_far.F p__law_far.st = true := by decide +kernel
theorem c__law_power : defB txt.tab p__law_power.F p__law_power.st = true := by decide +kernel
theorem c__law_wide_rule : defB txt.tab p__law_wide_rule.F p__law_wide_rule.st = true := by decide +kernel
theorem c__law_row_text : defB txt.tab p__law_row_text.F p__law_row_text.st = true := by decide +kernel
theorem c__law_rule_text : defB txt.tab p__law_rule_text.F p__law_rule_text.st = true := by decide +kernel
theorem c__law_heard : defB txt.tab p__law_heard.F p__law_heard.st = true := by decide +kernel
theorem c__law_number_read : defB txt.tab p__law_number_read.F p__law_number_read.st = true := by decide +kernel
theorem c__law_row_read : defB txt.tab p__law_row_read.F p__law_row_read.st = true := by decide +kernel
theorem c__law_bad_line : defB txt.tab p__law_bad_line.F p__law_bad_line.st = true := by decide +kernel
theorem c__law_bent : defB txt.tab p__law_bent.F p__law_bent.st = true := by decide +kernel
theorem c_law : defB txt.tab p_law.F p_law.st = true := by decide +kernel
theorem chk : ∀ p ∈ txt.ps, defB txt.tab p.F p.st = true := List.forall_mem_cons.mpr ⟨c_is_number, List.forall_mem_cons.mpr ⟨c_is_count, List.forall_mem_cons.mpr ⟨c_is_below, List.forall_mem_cons.mpr ⟨c_is_tuple_of, List.forall_mem_cons.mpr ⟨c_are_numbers, List.forall_mem_cons.mpr ⟨c_are_below, List.forall_mem_cons.mpr ⟨c_tupled, List.forall_mem_cons.mpr ⟨c_is_rule, List.forall_mem_cons.mpr ⟨c_is_line_of, List.forall_mem_cons.mpr ⟨c_sure_rule, List.forall_mem_cons.mpr ⟨c_row_in_text, List.forall_mem_cons.mpr ⟨c_rows_in_text, List.forall_mem_cons.mpr ⟨c_row_text, List.forall_mem_cons.mpr ⟨c_rows_text, List.forall_mem_cons.mpr ⟨c_rule_lines, List.forall_mem_cons.mpr ⟨c_rule_text, List.forall_mem_cons.mpr ⟨c_count_read, List.forall_mem_cons.mpr ⟨c_number_read, List.forall_mem_cons.mpr ⟨c_row_read, List.forall_mem_cons.mpr ⟨c_sure_text, List.forall_mem_cons.mpr ⟨c_read_row, List.forall_mem_cons.mpr ⟨c_read_rows, List.forall_mem_cons.mpr ⟨c_line_read, List.forall_mem_cons.mpr ⟨c_sure_line_of, List.forall_mem_cons.mpr ⟨c_read_rule, List.forall_mem_cons.mpr ⟨c__law_box, List.forall_mem_cons.mpr ⟨c__law_take, List.forall_mem_cons.mpr ⟨c__law_cells, List.forall_mem_cons.mpr ⟨c__law_of, List.forall_mem_cons.mpr ⟨c__law_same, List.forall_mem_cons.mpr ⟨c__law_lists, List.forall_mem_cons.mpr ⟨c__law_far, List.forall_mem_cons.mpr ⟨c__law_power, List.forall_mem_cons.mpr ⟨c__law_wide_rule, List.forall_mem_cons.mpr ⟨c__law_row_text, List.forall_mem_cons.mpr ⟨c__law_rule_text, List.forall_mem_cons.mpr ⟨c__law_heard, List.forall_mem_cons.mpr ⟨c__law_number_read, List.forall_mem_cons.mpr ⟨c__law_row_read, List.forall_mem_cons.mpr ⟨c__law_bad_line, List.forall_mem_cons.mpr ⟨c__law_bent, List.forall_mem_cons.mpr ⟨c_law, List.forall_mem_nil _⟩⟩⟩⟩⟩⟩⟩⟩⟩⟩⟩⟩⟩⟩⟩⟩⟩⟩⟩⟩⟩⟩⟩⟩⟩⟩⟩⟩⟩⟩⟩⟩⟩⟩⟩⟩⟩⟩⟩⟩⟩⟩
theorem cls_ok : ∀ d ∈ txt.cs, d.Ok := List.forall_mem_cons.mpr ⟨⟨⟨_, rfl, rfl⟩, .inl ⟨rfl, fun _ _ _ _ _ _ _ us hl => match us, hl with | [_], _ => rfl, by decide +kernel, _, _, _, _, _, rfl, rfl⟩⟩,
  List.forall_mem_cons.mpr ⟨⟨⟨_, rfl, rfl⟩, .inl ⟨rfl, fun _ _ _ _ _ _ _ us hl => match us, hl with | [_], _ => rfl, by decide +kernel, _, _, _, _, _, rfl, rfl⟩⟩,
  List.forall_mem_cons.mpr ⟨⟨⟨_, rfl, rfl⟩, .inr ⟨rfl, fun _ _ _ _ _ _ _ us hl => match us, hl with | [_, _], _ => rfl, by decide +kernel, _, _, _, _, _, _, _, _, _, _, rfl, rfl⟩⟩,
  List.forall_mem_nil _⟩⟩⟩
theorem ok : txt.Ok := ⟨chk, bds, by decide +kernel, cls_ok⟩
/- classes: Unfit:0 BadText:0 BadLine:1 -/
abbrev R : PySem.W.OpenRow := PySem.W.OpenLaw.row PySem.Challenge.rw_seedsround_k53_whole_texts_there_and_bac
abbrev hk : PySem.W.Hook := hookG R.prog 5 txt.fa txt.fn txt.cs
def ob (s : PySem.W.SharedT) : AlG := obsGG R.prog 5 txt.fa txt.fn txt.cs (HandSHeadRun.getT s)
theorem ob_eq (s : PySem.W.SharedT) : ob s = hk.obs s.abs := obsGG_eq (HandSHeadRun.getT_eq s)
def names : List Str := (["Unfit", "BadText", "BadLine", "is_number", "is_count", "is_below", "is_tuple_of", "are_numbers", "are_below", "tupled", "is_rule", "is_line_of", "sure_rule", "FIGURES", "NOTHING", "NONE", "BETWEEN", "MODULUS", "ROW", "ADDED", "row_in_text", "rows_in_text", "row_text", "rows_text", "rule_lines", "rule_text", "count_read", "number_read", "row_read", "sure_text"] : List Str) ++ (["read_row", "read_rows", "line_read", "sure_line_of", "read_rule", "_law_box", "_law_take", "_law_cells", "_law_of", "_law_same", "_law_lists", "_law_far", "_law_power", "_law_wide_rule", "_law_row_text", "_law_rule_text", "_law_heard", "_law_number_read", "_law_row_read", "_law_bad_line", "_law_bent"] : List Str)
theorem run (w : World) : HandSHeadRun.RunEq R (PySem.W.view R.prog [56]) hk ob 3000 names w := by
  intro os
  kernel_rfl
end K53

set_option Elab.async false
set_option linter.all false
set_option maxRecDepth 100000
set_option maxHeartbeats 4000000
namespace K53
open G
abbrev Fs := txt.fns
abbrev Gv := txt.gv
/-- plain outside: no cell, no script, no dict -/
def pl : D → Bool
  | .non => true
  | .bl _ => true
  | .int _ => true
  | .str _ => true
  | .tup _ => true
  | .lst _ => true
  | _ => false
def isNum : D → Bool
  | .int _ => true
  | _ => false
theorem sp_is_number (n : Nat) (d : D) (m : Mem) (h : pl d = true) (hm : nrM m = true) : callF Fs Gv (n + 1) i_is_number [d] m = .ok (.bl (isNum d)) m := by
  refine call_ret' (t := []) (F := f_is_number) rfl rfl rfl hm ?_ rfl
  cases d <;> first | (simp [pl] at h; done) | skip
  all_goals simp [f_is_number, isNum, slots]
def isCount : D → Bool
  | .int i => decide (0 ≤ i)
  | _ => false
theorem sp_is_count (n : Nat) (d : D) (m : Mem) (h : pl d = true) (hm : nrM m = true) : callF Fs Gv (n + 2) i_is_count [d] m = .ok (.bl (isCount d)) m := by
  refine call_ret' (t := []) (F := f_is_count) rfl rfl rfl hm ?_ rfl
  cases d <;> first | (simp [pl] at h; done) | skip
  all_goals simp [f_is_count, sp_is_number n _ m h hm, isNum, isCount, slots]
def isBelow (b : Int) : D → Bool
  | .int i => decide (0 ≤ i) && decide (i < b)
  | _ => false
theorem sp_is_below (n : Nat) (d : D) (b : Int) (m : Mem) (h : pl d = true) (hm : nrM m = true) : callF Fs Gv (n + 3) i_is_below [d, .int b] m = .ok (.bl (isBelow b d)) m := by
  refine call_ret' (t := []) (F := f_is_below) rfl rfl rfl hm ?_ rfl
  cases d <;> first | (simp [pl] at h; done) | skip
  all_goals simp [f_is_below, sp_is_count n _ m h hm, isCount, isBelow, slots]
  rename_i i
  by_cases h0 : 0 ≤ i <;> simp [h0]
def isTupOf (k : Int) : D → Bool
  | .tup xs => decide ((xs.length : Int) = k)
  | _ => false
theorem sp_is_tuple_of (n : Nat) (d : D) (k : Int) (m : Mem) (h : pl d = true) (hm : nrM m = true) : callF Fs Gv (n + 1) i_is_tuple_of [d, .int k] m = .ok (.bl (isTupOf k d)) m := by
  refine call_ret' (t := []) (F := f_is_tuple_of) rfl rfl rfl hm ?_ rfl
  cases d <;> first | (simp [pl] at h; done) | skip
  all_goals simp [f_is_tuple_of, isTupOf, slots]
/-! ### words -/
theorem c_none : PySem.Str.ofString "" = mkS [] := by decide +kernel
theorem c_zero : PySem.Str.ofString "0" = mkS [48] := by decide +kernel
theorem c_dash : PySem.Str.ofString "-" = mkS [45] := by decide +kernel
theorem c_figs : PySem.Str.ofString "0123456789" = mkS [48, 49, 50, 51, 52, 53, 54, 55, 56, 57] := by decide +kernel
theorem mem_figs (c : Nat) : decide (c ∈ [48, 49, 50, 51, 52, 53, 54, 55, 56, 57]) = isDig c := by
  unfold isDig
  rw [← Bool.decide_and]
  apply decide_eq_decide.mpr
  simp
  omega
theorem lim640 {k : Nat} (h : k ≤ 640) : k ≤ lim := Nat.le_trans h (by decide)
theorem sp_count_read (n : Nat) (w : List Nat) (m : Mem) (hw : w.length ≤ 640) (ho : okL w = true) (hm : nrM m = true) : callF Fs Gv (n + 1) i_count_read [tx w] m = .ok (dI (countR w)) m := by
  refine call_ret' (t := []) (F := f_count_read) rfl rfl rfl hm ?_ (by unfold dI; split <;> rfl)
  have hlc := lc_mapA (l := w) (g0 := fun c => tx [c]) (g := asgG (.nm 1)) (tst := evC (callF Fs Gv n) Gv .nil) (el := evE (callF Fs Gv n) Gv (.cmp .In (.var 1) (.glo g_FIGURES))) (σ := [some (tx w), none]) (m := m) (fun c => .bl (isDig c)) (fun c hc => ⟨_, asg_nm, by simp, by
    simpa [txt, Txt.gv, c_figs] using mem_figs c⟩) (lim640 hw)
  have e1 := fun m => eq_tx (m := m) ho (y := []) rfl
  have e2 := fun m => eq_tx (m := m) ho (y := [48]) rfl
  have e3 := fun m c (h : c ∈ w) => eq_tx (m := m) (x := [c]) (y := [48]) (by simpa [okL] using List.all_eq_true.mp ho c h) rfl
  by_cases hn : w = []
  · subst hn
    simp [f_count_read, slots, c_none, e1, countR, dI]
  · obtain ⟨c, r, hcr⟩ := List.exists_cons_of_ne_nil hn
    have h0 : L2.atI w 0 = some c := atI_0 hcr
    have hc : c ∈ w := by rw [hcr]; exact List.mem_cons_self
    have hi : allB isDig w = true → PySem.intText? (mkS w) = some ((PySem.NumText.digitsVal w : Nat) : Int) := fun hd => PySem.intText_digits (x := mkS w) (dig_iff.mp hd) hn (by rw [mkS_len]; omega)
    have hh : w.head? = some c := by rw [hcr]; rfl
    have hl : (mkS w).length ≤ 640 := by rw [mkS_len]; exact hw
    simp [f_count_read, slots, c_none, c_zero, e1, e2, hlc, lim640 hw, h0, e3 _ _ hc, hn]
    unfold countR
    cases ha : allB isDig w with
    | false => simp [dI]
    | true =>
      by_cases h48 : c = 48
      · subst h48
        by_cases hz : w = [48]
        · subst hz
          simp [hi ha, dI]
        · simp [hh, hn, hz, dI]
      · simp [h48, hh, hn, hi ha, hw, dI]
theorem c_space : PySem.Str.ofString " " = mkS [32] := by decide +kernel
theorem c_neg0 : PySem.Str.ofString "-0" = mkS [45, 48] := by decide +kernel
theorem take1 (w : List Nat) (c : Nat) : (w.take 1 = [c]) ↔ w.head? = some c := by cases w <;> simp
theorem cut1 (w : List Nat) : cutL w none (some 1) = w.take 1 := cut_take w 1
theorem cut1' (w : List Nat) : cutL w (some 1) none = w.tail := by rw [show (1 : Int) = ((1 : Nat) : Int) from rfl, cut_drop, List.drop_one]
theorem okL_drop {w : List Nat} (k : Nat) (h : okL w = true) : okL (w.drop k) = true := by rw [← cut_drop]; exact okL_cut h _ _
theorem okL_take {w : List Nat} (k : Nat) (h : okL w = true) : okL (w.take k) = true := by rw [← cut_take]; exact okL_cut h _ _
theorem sp_number_read (n : Nat) (w : List Nat) (m : Mem) (hw : w.length ≤ 640) (ho : okL w = true) (hm : nrM m = true) : callF Fs Gv (n + 2) i_number_read [tx w] m = .ok (dI (numR w)) m := by
  refine call_ret' (t := []) (F := f_number_read) rfl rfl rfl hm ?_ (by unfold dI; split <;> rfl)
  have e1 := fun m => eq_tx (m := m) (okL_take 1 ho) (y := [45]) rfl
  have s1 := sp_count_read n w m hw ho hm
  have s2 := sp_count_read n w.tail m (by rw [List.length_tail]; omega) (by rw [← List.drop_one]; exact okL_drop 1 ho) hm
  have hl := lim640 hw
  unfold numR
  by_cases h : w.head? = some 45
  · cases hc : countR w.tail with
    | none => simp [f_number_read, slots, c_dash, hl, cut1, cut1', e1, s2, take1, h, hc, dI, isNon]
    | some i =>
      by_cases h0 : i = 0 <;> simp [f_number_read, slots, c_dash, hl, cut1, cut1', e1, s2, take1, h, hc, dI, isNon, h0]
  · simp [f_number_read, slots, c_dash, hl, cut1, cut1', e1, s1, take1, h]
def figs (w : List Nat) : List Nat := if w.head? = some 45 then w.tail else w
theorem numR_law (w : List Nat) : numR w = if figs w = [] ∨ ¬ allB isDig (figs w) = true ∨ ((figs w).head? = some 48 ∧ figs w ≠ [48]) ∨ w = [45, 48] then none else some (if w.head? = some 45 then -((PySem.NumText.digitsVal w.tail : Nat) : Int) else ((PySem.NumText.digitsVal w : Nat) : Int)) := by
  unfold numR figs countR
  by_cases h : w.head? = some 45
  · simp only [h, if_true]
    obtain ⟨c, r, rfl⟩ : ∃ c r, w = c :: r := by
      cases w with
      | nil => cases h
      | cons c r => exact ⟨c, r, rfl⟩
    have hc : c = 45 := by simpa using h
    subst hc
    simp only [List.tail_cons]
    by_cases h1 : r = []
    · subst h1; simp
    · by_cases h2 : allB isDig r = true
      · by_cases h3 : r.head? = some 48 ∧ r ≠ [48]
        · have : (r.isEmpty || !allB isDig r || (r.head? == some 48 && r != [48])) = true := by simp [h3.1, h3.2]
          simp [this, h3.1, h3.2]
        · have : (r.isEmpty || !allB isDig r || (r.head? == some 48 && r != [48])) = false := by
            simp only [Bool.or_eq_false_iff, Bool.and_eq_false_iff]
            refine ⟨⟨by simpa using h1, by simpa using h2⟩, ?_⟩
            by_cases q : r.head? = some 48
            · right; simpa using Decidable.not_not.mp fun z => h3 ⟨q, z⟩
            · left; simpa using q
          have h3' : ¬(r.head? = some 48 ∧ r ≠ [48]) := h3
          simp only [this, Bool.false_eq_true, if_false, h1, h2, not_true, h3', false_or]
          by_cases h4 : r = [48]
          · subst h4; rfl
          · have hne : r.head? ≠ some 48 := fun z => h3 ⟨z, h4⟩
            have := val_pos _ r (Nat.le_refl _) (dig_iff.mp h2) h1 hne
            simp [h1, h4, Nat.pos_iff_ne_zero.mp this, hne]
      · have h2' : allB isDig r = false := by simpa using h2
        simp [h1, h2']
  · simp only [h, if_false]
    have hw : w ≠ [45, 48] := fun z => h (by rw [z]; rfl)
    by_cases h1 : w = []
    · subst h1; simp
    · by_cases h2 : allB isDig w = true
      · by_cases h3 : w.head? = some 48 ∧ w ≠ [48]
        · simp [h3.1, h3.2]
        · have : (w.isEmpty || !allB isDig w || (w.head? == some 48 && w != [48])) = false := by
            simp only [Bool.or_eq_false_iff, Bool.and_eq_false_iff]
            refine ⟨⟨by simpa using h1, by simpa using h2⟩, ?_⟩
            by_cases q : w.head? = some 48
            · right; simpa using Decidable.not_not.mp fun z => h3 ⟨q, z⟩
            · left; simpa using q
          simp only [this]
          simp only [Bool.false_eq_true, if_false, h1, h2, not_true, h3, hw, false_or, or_self]
      · have h2' : allB isDig w = false := by simpa using h2
        simp [h1, h2']
theorem law_nr_rest (n : Nat) (w f : List Nat) (m : Mem) (hw : w.length ≤ 640) (ho : okL w = true) (hlf : f.length ≤ 640) (hof : okL f = true) (v : Int) (hint : f ≠ [] → allB isDig f = true → PySem.intText? (mkS w) = some v) :
    evSs (callF Fs Gv n) Gv whileW f__law_number_read.body.tl [some (tx w), some (tx f), none] m = .ret (dI (if f = [] ∨ ¬ allB isDig f = true ∨ (f.head? = some 48 ∧ f ≠ [48]) ∨ w = [45, 48] then none else some v)) m := by
  have hl := lim640 hw
  have e2 := fun m => eq_tx (m := m) hof (y := []) rfl
  have e3 := fun m => eq_tx (m := m) hof (y := [48]) rfl
  have e4 := fun m => eq_tx (m := m) ho (y := [45, 48]) rfl
  have e5 := fun m c (h : c ∈ f) => eq_tx (m := m) (x := [c]) (y := [48]) (by simpa [okL] using List.all_eq_true.mp hof c h) rfl
  have hlc := lc_pureA (l := f) (g0 := fun c => tx [c]) (g := asgG (.nm 2)) (tst := evC (callF Fs Gv n) Gv (.cons (.cmp .NotIn (.var 2) (.cst (.str "0123456789"))) .nil)) (el := evE (callF Fs Gv n) Gv (.var 2)) (σ := [some (tx w), some (tx f), none]) (m := m) (fun c => !isDig c) (fun c => tx [c]) (fun c hc => ⟨_, asg_nm, by
    have := congrArg (fun b => !b) (mem_figs c)
    simpa [c_figs] using this, fun _ => by simp⟩) (lim640 hlf)
  have hfl : lays ((f.filter fun c => !isDig c).map fun c => tx [c]) = true := lays_all fun d hd => by
    obtain ⟨c, hc, rfl⟩ := List.mem_map.mp hd
    refine okS_mk ?_
    simpa [okL] using List.all_eq_true.mp hof c (List.mem_filter.mp hc).1
  have e6 := fun m => eq_lst0 (m := m) (lays_nr hfl) (shp_of (by simpa only [lay] using hfl) (by
    simp only [dep]
    have : deps ((f.filter fun c => !isDig c).map fun c => tx [c]) ≤ 0 := deps_all fun d hd => by
      obtain ⟨c, hc, rfl⟩ := List.mem_map.mp hd
      exact Nat.le_refl _
    omega))
  have hem : (((f.filter fun c => !isDig c).map fun c => tx [c]).isEmpty) = allB isDig f := by
    rw [Bool.eq_iff_iff]
    simp [allB]
  rw [hem] at e6
  have hll := lim640 hlf
  by_cases hn : f = []
  · subst hn
    simp [f__law_number_read, Ss.tl, c_none, e2, dI]
  · obtain ⟨c, r, hcr⟩ := List.exists_cons_of_ne_nil hn
    have h0 : L2.atI f 0 = some c := atI_0 hcr
    have hc : c ∈ f := by rw [hcr]; exact List.mem_cons_self
    have hh : f.head? = some c := by rw [hcr]; rfl
    have hi := hint hn
    have h5 := fun m => e5 m c hc
    simp [f__law_number_read, Ss.tl, c_none, c_zero, c_neg0, e2, e3, e4, h5, hn, h0, hh, hll, hlc, e6, hw]
    cases ha : allB isDig f with
    | false => simp [dI]
    | true =>
      rw [hi ha]
      by_cases h48 : c = 48 <;> by_cases hz : f = [48] <;> by_cases h45 : w = [45, 48] <;> simp [h48, hz, h45, dI]
theorem sp__law_number_read (n : Nat) (w : List Nat) (m : Mem) (hw : w.length ≤ 640) (ho : okL w = true) (hm : nrM m = true) : callF Fs Gv (n + 1) i__law_number_read [tx w] m = .ok (dI (numR w)) m := by
  refine call_ret' (t := []) (F := f__law_number_read) rfl rfl rfl hm ?_ (by unfold dI; split <;> rfl)
  have hl := lim640 hw
  have hof : okL (figs w) = true := by unfold figs; split; rw [← List.drop_one]; exact okL_drop 1 ho; exact ho
  have hlf : (figs w).length ≤ 640 := by unfold figs; split; rw [List.length_tail]; omega; exact hw
  have e1 := fun m => eq_tx (m := m) (okL_take 1 ho) (y := [45]) rfl
  have st1 : evS (callF Fs Gv n) Gv whileW f__law_number_read.body.hd [some (tx w), none, none] m = .next [some (tx w), some (tx (figs w)), none] m := by
    unfold figs
    by_cases h : w.head? = some 45 <;> simp [f__law_number_read, Ss.hd, c_dash, hl, cut1, cut1', e1, take1, h]
  have hint : figs w ≠ [] → allB isDig (figs w) = true → PySem.intText? (mkS w) = some (if w.head? = some 45 then -((PySem.NumText.digitsVal w.tail : Nat) : Int) else ((PySem.NumText.digitsVal w : Nat) : Int)) := fun hn hd => by
    unfold figs at hn hd
    by_cases h : w.head? = some 45
    · rw [if_pos h] at hn hd ⊢
      refine PySem.intText_neg (x := mkS w) (cs := w.tail) ?_ (dig_iff.mp hd) hn (by rw [mkS_len]; omega)
      show w = 45 :: w.tail
      cases w with
      | nil => cases h
      | cons c r => simp at h; rw [h]; rfl
    · rw [if_neg h] at hn hd ⊢
      exact PySem.intText_digits (x := mkS w) (dig_iff.mp hd) hn (by rw [mkS_len]; omega)
  rw [ss_hd (by intro z; cases z), show slots f__law_number_read.N.length [tx w] = [some (tx w), none, none] from rfl, st1, sbind_next, law_nr_rest n w (figs w) m hw ho hlf hof _ hint, numR_law, List.append_nil]
theorem gv_NOTHING : Gv[g_NOTHING]? = some (tx [45]) := by
  show some (D.str (PySem.Str.ofString "-")) = _
  rw [c_dash]
theorem spl_ok {S : List Nat} : ∀ (n k : Nat) (acc l : List Nat), l.length ≤ n → okL acc = true → okL l = true → ∀ p ∈ TL.spl S k acc l, okL p = true
  | _, k, acc, [], _, ha, _, p, hp => by rw [TL.spl_nil, List.mem_singleton] at hp; subst hp; exact ha
  | 0, k, acc, c :: r, h, _, _, p, hp => by simp at h
  | n + 1, 0, acc, c :: r, h, ha, hl, p, hp => by
    have hr : r.length ≤ n := by simpa using h
    have hl2 : okL [c] = true ∧ okL r = true := by simpa [okL] using hl
    cases hq : TL.pre S (c :: r) with
    | false =>
      rw [TL.spl_miss hq] at hp
      exact spl_ok n 0 _ r hr (okL_app ha hl2.1) hl2.2 p hp
    | true =>
      rw [TL.spl_hit hq] at hp
      rcases List.mem_cons.mp hp with rfl | hp
      · exact ha
      · exact spl_ok n _ _ r hr rfl hl2.2 p hp
  | n + 1, k + 1, acc, c :: r, h, ha, hl, p, hp => by
    have hr : r.length ≤ n := by simpa using h
    have hl2 : okL [c] = true ∧ okL r = true := by simpa [okL] using hl
    exact spl_ok n k acc r hr ha hl2.2 p hp
theorem words_ok {S t : List Nat} (ht : t.length ≤ 640) (ho : okL t = true) : (∀ p ∈ TL.spl S 0 [] t, p.length ≤ 640 ∧ okL p = true) ∧ (TL.spl S 0 [] t).length ≤ lim := by
  refine ⟨fun p hp => ⟨?_, spl_ok _ 0 [] t (Nat.le_refl _) rfl ho p hp⟩, ?_⟩
  · have := spl_len _ 0 [] t (Nat.le_refl _) p hp
    simp at this
    omega
  · have := spl_count (S := S) _ 0 [] t (Nat.le_refl _)
    exact Nat.le_trans (show _ ≤ 641 by omega) (by decide)
theorem nr_dR (o : Option (List Int)) : nr (dR o) = true := by
  cases o with
  | none => rfl
  | some xs => exact nrs_int xs
theorem sp_row_read (n : Nat) (t : List Nat) (m : Mem) (ht : t.length ≤ 640) (ho : okL t = true) (hm : nrM m = true) : callF Fs Gv (n + 3) i_row_read [tx t] m = .ok (dR (rowR t)) m := by
  refine call_ret' (t := []) (F := f_row_read) rfl rfl rfl hm ?_ (nr_dR _)
  obtain ⟨w1, w2⟩ := words_ok (S := [32]) ht ho
  have e1 := fun m => eq_tx (m := m) ho (y := [45]) rfl
  have hlc := fun o => lc_mapA (l := TL.spl [32] 0 [] t) (g0 := fun p => tx p) (g := asgG (.nm 2)) (tst := evC (callF Fs Gv (n + 2)) Gv .nil) (el := evE (callF Fs Gv (n + 2)) Gv (.call i_number_read (.cons (.var 2) .nil))) (σ := [some (tx t), o, none]) (m := m) (fun w => dI (numR w)) (fun w hw => ⟨_, asg_nm, by simp, by
    simp [sp_number_read n w m (w1 w hw).1 (w1 w hw).2 hm]⟩) w2
  have hs := fun m => split_d (t := t) (s := 32) (S := []) (m := m) (by decide) (Nat.le_trans (show _ ≤ 642 by omega) (by decide))
  have hin := fun m => nums_non (ws := TL.spl [32] 0 [] t) (m := m) numR
  unfold rowR
  by_cases h : t = [45]
  · subst h
    simp [f_row_read, slots, gv_NOTHING, e1, dR]
  · cases hr : oAll ((TL.spl [32] 0 [] t).map numR) with
    | none =>
      rw [hr] at hin
      simp [f_row_read, slots, gv_NOTHING, c_space, e1, h, hs, mthOk, hlc, hin, dR]
    | some xs =>
      simp only [hr, nums_tup hr] at hin
      simp [f_row_read, slots, gv_NOTHING, c_space, e1, h, hs, mthOk, hlc, hin, dR, nums_tup hr]
theorem sp__law_row_read (n : Nat) (t : List Nat) (m : Mem) (ht : t.length ≤ 640) (ho : okL t = true) (hm : nrM m = true) : callF Fs Gv (n + 3) i__law_row_read [tx t] m = .ok (dR (rowR t)) m := by
  refine call_ret' (t := []) (F := f__law_row_read) rfl rfl rfl hm ?_ (nr_dR _)
  obtain ⟨w1, w2⟩ := words_ok (S := [32]) ht ho
  have e1 := fun m => eq_tx (m := m) ho (y := [45]) rfl
  have hlc := fun o => lc_mapA (l := TL.spl [32] 0 [] t) (g0 := fun p => tx p) (g := asgG (.nm 2)) (tst := evC (callF Fs Gv (n + 2)) Gv .nil) (el := evE (callF Fs Gv (n + 2)) Gv (.call i__law_number_read (.cons (.var 2) .nil))) (σ := [some (tx t), o, none]) (m := m) (fun w => dI (numR w)) (fun w hw => ⟨_, asg_nm, by simp, by
    simp [sp__law_number_read (n + 1) w m (w1 w hw).1 (w1 w hw).2 hm]⟩) w2
  have hs := fun m => split_d (t := t) (s := 32) (S := []) (m := m) (by decide) (Nat.le_trans (show _ ≤ 642 by omega) (by decide))
  have hin := fun m => nums_non (ws := TL.spl [32] 0 [] t) (m := m) numR
  unfold rowR
  by_cases h : t = [45]
  · subst h
    simp [f__law_row_read, slots, c_dash, e1, dR]
  · cases hr : oAll ((TL.spl [32] 0 [] t).map numR) with
    | none =>
      rw [hr] at hin
      simp [f__law_row_read, slots, c_dash, c_space, e1, h, hs, mthOk, hlc, hin, dR]
    | some xs =>
      simp only [hr, nums_tup hr] at hin
      simp [f__law_row_read, slots, c_dash, c_space, e1, h, hs, mthOk, hlc, hin, dR, nums_tup hr]
/-! ### rows written -/
theorem join_row {xs : List Int} (h : smallR xs) : ((xs.map numT).map List.length).sum + (xs.map numT).length * [32].length ≤ lim := by
  have := sum_le (l := xs.map numT) (k := 7) fun p hp => by
      obtain ⟨x, hx, rfl⟩ := List.mem_map.mp hp
      exact numT_len (k := 6) (by decide) (h.2 x hx)
  rw [List.length_map] at *
  have h1 := h.1
  simp only [List.length_singleton] at *
  exact Nat.le_trans (show _ ≤ 64 * 8 by omega) (by decide)
theorem sp_row_in_text (n : Nat) (xs : List Int) (m : Mem) (h : smallR xs) (hm : nrM m = true) : callF Fs Gv (n + 1) i_row_in_text [.tup (xs.map .int)] m = .ok (tx (rowT xs)) m := by
  refine call_ret' (t := []) (F := f_row_in_text) rfl rfl rfl hm ?_ rfl
  have e1 := fun m => eq_ints0 (xs := xs) (m := m)
  have hlc := lc_mapA (l := xs) (g0 := .int) (g := asgG (.nm 1)) (tst := evC (callF Fs Gv n) Gv .nil) (el := evE (callF Fs Gv n) Gv (.blt false .str (.cons (.var 1) .nil))) (σ := [some (.tup (xs.map .int)), none]) (m := m) (fun x => tx (numT x)) (fun x hx => ⟨_, asg_nm, by simp, by
    simp [log_small (h.2 x hx)]⟩) (Nat.le_trans h.1 (by decide))
  have hj : ∀ m, mthD .join (tx [32]) [.lst (xs.map fun x => tx (numT x))] m = some (tx (TL.joinL [32] (xs.map numT)), m) := fun m => by
    have := join_d (z := [32]) (l := xs.map numT) (m := m) (join_row h)
    rw [List.map_map] at this
    exact this
  unfold rowT
  by_cases h0 : xs = []
  · subst h0
    simp [f_row_in_text, slots, gv_NOTHING, eq_tup0 (xs := []) rfl rfl]
  · simp [f_row_in_text, slots, gv_NOTHING, c_space, e1, h0, mthOk, hlc, hj]
theorem sp__law_row_text (n : Nat) (xs : List Int) (m : Mem) (h : smallR xs) (hm : nrM m = true) : callF Fs Gv (n + 1) i__law_row_text [.tup (xs.map .int)] m = .ok (tx (rowT xs)) m := by
  refine call_ret' (t := []) (F := f__law_row_text) rfl rfl rfl hm ?_ rfl
  have e1 := fun m => eq_ints0 (xs := xs) (m := m)
  have hlc := lc_mapA (l := xs) (g0 := .int) (g := asgG (.nm 1)) (tst := evC (callF Fs Gv n) Gv .nil) (el := evE (callF Fs Gv n) Gv (.blt false .str (.cons (.var 1) .nil))) (σ := [some (.tup (xs.map .int)), none]) (m := m) (fun x => tx (numT x)) (fun x hx => ⟨_, asg_nm, by simp, by
    simp [log_small (h.2 x hx)]⟩) (Nat.le_trans h.1 (by decide))
  have hj : ∀ m, mthD .join (tx [32]) [.lst (xs.map fun x => tx (numT x))] m = some (tx (TL.joinL [32] (xs.map numT)), m) := fun m => by
    have := join_d (z := [32]) (l := xs.map numT) (m := m) (join_row h)
    rw [List.map_map] at this
    exact this
  unfold rowT
  by_cases h0 : xs = []
  · subst h0
    simp [f__law_row_text, slots, c_dash, eq_tup0 (xs := []) rfl rfl]
  · simp [f__law_row_text, slots, c_dash, c_space, e1, h0, mthOk, hlc, hj]
/-! ### lists within -/
mutual
def tupD : D → D
  | .tup xs => .tup (tupDs xs)
  | .lst xs => .tup (tupDs xs)
  | d => d
def tupDs : List D → List D
  | [] => []
  | x :: r => tupD x :: tupDs r
end
theorem tupDs_map (l : List D) : tupDs l = l.map tupD := by
  induction l with
  | nil => rfl
  | cons x l ih => simp only [tupDs, List.map_cons, ih]
mutual
def lstD : D → D
  | .tup xs => .lst (lstDs xs)
  | .lst xs => .lst (lstDs xs)
  | d => d
def lstDs : List D → List D
  | [] => []
  | x :: r => lstD x :: lstDs r
end
theorem lstDs_map (l : List D) : lstDs l = l.map lstD := by
  induction l with
  | nil => rfl
  | cons x l ih => simp only [lstDs, List.map_cons, ih]
mutual
def few : D → Bool
  | .tup xs => decide (xs.length ≤ 64) && fews xs
  | .lst xs => decide (xs.length ≤ 64) && fews xs
  | _ => true
def fews : List D → Bool
  | [] => true
  | x :: r => few x && fews r
end
theorem fews_mem {l : List D} (h : fews l = true) : ∀ d ∈ l, few d = true := by
  induction l with
  | nil => exact fun d hd => by cases hd
  | cons x l ih =>
    simp only [fews, Bool.and_eq_true] at h
    intro d hd
    rcases List.mem_cons.mp hd with rfl | hd
    · exact h.1
    · exact ih h.2 d hd
theorem lays_mem {l : List D} (h : lays l = true) : ∀ d ∈ l, lay d = true := by
  induction l with
  | nil => exact fun d hd => by cases hd
  | cons x l ih =>
    simp only [lays, Bool.and_eq_true] at h
    intro d hd
    rcases List.mem_cons.mp hd with rfl | hd
    · exact h.1
    · exact ih h.2 d hd
theorem deps_mem {l : List D} {k : Nat} (h : deps l ≤ k) : ∀ d ∈ l, dep d ≤ k := by
  induction l with
  | nil => exact fun d hd => by cases hd
  | cons x l ih =>
    simp only [deps] at h
    intro d hd
    rcases List.mem_cons.mp hd with rfl | hd
    · omega
    · exact ih (by omega) d hd
mutual
theorem nr_tupD : ∀ d : D, nr d = true → nr (tupD d) = true
  | .tup xs, h => by simp only [tupD, nr] at *; exact nrs_tupDs xs h
  | .lst xs, h => by simp only [tupD, nr] at *; exact nrs_tupDs xs h
  | .non, h => h
  | .bl _, h => h
  | .int _, h => h
  | .str _, h => h
  | .scr _, h => h
  | .dct _ _, h => h
  | .ref _, h => h
  | .exn _ _, h => h
theorem nrs_tupDs : ∀ ds : List D, nrs ds = true → nrs (tupDs ds) = true
  | [], _ => rfl
  | d :: ds, h => by
    simp only [nrs, Bool.and_eq_true, tupDs] at *
    exact ⟨nr_tupD d h.1, nrs_tupDs ds h.2⟩
end
theorem sp_tupled : ∀ (k n : Nat) (d : D) (m : Mem), dep d ≤ k → lay d = true → few d = true → nrM m = true → callF Fs Gv (n + k + 1) i_tupled [d] m = .ok (tupD d) m := by
  intro k
  induction k with
  | zero =>
    intro n d m hd hl hf hm
    refine call_ret' (t := []) (F := f_tupled) rfl rfl rfl hm ?_ (nr_tupD d (lay_nr hl))
    cases d <;> first | (simp [dep] at hd; done) | (simp [lay] at hl; done) | skip
    all_goals simp [f_tupled, slots, tupD]
  | succ k ih =>
    intro n d m hd hl hf hm
    refine call_ret' (t := []) (F := f_tupled) rfl rfl rfl hm ?_ (nr_tupD d (lay_nr hl))
    have gen : ∀ xs : List D, deps xs ≤ k → lays xs = true → fews xs = true → xs.length ≤ 64 → ∀ d0 : D, lcLoop (srcS xs) (asgG (.nm 1)) (evC (callF Fs Gv (n + (k + 1))) Gv .nil) (evE (callF Fs Gv (n + (k + 1))) Gv (.call i_tupled (.cons (.var 1) .nil))) [some d0, none] xs.length 0 [] m = .ok (tupDs xs) m := by
      intro xs h1 h2 h3 h4 d0
      rw [tupDs_map]
      refine lc_map tupD (fun x hx => ⟨_, asg_nm, by simp, ?_⟩) (Nat.le_trans h4 (by decide))
      have e : callF Fs Gv (n + (k + 1)) i_tupled [x] m = .ok (tupD x) m := ih n x m (deps_mem h1 x hx) (lays_mem h2 x hx) (fews_mem h3 x hx) hm
      simp [e]
    cases d <;> first | (simp [lay] at hl; done) | skip
    case tup xs =>
      simp only [few, Bool.and_eq_true, decide_eq_true_eq] at hf
      simp only [dep, Nat.add_le_add_iff_right] at hd
      simp only [lay] at hl
      simp [f_tupled, slots, tupD, gen xs hd hl hf.2 hf.1]
    case lst xs =>
      simp only [few, Bool.and_eq_true, decide_eq_true_eq] at hf
      simp only [dep, Nat.add_le_add_iff_right] at hd
      simp only [lay] at hl
      simp [f_tupled, slots, tupD, gen xs hd hl hf.2 hf.1]
    all_goals simp [f_tupled, slots, tupD]
mutual
theorem nr_lstD : ∀ d : D, nr d = true → nr (lstD d) = true
  | .tup xs, h => by simp only [lstD, nr] at *; exact nrs_lstDs xs h
  | .lst xs, h => by simp only [lstD, nr] at *; exact nrs_lstDs xs h
  | .non, h => h
  | .bl _, h => h
  | .int _, h => h
  | .str _, h => h
  | .scr _, h => h
  | .dct _ _, h => h
  | .ref _, h => h
  | .exn _ _, h => h
theorem nrs_lstDs : ∀ ds : List D, nrs ds = true → nrs (lstDs ds) = true
  | [], _ => rfl
  | d :: ds, h => by
    simp only [nrs, Bool.and_eq_true, lstDs] at *
    exact ⟨nr_lstD d h.1, nrs_lstDs ds h.2⟩
end
theorem sp__law_lists : ∀ (k n : Nat) (d : D) (m : Mem), dep d ≤ k → lay d = true → few d = true → nrM m = true → callF Fs Gv (n + k + 1) i__law_lists [d] m = .ok (lstD d) m := by
  intro k
  induction k with
  | zero =>
    intro n d m hd hl hf hm
    refine call_ret' (t := []) (F := f__law_lists) rfl rfl rfl hm ?_ (nr_lstD d (lay_nr hl))
    cases d <;> first | (simp [dep] at hd; done) | (simp [lay] at hl; done) | skip
    all_goals simp [f__law_lists, slots, lstD]
  | succ k ih =>
    intro n d m hd hl hf hm
    refine call_ret' (t := []) (F := f__law_lists) rfl rfl rfl hm ?_ (nr_lstD d (lay_nr hl))
    have gen : ∀ xs : List D, deps xs ≤ k → lays xs = true → fews xs = true → xs.length ≤ 64 → ∀ d0 : D, lcLoop (srcS xs) (asgG (.nm 1)) (evC (callF Fs Gv (n + (k + 1))) Gv .nil) (evE (callF Fs Gv (n + (k + 1))) Gv (.call i__law_lists (.cons (.var 1) .nil))) [some d0, none] xs.length 0 [] m = .ok (lstDs xs) m := by
      intro xs h1 h2 h3 h4 d0
      rw [lstDs_map]
      refine lc_map lstD (fun x hx => ⟨_, asg_nm, by simp, ?_⟩) (Nat.le_trans h4 (by decide))
      have e : callF Fs Gv (n + (k + 1)) i__law_lists [x] m = .ok (lstD x) m := ih n x m (deps_mem h1 x hx) (lays_mem h2 x hx) (fews_mem h3 x hx) hm
      simp [e]
    cases d <;> first | (simp [lay] at hl; done) | skip
    case tup xs =>
      simp only [few, Bool.and_eq_true, decide_eq_true_eq] at hf
      simp only [dep, Nat.add_le_add_iff_right] at hd
      simp only [lay] at hl
      simp [f__law_lists, slots, lstD, gen xs hd hl hf.2 hf.1]
    case lst xs =>
      simp only [few, Bool.and_eq_true, decide_eq_true_eq] at hf
      simp only [dep, Nat.add_le_add_iff_right] at hd
      simp only [lay] at hl
      simp [f__law_lists, slots, lstD, gen xs hd hl hf.2 hf.1]
    all_goals simp [f__law_lists, slots, lstD]
/-! ### the same -/
theorem zip_at (xs : List D) (i : Nat) (m : Mem) : (srcZ (srcS xs) (srcS xs)).at' i m = (srcS (xs.map fun x => D.tup [x, x])).at' i m := by
  simp only [srcZ, srcS, List.getElem?_map]
  cases xs[i]? <;> rfl
theorem lc_zip {xs : List D} {g : D → Sl → Option Sl} {tst : Sl → Mem → XR Bool} {el : Sl → Mem → XR D} {σ : Sl} : ∀ (k i : Nat) (acc : List D) (m : Mem), lcLoop (srcZ (srcS xs) (srcS xs)) g tst el σ k i acc m = lcLoop (srcS (xs.map fun x => D.tup [x, x])) g tst el σ k i acc m
  | 0, i, acc, m => by simp only [lcLoop, srcZ, srcS, Bool.and_self]
  | k + 1, i, acc, m => by
    unfold lcLoop
    rw [zip_at]
    simp only [lc_zip k]
theorem sp__law_same : ∀ (k n : Nat) (d : D) (m : Mem), dep d ≤ k → lay d = true → few d = true → nrM m = true → callF Fs Gv (n + k + 1) i__law_same [d, d] m = .ok (.bl true) m := by
  intro k
  induction k with
  | zero =>
    intro n d m hd hl hf hm
    refine call_ret' (t := []) (F := f__law_same) rfl rfl rfl hm ?_ rfl
    cases d <;> first | (simp [dep] at hd; done) | (simp [lay] at hl; done) | skip
    case str x => simp [f__law_same, slots, isNon, eq_strs (show okS x = true from hl) hl]
    all_goals simp [f__law_same, slots, isNon]
  | succ k ih =>
    intro n d m hd hl hf hm
    refine call_ret' (t := []) (F := f__law_same) rfl rfl rfl hm ?_ rfl
    have gen : ∀ xs : List D, deps xs ≤ k → lays xs = true → fews xs = true → xs.length ≤ 64 → ∀ d0 d1 : D, lcLoop (srcZ (srcS xs) (srcS xs)) (asgG (.tp (.cons (.nm 2) (.cons (.nm 3) .nil)))) (evC (callF Fs Gv (n + (k + 1))) Gv .nil) (evE (callF Fs Gv (n + (k + 1))) Gv (.call i__law_same (.cons (.var 2) (.cons (.var 3) .nil)))) [some d0, some d1, none, none] xs.length 0 [] m = .ok (xs.map fun _ => .bl true) m := by
      intro xs h1 h2 h3 h4 d0 d1
      rw [lc_zip]
      refine lc_mapA (g0 := fun x => D.tup [x, x]) (fun _ => .bl true) (fun x hx => ⟨[some d0, some d1, some x, some x], by simp, by simp, ?_⟩) (Nat.le_trans h4 (by decide))
      have e : callF Fs Gv (n + (k + 1)) i__law_same [x, x] m = .ok (.bl true) m := ih n x m (deps_mem h1 x hx) (lays_mem h2 x hx) (fews_mem h3 x hx) hm
      simp [e]
    cases d <;> first | (simp [lay] at hl; done) | skip
    case tup xs =>
      simp only [few, Bool.and_eq_true, decide_eq_true_eq] at hf
      simp only [dep, Nat.add_le_add_iff_right] at hd
      simp only [lay] at hl
      simp [f__law_same, slots, gen xs hd hl hf.2 hf.1]
    case lst xs =>
      simp only [few, Bool.and_eq_true, decide_eq_true_eq] at hf
      simp only [dep, Nat.add_le_add_iff_right] at hd
      simp only [lay] at hl
      simp [f__law_same, slots, gen xs hd hl hf.2 hf.1]
    case str x => simp [f__law_same, slots, isNon, eq_strs (show okS x = true from hl) hl]
    all_goals simp [f__law_same, slots, isNon]
/-! ### rules -/
abbrev rowD (xs : List Int) : D := .tup (xs.map .int)
abbrev rowsD (R : List (List Int)) : D := .tup (R.map rowD)
abbrev ruleD (M : Int) (R : List (List Int)) (A : List Int) : D := .tup [.int M, rowsD R, rowD A]
def inB (M : Int) (x : Int) : Bool := decide (0 ≤ x) && decide (x < M)
theorem sp_are_below (n : Nat) (xs : List Int) (b : Int) (m : Mem) (h : xs.length ≤ 1000) (hm : nrM m = true) : callF Fs Gv (n + 4) i_are_below [rowD xs, .int b] m = .ok (.bl (allB (inB b) xs)) m := by
  refine call_ret' (t := []) (F := f_are_below) rfl rfl rfl hm ?_ rfl
  have hlc := lc_mapA (l := xs) (g0 := .int) (g := asgG (.nm 2)) (tst := evC (callF Fs Gv (n + 3)) Gv .nil) (el := evE (callF Fs Gv (n + 3)) Gv (.call i_is_below (.cons (.var 2) (.cons (.var 1) .nil)))) (σ := [some (rowD xs), some (.int b), none]) (m := m) (fun x => .bl (inB b x)) (fun x hx => ⟨_, asg_nm, by simp, by
    simp [sp_is_below n (.int x) b m rfl hm, isBelow, inB]⟩) (Nat.le_trans h (by decide))
  simp [f_are_below, slots, hlc]
theorem sp_is_line_of (n : Nat) (xs : List Int) (b k : Int) (m : Mem) (h : xs.length ≤ 1000) (hm : nrM m = true) : callF Fs Gv (n + 5) i_is_line_of [rowD xs, .int b, .int k] m = .ok (.bl (allB (inB b) xs && decide ((xs.length : Int) = k))) m := by
  refine call_ret' (t := []) (F := f_is_line_of) rfl rfl rfl hm ?_ rfl
  simp [f_is_line_of, slots, sp_are_below n xs b m h hm]
  cases allB (inB b) xs <;> simp
theorem sp_are_numbers (n : Nat) (xs : List Int) (m : Mem) (h : xs.length ≤ 1000) (hm : nrM m = true) : callF Fs Gv (n + 2) i_are_numbers [rowD xs] m = .ok (.bl true) m := by
  refine call_ret' (t := []) (F := f_are_numbers) rfl rfl rfl hm ?_ rfl
  have hlc := lc_mapA (l := xs) (g0 := .int) (g := asgG (.nm 1)) (tst := evC (callF Fs Gv (n + 1)) Gv .nil) (el := evE (callF Fs Gv (n + 1)) Gv (.call i_is_number (.cons (.var 1) .nil))) (σ := [some (rowD xs), none]) (m := m) (fun x => .bl true) (fun x hx => ⟨_, asg_nm, by simp, by
    simp [sp_is_number n (.int x) m rfl hm, isNum]⟩) (Nat.le_trans h (by decide))
  simp [f_are_numbers, slots, hlc]
/-- a rule as the law builds it -/
structure Good (M : Int) (R : List (List Int)) (A : List Int) : Prop where
  two : 2 ≤ M
  ne : R ≠ []
  many : R.length ≤ 8
  rows : ∀ r ∈ R, r.length = R.length ∧ allB (inB M) r = true
  add : A.length = R.length ∧ allB (inB M) A = true
theorem lays_rows (R : List (List Int)) : lays (R.map rowD) = true := lays_all fun d hd => by
  obtain ⟨r, _, rfl⟩ := List.mem_map.mp hd
  simp only [lay, lays_ints]
theorem deps_rows (R : List (List Int)) : deps (R.map rowD) ≤ 1 := deps_all fun d hd => by
  obtain ⟨r, _, rfl⟩ := List.mem_map.mp hd
  simp only [dep, deps_ints]
  omega
theorem eq_rows0 {R : List (List Int)} {m : Mem} : eqD m (rowsD R) (.tup []) = some (decide (R = [])) := by
  have := deps_rows R
  rw [eq_tup0 (lays_nr (lays_rows R)) (shp_of (by simp only [lay, lays_rows]) (by simp only [dep]; omega))]
  cases R <;> rfl
theorem sp_is_rule (n : Nat) (M : Int) (R : List (List Int)) (A : List Int) (m : Mem) (g : Good M R A) (hm : nrM m = true) : callF Fs Gv (n + 6) i_is_rule [ruleD M R A] m = .ok (.bl true) m := by
  refine call_ret' (t := []) (F := f_is_rule) rfl rfl rfl hm ?_ rfl
  have hR : ∀ r ∈ R, r.length ≤ 1000 := fun r hr => by have := (g.rows r hr).1; have := g.many; omega
  have hlc := lc_mapA (l := R) (g0 := rowD) (g := asgG (.nm 4)) (tst := evC (callF Fs Gv (n + 5)) Gv .nil) (el := evE (callF Fs Gv (n + 5)) Gv (.call i_is_line_of (.cons (.var 4) (.cons (.var 1) (.cons (.blt false .len (.cons (.var 2) .nil)) .nil))))) (σ := [some (ruleD M R A), some (.int M), some (rowsD R), some (rowD A), none]) (m := m) (fun r => .bl true) (fun r hr => ⟨_, asg_nm, by simp, by
    simp [sp_is_line_of n r M R.length m (hR r hr) hm, (g.rows r hr).1, (g.rows r hr).2]⟩) (Nat.le_trans g.many (by decide))
  have h2 := g.two
  have hA := sp_is_line_of n A M R.length m (by have := g.add.1; have := g.many; omega) hm
  have e0 := fun m => eq_rows0 (R := R) (m := m)
  simp [f_is_rule, slots, sp_is_tuple_of (n + 4) (ruleD M R A) 3 m rfl hm, isTupOf, sp_is_number (n + 4) (.int M) m rfl hm, isNum, L2.atI, L2.ixN, h2, e0, g.ne, hlc, hA, g.add.1, g.add.2]
structure Few (d : D) (k : Nat) : Prop where
  dep : dep d ≤ k
  lay : lay d = true
  few : few d = true
theorem sp_sure_rule (n : Nat) (d : D) (M : Int) (R : List (List Int)) (A : List Int) (m : Mem) (g : Good M R A) (hd : Few d 3) (e : tupD d = ruleD M R A) (hm : nrM m = true) : callF Fs Gv (n + 7) i_sure_rule [d] m = .ok (ruleD M R A) m := by
  refine call_ret' (t := []) (F := f_sure_rule) rfl rfl rfl hm ?_ ?_
  · have h1 := sp_tupled 3 (n + 2) d m hd.dep hd.lay hd.few hm
    rw [e] at h1
    have h1' : callF Fs Gv (n + 6) i_tupled [d] m = .ok (ruleD M R A) m := h1
    simp [f_sure_rule, slots, h1', sp_is_rule n M R A m g hm]
  · rw [← e]; exact nr_tupD d (lay_nr hd.lay)
/-! the texts of rows, of rules -/
def cNone : List Nat := [110, 111, 110, 101]
def cBetween : List Nat := [32, 47, 32]
def cModulus : List Nat := [109, 111, 100, 117, 108, 117, 115, 32]
def cRow : List Nat := [114, 111, 119, 32]
def cAdded : List Nat := [97, 100, 100, 101, 100, 32]
theorem c_None : PySem.Str.ofString "none" = mkS cNone := by decide +kernel
theorem c_Between : PySem.Str.ofString " / " = mkS cBetween := by decide +kernel
theorem c_Modulus : PySem.Str.ofString "modulus " = mkS cModulus := by decide +kernel
theorem c_Row : PySem.Str.ofString "row " = mkS cRow := by decide +kernel
theorem c_Added : PySem.Str.ofString "added " = mkS cAdded := by decide +kernel
theorem c_nl : PySem.Str.ofString "\n" = mkS [10] := by decide +kernel
theorem gv_NONE : Gv[g_NONE]? = some (tx cNone) := by
  show some (D.str (PySem.Str.ofString "none")) = _
  rw [c_None]
theorem gv_BETWEEN : Gv[g_BETWEEN]? = some (tx cBetween) := by
  show some (D.str (PySem.Str.ofString " / ")) = _
  rw [c_Between]
theorem gv_MODULUS : Gv[g_MODULUS]? = some (tx cModulus) := by
  show some (D.str (PySem.Str.ofString "modulus ")) = _
  rw [c_Modulus]
theorem gv_ROW : Gv[g_ROW]? = some (tx cRow) := by
  show some (D.str (PySem.Str.ofString "row ")) = _
  rw [c_Row]
theorem gv_ADDED : Gv[g_ADDED]? = some (tx cAdded) := by
  show some (D.str (PySem.Str.ofString "added ")) = _
  rw [c_Added]
def rowsT (R : List (List Int)) : List Nat := if R = [] then cNone else TL.joinL cBetween (R.map rowT)
def ruleL (M : Int) (R : List (List Int)) (A : List Int) : List (List Nat) := (cModulus ++ numT M) :: (R.map fun r => cRow ++ rowT r) ++ [cAdded ++ rowT A]
def ruleT (M : Int) (R : List (List Int)) (A : List Int) : List Nat := TL.joinL [10] (ruleL M R A)
structure SmallRs (R : List (List Int)) : Prop where
  many : R.length ≤ 8
  rows : ∀ r ∈ R, smallR r ∧ r.length ≤ 8
theorem join_rows {R : List (List Int)} (h : SmallRs R) : ((R.map rowT).map List.length).sum + (R.map rowT).length * cBetween.length ≤ lim := by
  have := sum_le (l := R.map rowT) (k := 65) fun p hp => by
      obtain ⟨x, hx, rfl⟩ := List.mem_map.mp hp
      have h1 := rowT_len (h.rows x hx).1
      have h2 := (h.rows x hx).2
      omega
  rw [List.length_map] at *
  have h1 := h.many
  have : cBetween.length = 3 := rfl
  rw [this]
  exact Nat.le_trans (show _ ≤ 8 * 68 by omega) (by decide)
theorem sp_rows_in_text (n : Nat) (R : List (List Int)) (m : Mem) (h : SmallRs R) (hm : nrM m = true) : callF Fs Gv (n + 2) i_rows_in_text [rowsD R] m = .ok (tx (rowsT R)) m := by
  refine call_ret' (t := []) (F := f_rows_in_text) rfl rfl rfl hm ?_ rfl
  have hlc := lc_mapA (l := R) (g0 := rowD) (g := asgG (.nm 1)) (tst := evC (callF Fs Gv (n + 1)) Gv .nil) (el := evE (callF Fs Gv (n + 1)) Gv (.call i_row_in_text (.cons (.var 1) .nil))) (σ := [some (rowsD R), none]) (m := m) (fun r => tx (rowT r)) (fun r hr => ⟨_, asg_nm, by simp, by
    simp [sp_row_in_text n r m (h.rows r hr).1 hm]⟩) (Nat.le_trans h.many (by decide))
  have e0 := fun m => eq_rows0 (R := R) (m := m)
  have hj : ∀ m, mthD .join (tx cBetween) [.lst (R.map fun x => tx (rowT x))] m = some (tx (TL.joinL cBetween (R.map rowT)), m) := fun m => by
    have := join_d (z := cBetween) (l := R.map rowT) (m := m) (join_rows h)
    rw [List.map_map] at this
    exact this
  unfold rowsT
  by_cases h0 : R = []
  · subst h0
    have e1 : ∀ m, eqD m (.tup []) (.tup []) = some true := fun m => eq_tup0 (xs := []) rfl rfl
    simp [f_rows_in_text, slots, gv_NONE, e0, e1]
  · simp [f_rows_in_text, slots, gv_BETWEEN, gv_NONE, e0, h0, hlc, mthOk, hj]
theorem sp_row_text (n : Nat) (d : D) (xs : List Int) (m : Mem) (hd : Few d 1) (e : tupD d = rowD xs) (h : smallR xs) (hm : nrM m = true) : callF Fs Gv (n + 4) i_row_text [d] m = .ok (tx (rowT xs)) m := by
  refine call_ret' (t := []) (F := f_row_text) rfl rfl rfl hm ?_ rfl
  have h1 : callF Fs Gv (n + 3) i_tupled [d] m = .ok (tupD d) m := sp_tupled 1 (n + 1) d m hd.dep hd.lay hd.few hm
  rw [e] at h1
  have hl : xs.length ≤ 1000 := by have := h.1; omega
  simp [f_row_text, slots, h1, sp_are_numbers (n + 1) xs m hl hm, sp_row_in_text (n + 2) xs m h hm]
theorem sp_rows_text (n : Nat) (d : D) (R : List (List Int)) (m : Mem) (hd : Few d 2) (e : tupD d = rowsD R) (h : SmallRs R) (hm : nrM m = true) : callF Fs Gv (n + 4) i_rows_text [d] m = .ok (tx (rowsT R)) m := by
  refine call_ret' (t := []) (F := f_rows_text) rfl rfl rfl hm ?_ rfl
  have h1 : callF Fs Gv (n + 3) i_tupled [d] m = .ok (tupD d) m := sp_tupled 2 n d m hd.dep hd.lay hd.few hm
  rw [e] at h1
  have hlc := lc_mapA (l := R) (g0 := rowD) (g := asgG (.nm 2)) (tst := evC (callF Fs Gv (n + 3)) Gv .nil) (el := evE (callF Fs Gv (n + 3)) Gv (.call i_are_numbers (.cons (.var 2) .nil))) (σ := [some d, some (rowsD R), none]) (m := m) (fun r => .bl true) (fun r hr => ⟨_, asg_nm, by simp, by
    simp [sp_are_numbers (n + 1) r m (by have := (h.rows r hr).2; omega) hm]⟩) (Nat.le_trans h.many (by decide))
  simp [f_rows_text, slots, h1, hlc, sp_rows_in_text (n + 1) R m h hm]
theorem add_lsts {xs ys : List D} {m : Mem} : binD false .Add (.lst xs) (.lst ys) m = if xs.length + ys.length ≤ lim then some (.lst (xs ++ ys), m) else none := by
  show newL false (xs ++ ys) m = _
  rw [new_eq, List.length_append]
  rfl
structure SmallRule (M : Int) (R : List (List Int)) (A : List Int) : Prop where
  m : M.natAbs < 10 ^ 6
  r : SmallRs R
  a : smallR A ∧ A.length ≤ 8
theorem ruleL_len {M : Int} {R : List (List Int)} {A : List Int} (h : SmallRule M R A) : (∀ p ∈ ruleL M R A, p.length ≤ 75) ∧ (ruleL M R A).length = R.length + 2 := by
  refine ⟨fun p hp => ?_, by simp [ruleL]⟩
  unfold ruleL at hp
  rcases List.mem_append.mp hp with hp | hp
  · rcases List.mem_cons.mp hp with rfl | hp
    · have := numT_len (i := M) (k := 6) (by decide) h.m
      rw [List.length_append]
      have : cModulus.length = 8 := rfl
      omega
    · obtain ⟨r, hr, rfl⟩ := List.mem_map.mp hp
      have h1 := rowT_len (h.r.rows r hr).1
      have h2 := (h.r.rows r hr).2
      rw [List.length_append]
      have : cRow.length = 4 := rfl
      omega
  · rw [List.mem_singleton] at hp
    subst hp
    have h1 := rowT_len h.a.1
    have h2 := h.a.2
    rw [List.length_append]
    have : cAdded.length = 6 := rfl
    omega
theorem join_rule {M : Int} {R : List (List Int)} {A : List Int} (h : SmallRule M R A) : ((ruleL M R A).map List.length).sum + (ruleL M R A).length * [10].length ≤ lim := by
  obtain ⟨h1, h2⟩ := ruleL_len h
  have := sum_le h1
  have h3 := h.r.many
  rw [h2] at *
  simp only [List.length_singleton]
  exact Nat.le_trans (show _ ≤ 10 * 76 by omega) (by decide)
theorem ruleT_len {M : Int} {R : List (List Int)} {A : List Int} (h : SmallRule M R A) : (ruleT M R A).length ≤ (R.length + 2) * 76 := by
  obtain ⟨h1, h2⟩ := ruleL_len h
  have := joinL_len (z := [10]) h1
  rw [h2] at this
  exact this
theorem row_small {c : List Nat} {xs : List Int} (hc : c.length ≤ 8) (h : smallR xs) : c.length + (rowT xs).length ≤ lim := by
  have := rowT_len h
  have := h.1
  exact Nat.le_trans (show _ ≤ 600 by omega) (by decide)
theorem sp_rule_lines (n : Nat) (M : Int) (R : List (List Int)) (A : List Int) (m : Mem) (h : SmallRule M R A) (hm : nrM m = true) : callF Fs Gv (n + 2) i_rule_lines [ruleD M R A] m = .ok (.lst ((ruleL M R A).map fun p => tx p)) m := by
  refine call_ret' (t := []) (F := f_rule_lines) rfl rfl rfl hm ?_ (nrs_all fun d hd => by obtain ⟨p, _, rfl⟩ := List.mem_map.mp hd; rfl)
  have hlc := lc_mapA (l := R) (g0 := rowD) (g := asgG (.nm 1)) (tst := evC (callF Fs Gv (n + 1)) Gv .nil) (el := evE (callF Fs Gv (n + 1)) Gv (.bin false .Add (.glo g_ROW) (.call i_row_in_text (.cons (.var 1) .nil)))) (σ := [some (ruleD M R A), none]) (m := m) (fun r => tx (cRow ++ rowT r)) (fun r hr => ⟨_, asg_nm, by simp, by
    simp [gv_ROW, sp_row_in_text n r m (h.r.rows r hr).1 hm, row_small (c := cRow) (by decide) (h.r.rows r hr).1]⟩) (Nat.le_trans h.r.many (by decide))
  have hM : cModulus.length + (numT M).length ≤ lim := by
    have := numT_len (i := M) (k := 6) (by decide) h.m
    have : cModulus.length = 8 := rfl
    exact Nat.le_trans (show _ ≤ 600 by omega) (by decide)
  have hA := row_small (c := cAdded) (by decide) h.a.1
  have l1 : 1 + R.length ≤ lim := Nat.le_trans (show _ ≤ 9 by have := h.r.many; omega) (by decide)
  have l2 : 1 + R.length + 1 ≤ lim := Nat.le_trans (show _ ≤ 10 by have := h.r.many; omega) (by decide)
  have l3 : R.length + 1 ≤ lim := Nat.le_trans (show _ ≤ 10 by have := h.r.many; omega) (by decide)
  have l4 : R.length + 1 + 1 ≤ lim := Nat.le_trans (show _ ≤ 10 by have := h.r.many; omega) (by decide)
  have l0 : 1 ≤ lim := by decide
  simp [f_rule_lines, slots, gv_MODULUS, gv_ADDED, L2.atI, L2.ixN, log_small h.m, hM, hlc, sp_row_in_text n A m h.a.1 hm, hA, add_lsts, l0, l1, l2, l3, l4, ruleL, Function.comp_def]
theorem sp_rule_text (n : Nat) (d : D) (M : Int) (R : List (List Int)) (A : List Int) (m : Mem) (g : Good M R A) (h : SmallRule M R A) (hd : Few d 3) (e : tupD d = ruleD M R A) (hm : nrM m = true) : callF Fs Gv (n + 8) i_rule_text [d] m = .ok (tx (ruleT M R A)) m := by
  refine call_ret' (t := []) (F := f_rule_text) rfl rfl rfl hm ?_ rfl
  have hj := join_d (z := [10]) (l := ruleL M R A) (m := m) (join_rule h)
  simp [f_rule_text, slots, c_nl, mthOk, sp_sure_rule n d M R A m g hd e hm, sp_rule_lines (n + 5) M R A m h hm, hj, ruleT]
theorem sp__law_rule_text (n : Nat) (M : Int) (R : List (List Int)) (A : List Int) (m : Mem) (h : SmallRule M R A) (hm : nrM m = true) : callF Fs Gv (n + 2) i__law_rule_text [ruleD M R A, tx [10]] m = .ok (tx (ruleT M R A)) m := by
  refine call_ret' (t := []) (F := f__law_rule_text) rfl rfl rfl hm ?_ rfl
  have hlc := lc_mapA (l := R) (g0 := rowD) (g := asgG (.nm 3)) (tst := evC (callF Fs Gv (n + 1)) Gv .nil) (el := evE (callF Fs Gv (n + 1)) Gv (.bin false .Add (.cst (.str "row ")) (.call i__law_row_text (.cons (.var 3) .nil)))) (σ := [some (ruleD M R A), some (tx [10]), none, none]) (m := m) (fun r => tx (cRow ++ rowT r)) (fun r hr => ⟨_, asg_nm, by simp, by
    simp [c_Row, sp__law_row_text n r m (h.r.rows r hr).1 hm, row_small (c := cRow) (by decide) (h.r.rows r hr).1]⟩) (Nat.le_trans h.r.many (by decide))
  have hM : cModulus.length + (numT M).length ≤ lim := by
    have := numT_len (i := M) (k := 6) (by decide) h.m
    have : cModulus.length = 8 := rfl
    exact Nat.le_trans (show _ ≤ 600 by omega) (by decide)
  have hA := row_small (c := cAdded) (by decide) h.a.1
  have l1 : 1 + R.length ≤ lim := Nat.le_trans (show _ ≤ 9 by have := h.r.many; omega) (by decide)
  have l2 : 1 + R.length + 1 ≤ lim := Nat.le_trans (show _ ≤ 10 by have := h.r.many; omega) (by decide)
  have l3 : R.length + 1 ≤ lim := Nat.le_trans (show _ ≤ 10 by have := h.r.many; omega) (by decide)
  have l4 : R.length + 1 + 1 ≤ lim := Nat.le_trans (show _ ≤ 10 by have := h.r.many; omega) (by decide)
  have l0 : 1 ≤ lim := by decide
  have hj := join_d (z := [10]) (l := ruleL M R A) (m := m) (join_rule h)
  unfold ruleL at hj
  simp [Function.comp_def] at hj
  simp [f__law_rule_text, slots, c_Modulus, c_Added, c_nl, L2.atI, L2.ixN, log_small h.m, hM, hlc, sp__law_row_text n A m h.a.1 hm, hA, add_lsts, l0, l1, l2, l3, l4, ruleT, ruleL, mthOk, hj]
/-! ### texts read -/
theorem sp_sure_text (n : Nat) (t : List Nat) (m : Mem) (hm : nrM m = true) : callF Fs Gv (n + 1) i_sure_text [tx t] m = .ok (tx t) m := by
  refine call_ret' (t := []) (F := f_sure_text) rfl rfl rfl hm ?_ rfl
  simp [f_sure_text, slots]
def dRx (c : Nat) (fs : List D) (o : Option (List Int)) (m : Mem) : XR D := match o with
  | none => .exc c fs m
  | some xs => .ok (rowD xs) m
theorem isNon_dR (o : Option (List Int)) : isNon (dR o) = o.isNone := by cases o <;> rfl
theorem sp_read_row (n : Nat) (t : List Nat) (m : Mem) (ht : t.length ≤ 640) (ho : okL t = true) (hm : nrM m = true) : callF Fs Gv (n + 4) i_read_row [tx t] m = dRx x_BadText [] (rowR t) m := by
  have h1 := sp_row_read n t m ht ho hm
  have h0 := sp_sure_text (n + 2) t m hm
  cases hr : rowR t with
  | none =>
    rw [hr] at h1
    refine call_exc' (t := []) (σ := [some (tx t), some .non]) (F := f_read_row) rfl rfl hm ?_ rfl
    simp [f_read_row, slots, h0, h1, dR, isNon]
  | some xs =>
    rw [hr] at h1
    refine call_ret' (t := []) (F := f_read_row) rfl rfl rfl hm ?_ (nrs_int xs)
    simp [f_read_row, slots, h0, h1, dR, isNon]
abbrev linesD (L : List (List Nat)) : D := .lst (L.map fun p => tx p)
def lineR (L : List (List Nat)) (k : Nat) (h : List Nat) : Option (List Int) := match L[k]? with
  | none => none
  | some l => if l.take h.length = h then (match rowR (l.drop h.length) with
    | some xs => if xs = [] then none else some xs
    | none => none) else none
/-- lines short, of good signs -/
structure Lines (L : List (List Nat)) : Prop where
  len : L.length ≤ 641
  it : ∀ l ∈ L, l.length ≤ 640 ∧ okL l = true
theorem at_lines {L : List (List Nat)} {k : Nat} {l : List Nat} (h : L[k]? = some l) : L2.atI (L.map fun p => tx p) (k : Int) = some (tx l) := by
  have hk := (List.getElem?_eq_some_iff.mp h).1
  rw [atI_nat (by rw [List.length_map]; exact hk), List.getElem?_map, h]
  rfl
theorem sp_line_read (n : Nat) (L : List (List Nat)) (k : Nat) (h : List Nat) (m : Mem) (hL : Lines L) (hk : k ≤ L.length) (hh : h.length ≤ 640) (oh : okL h = true) (hm : nrM m = true) : callF Fs Gv (n + 4) i_line_read [linesD L, .int k, tx h] m = dRx x_BadLine [.int k] (lineR L k h) m := by
  have lh := lim640 hh
  unfold lineR
  cases hl : L[k]? with
  | none =>
    have e : k = L.length := by
      have := List.getElem?_eq_none_iff.mp hl
      omega
    refine call_exc' (t := []) (σ := [some (linesD L), some (.int k), some (tx h), none]) (F := f_line_read) rfl rfl hm ?_ rfl
    simp [f_line_read, slots, e]
  | some l =>
    have hkl := (List.getElem?_eq_some_iff.mp hl).1
    have hlm := List.mem_of_getElem? hl
    obtain ⟨l1, l2⟩ := hL.it l hlm
    have ne : ¬ ((k : Int) = (L.length : Int)) := by omega
    have ha := at_lines hl
    have c1 : cutL l none (some (h.length : Int)) = l.take h.length := cut_take l h.length
    have c2 : cutL l (some (h.length : Int)) none = l.drop h.length := cut_drop l h.length
    have e1 := fun m => eq_tx (m := m) (okL_take h.length l2) oh
    have ll := lim640 l1
    by_cases hp : l.take h.length = h
    · have rr := sp_row_read n (l.drop h.length) m (by rw [List.length_drop]; omega) (okL_drop h.length l2) hm
      simp only [hp, if_true] at *
      cases hr : rowR (l.drop h.length) with
      | none =>
        rw [hr] at rr
        refine call_exc' (t := []) (σ := [some (linesD L), some (.int k), some (tx h), some .non]) (F := f_line_read) rfl rfl hm ?_ rfl
        simp [f_line_read, slots, ne, ha, lh, ll, c1, c2, e1, hp, rr, dR, isNon]
      | some xs =>
        rw [hr] at rr
        have e0 := fun m => eq_ints0 (xs := xs) (m := m)
        by_cases hx : xs = []
        · simp only [hx, if_true]
          refine call_exc' (t := []) (σ := [some (linesD L), some (.int k), some (tx h), some (rowD [])]) (F := f_line_read) rfl rfl hm ?_ rfl
          rw [hx] at rr
          have e1' : ∀ m, eqD m (.tup []) (.tup []) = some true := fun m => eq_tup0 (xs := []) rfl rfl
          simp [f_line_read, slots, ne, ha, lh, ll, c1, c2, e1, hp, rr, dR, isNon, e1']
        · simp only [hx, if_false]
          refine call_ret' (t := []) (F := f_line_read) rfl rfl rfl hm ?_ (nrs_int xs)
          simp [f_line_read, slots, ne, ha, lh, ll, c1, c2, e1, hp, rr, dR, isNon, e0, hx]
    · simp only [hp, if_false]
      refine call_exc' (t := []) (σ := [some (linesD L), some (.int k), some (tx h), none]) (F := f_line_read) rfl rfl hm ?_ rfl
      simp [f_line_read, slots, ne, ha, lh, ll, c1, e1, hp]
theorem sp_sure_line_of (n : Nat) (xs : List Int) (M many k : Int) (m : Mem) (h : xs.length ≤ 1000) (hm : nrM m = true) : callF Fs Gv (n + 5) i_sure_line_of [rowD xs, .int M, .int many, .int k] m = dRx x_BadLine [.int k] (if allB (inB M) xs = true ∧ (xs.length : Int) = many then some xs else none) m := by
  have h1 := sp_are_below n xs M m h hm
  by_cases h2 : allB (inB M) xs = true ∧ (xs.length : Int) = many
  · simp only [h2, and_self, if_true]
    refine call_ret' (t := []) (F := f_sure_line_of) rfl rfl rfl hm ?_ (nrs_int xs)
    simp [f_sure_line_of, slots, h1, h2.1, h2.2]
  · simp only [h2, if_false]
    refine call_exc' (t := []) (σ := [some (rowD xs), some (.int M), some (.int many), some (.int k)]) (F := f_sure_line_of) rfl rfl hm ?_ rfl
    cases ha : allB (inB M) xs with
    | false => simp [f_sure_line_of, slots, h1, ha]
    | true =>
      have : ¬ ((xs.length : Int) = many) := fun z => h2 ⟨ha, z⟩
      simp [f_sure_line_of, slots, h1, ha, this]
end K53

set_option Elab.async false
set_option linter.all false
set_option maxRecDepth 100000
set_option maxHeartbeats 400000
namespace K53
open G
theorem append_top {m : Mem} {xs : List D} {y : D} : mthD .append (.ref m.length) [y] (m ++ [.lst xs]) = if xs.length < lim then some (.non, m ++ [.lst (xs ++ [y])]) else none := by
  simp [mthD]
theorem nrM_top {m : Mem} {xs : List D} (h : nrM m = true) (hx : nrs xs = true) : nrM (m ++ [.lst xs]) = true := by
  unfold nrM at *
  rw [List.all_append, h]
  simp [nrO, hx]
theorem nrs_rows (R : List (List Int)) : nrs (R.map rowD) = true := lays_nr (lays_rows R)
theorem rowR_len {w : List Nat} {xs : List Int} (h : rowR w = some xs) (hw : w.length ≤ 640) : xs.length ≤ 641 := by
  unfold rowR at h
  split at h
  · cases h; exact Nat.zero_le _
  · have e := congrArg List.length (oAll_some h)
    rw [List.length_map, List.length_map] at e
    have := spl_count (S := [32]) _ 0 [] w (Nat.le_refl _)
    omega
theorem lineR_some {L : List (List Nat)} {k : Nat} {h : List Nat} {xs : List Int} (hL : Lines L) (e : lineR L k h = some xs) : k < L.length ∧ xs ≠ [] ∧ xs.length ≤ 641 ∧ L[k]? = some (h ++ rowT xs) := by
  unfold lineR at e
  split at e
  · cases e
  · rename_i l hl
    split at e
    · rename_i hp
      split at e
      · rename_i ys hr
        split at e
        · cases e
        · rename_i hne
          cases e
          have hl2 := (hL.it l (List.mem_of_getElem? hl)).1
          refine ⟨(List.getElem?_eq_some_iff.mp hl).1, hne, rowR_len hr (by rw [List.length_drop]; omega), ?_⟩
          rw [hl, rowR_back hr]
          have := List.take_append_drop h.length l
          rw [hp] at this
          rw [this]
      · cases e
    · cases e
def rowsR (L : List (List Nat)) (M : Int) (many : Nat) : Nat → Nat → Except Nat (List (List Int))
  | 0, _ => .ok []
  | j + 1, k => match lineR L k cRow with
    | none => .error k
    | some r => if allB (inB M) r = true ∧ r.length = many then (match rowsR L M many j (k + 1) with
      | .ok R => .ok (r :: R)
      | .error e => .error e) else .error k
end K53

set_option Elab.async false
set_option linter.all false
set_option maxRecDepth 100000
set_option maxHeartbeats 400000
namespace K53
open G
def ruleX (L : List (List Nat)) : Except Nat (Int × List (List Int) × List Int) := match lineR L 0 cModulus with
  | none => .error 0
  | some hd => if hd.length = 1 ∧ ¬ hd.headD 0 < 2 then (match lineR L 1 cRow with
      | none => .error 1
      | some r1 => match rowsR L (hd.headD 0) r1.length r1.length 1 with
        | .error k => .error k
        | .ok R => match lineR L (r1.length + 1) cAdded with
          | none => .error (r1.length + 1)
          | some a => if allB (inB (hd.headD 0)) a = true ∧ a.length = r1.length then (if r1.length + 2 < L.length then .error (r1.length + 2) else .ok (hd.headD 0, R, a)) else .error (r1.length + 1)) else .error 0
def ruleR (t : List Nat) : Except Nat (Int × List (List Int) × List Int) := ruleX (TL.spl [10] 0 [] t)
def dRule (r : Except Nat (Int × List (List Int) × List Int)) (m : Mem) : XR D := match r with
  | .error k => .exc x_BadLine [.int (k : Int)] m
  | .ok (M, R, A) => .ok (ruleD M R A) m
theorem lines_of {t : List Nat} (ht : t.length ≤ 640) (ho : okL t = true) : Lines (TL.spl [10] 0 [] t) := by
  refine ⟨?_, (words_ok ht ho).1⟩
  have := spl_count (S := [10]) _ 0 [] t (Nat.le_refl _)
  omega
/-- what is read stands in the lines -/
theorem rowsR_some {L : List (List Nat)} {M : Int} {many : Nat} (hL : Lines L) : ∀ (j k : Nat) (R : List (List Int)), rowsR L M many j k = .ok R → R.length = j ∧ (∀ r ∈ R, r.length = many ∧ allB (inB M) r = true) ∧ ∀ i, i < j → ∃ r, R[i]? = some r ∧ L[k + i]? = some (cRow ++ rowT r)
  | 0, k, R, h => by
    simp only [rowsR] at h
    cases h
    exact ⟨rfl, fun r hr => absurd hr List.not_mem_nil, fun i hi => absurd hi (Nat.not_lt_zero _)⟩
  | j + 1, k, R, h => by
    simp only [rowsR] at h
    split at h
    · cases h
    · rename_i r hr
      split at h
      · rename_i hc
        split at h
        · rename_i R' hR
          cases h
          obtain ⟨a1, a2, a3⟩ := rowsR_some hL j (k + 1) R' hR
          refine ⟨by rw [List.length_cons, a1], fun x hx => ?_, fun i hi => ?_⟩
          · rcases List.mem_cons.mp hx with rfl | hx
            · exact ⟨hc.2, hc.1⟩
            · exact a2 x hx
          · cases i with
            | zero => exact ⟨r, rfl, (lineR_some hL hr).2.2.2⟩
            | succ i =>
              obtain ⟨x, x1, x2⟩ := a3 i (Nat.lt_of_succ_lt_succ hi)
              exact ⟨x, by simpa using x1, by rw [← x2]; congr 1; omega⟩
        · cases h
      · cases h
/-- a rule that is read is written as it stood -/
theorem ruleX_back {L : List (List Nat)} {M : Int} {R : List (List Int)} {A : List Int} (hL : Lines L) (h : ruleX L = .ok (M, R, A)) : ruleL M R A = L ∧ 2 ≤ M ∧ R ≠ [] ∧ (∀ r ∈ R, r.length = R.length ∧ allB (inB M) r = true) ∧ A.length = R.length ∧ allB (inB M) A = true := by
  unfold ruleX at h
  split at h
  · cases h
  · rename_i hd h0
    split at h
    · rename_i hc
      split at h
      · cases h
      · rename_i r1 h1
        split at h
        · cases h
        · rename_i R' h2
          split at h
          · cases h
          · rename_i a h3
            split at h
            · rename_i h4
              split at h
              · cases h
              · rename_i h5
                cases h
                obtain ⟨b1, b2, b3⟩ := rowsR_some hL _ _ _ h2
                obtain ⟨c1, c2, c3, c4⟩ := lineR_some hL h0
                obtain ⟨d1, d2, d3, d4⟩ := lineR_some hL h1
                obtain ⟨e1, e2, e3, e4⟩ := lineR_some hL h3
                have hr1 : r1.length ≠ 0 := fun z => d2 (List.length_eq_zero_iff.mp z)
                refine ⟨?_, by omega, fun z => hr1 (by rw [← b1, z]; rfl), fun r hr => ⟨by rw [(b2 r hr).1, b1], (b2 r hr).2⟩, by rw [h4.2, b1], h4.1⟩
                have hlen : L.length = R.length + 2 := by omega
                obtain ⟨x, rfl⟩ : ∃ x, hd = [x] := List.length_eq_one_iff.mp hc.1
                have hx : rowT [x] = numT x := rfl
                rw [hx] at c4
                apply List.ext_getElem?
                intro i
                unfold ruleL
                by_cases hi0 : i = 0
                · subst hi0
                  rw [c4]
                  rfl
                · obtain ⟨k, rfl⟩ : ∃ k, i = k + 1 := ⟨i - 1, by omega⟩
                  rw [List.cons_append, List.getElem?_cons_succ]
                  by_cases hk : k < R.length
                  · obtain ⟨r, g1, g2⟩ := b3 k (by omega)
                    rw [List.getElem?_append_left (by rw [List.length_map]; exact hk), List.getElem?_map, g1, show k + 1 = 1 + k from Nat.add_comm _ _, g2]
                    rfl
                  · by_cases hk2 : k = R.length
                    · subst hk2
                      rw [List.getElem?_append_right (by rw [List.length_map]; exact Nat.le_refl _), List.length_map, Nat.sub_self, show R.length + 1 = r1.length + 1 by rw [b1], e4]
                      rfl
                    · rw [List.getElem?_eq_none (by simp; omega), List.getElem?_eq_none (by omega)]
            · cases h
    · cases h
end K53

set_option Elab.async false
set_option linter.all false
set_option maxRecDepth 100000
set_option maxHeartbeats 400000
namespace K53
open G
theorem ruleT_back {t : List Nat} {M : Int} {R : List (List Int)} {A : List Int} (ht : t.length ≤ 640) (ho : okL t = true) (h : ruleR t = .ok (M, R, A)) : ruleT M R A = t := by
  obtain ⟨h1, _⟩ := ruleX_back (lines_of ht ho) h
  unfold ruleT
  rw [h1, join_spl (by simp) _ _ _ (Nat.le_refl _), List.nil_append]
end K53

set_option maxHeartbeats 400000
namespace K53
open G PySem
local macro_rules
  | `(tactic| ktf_call "s0") => `(tactic| first
    | refine w_var rfl ?_
    | refine ws_cons ?_
    | refine ws_nil ?_
    | refine w_cst rfl ?_
    | refine w_bin ?_
    | refine w_cmp ?_
    | refine w_call ?_
    | refine w_idx ?_
    | refine w_blt ?_
    | refine w_glo rfl ?_
    | refine z_cons ?_
    | refine z_nil ?_
    | refine z_nm ?_
    | refine z_iff ?_
    | refine z_ret ?_
    | refine z_ex ?_
    | refine z_asg ?_
    | refine z_par ?_
    | refine z_rse ?_
    | refine w_tup ?_
    | refine lq_lit rfl ?_
    | refine w_isi ?_
    | refine w_not ?_
    | refine w_mth ?_
    | refine w_slc ?_
    | refine wo_no ?_
    | refine wo_so ?_
    | refine i_int ?_
    | refine i_bl ?_
    | refine w_neg ?_
    | refine w_lstF ?_
    | refine w_lstT ?_
    | refine w_lcF ?_
    | refine w_lcT ?_
    | refine wi_seq ?_
    | refine wi_rng ?_
    | refine wi_zip ?_
    | refine wi_enu ?_
    | with_reducible refine o_some ?_
    | refine pr_2 ?_
    | refine pr_3 ?_
    | refine t_nm ?_
    | refine t_tp ?_
    | refine t_sub ?_
    | refine ts_cons ?_
    | refine ts_nil ?_
    | refine z_for ?_
    | refine z_pass ?_
    | refine z_retN ?_
    | refine z_brk ?_
    | refine z_cnt ?_
    | refine ok_q rfl ?_
    | refine p_add ?_
    | refine p_sub ?_
    | refine p_modP (by omega) ?_
    | refine p_divP (by omega) ?_
    | refine p_mul (mulOk_l (by omega)) ?_
    | refine p_mul (mulOk_r (by omega)) ?_
    | refine p_addT (by simp only [List.length_map, List.length_cons, List.length_nil, List.length_append, List.length_replicate, List.length_range]; omega) ?_
    | refine p_addL (by simp only [List.length_map, List.length_cons, List.length_nil, List.length_append, List.length_replicate, List.length_range]; omega) ?_
    | refine p_blt rfl ?_
    | refine o_lt ?_
    | refine o_le ?_
    | refine o_gt ?_
    | refine o_ge ?_
    | refine ro_1 (by first | omega | (simp only [List.length_map]; omega)) ?_
    | refine ro_2 (by first | omega | (simp only [List.length_map]; omega)) ?_
    | refine sr_tup ?_
    | refine sr_lst ?_
    | refine sr_scr ?_
    | refine en_lst ?_
    | refine en_scr ?_
    | refine o_eqi ?_
    | refine o_nei ?_
    | refine o_isn ?_
    | refine o_isnn ?_
    | refine o_tr rfl ?_
    | refine o_isi rfl ?_
    | refine x_lit rfl ?_
    | refine x_hd ?_
    | refine x_hdL ?_
    | refine p_slc rfl ?_
    | refine bw_t rfl ?_
    | refine bw_f rfl ?_
    | apply w_chn
    | refine z_try ?_
    | with_reducible refine lp_ret ?_
    | with_reducible refine lp_exc ?_
    | with_reducible refine lp_brk ?_
    | with_reducible refine lp_cnt ?_
    | with_reducible refine ty_ret ?_
    | exact ⟨rfl, rfl⟩)
local macro_rules
  | `(tactic| ktf_call "c") => `(tactic| (apply wl_map; (case hS => first | exact sa_S | exact sa_N0 | exact sa_N | exact sa_Z sa_S sa_S | exact sa_E sa_S | exact sa_D); (case hσ => rfl); (case hl => first | omega | assumption | (simp only [List.length_map, List.length_range, List.length_cons, List.length_nil]; omega)); intro a ha; refine ⟨_, rfl, ?_⟩))
local macro_rules
  | `(tactic| ktf_call "s") => `(tactic| first
    | ktf_call "s0"
    | apply w_orB
    | apply w_andB
    | intro hb)
local macro_rules
  | `(tactic| ktf_call "sp") => `(tactic| first
    | ktf_call "s0"
    | refine w_orP ?_
    | refine w_andP ?_
    | refine w_ife ?_)
local macro_rules
  | `(tactic| ktf_call "p") => `(tactic| repeat ktf_call "sp")
local macro_rules
  | `(tactic| ktf_call "w") => `(tactic| repeat ktf_call "s")
local macro_rules
  | `(tactic| ktf_call "b") => `(tactic| (refine ⟨fun hb => ?_, fun hb => ?_⟩ <;> (try simp only [decide_eq_true_eq, decide_eq_false_iff_not, Bool.not_eq_true', Bool.not_eq_false', Bool.and_eq_true, Bool.or_eq_true, Int.not_lt, Int.not_le, not_true_eq_false, not_false_eq_true, Bool.true_eq_false, Bool.false_eq_true, Bool.not_true, Bool.not_false] at hb) <;> try omega))
local macro_rules
  | `(tactic| ktf_call "m") => `(tactic| simp only [List.set_cons_zero, List.set_cons_succ, slots, List.map_cons, List.map_nil, List.length_cons, List.length_nil, List.replicate_succ, List.replicate_zero, List.cons_append, List.nil_append, Nat.reduceAdd, Nat.reduceSub])
local macro_rules
  | `(tactic| k_search $t) => `(tactic| refine w_ok $t ?_)
theorem cl_of {P : List Fn} {Gl : List D} {f n : Nat} {ds : List D} {m : Mem} {r : XR D} (d : Nat) (h : ∀ k, callF P Gl (k + d) f ds m = r) (hn : d ≤ n) : Cl P Gl n f ds m = r := by
  obtain ⟨k, rfl⟩ : ∃ k, n = k + d := ⟨n - d, by omega⟩
  rw [Cl_eq]; exact h k
theorem xp_dRx {c : Nat} {fs : List D} {o : Option (List Int)} {m : Mem} {Q : D → Mem → Prop} {X : XK} (h0 : o = none → X c fs m) (h1 : ∀ xs, o = some xs → Q (rowD xs) m) : xp (dRx c fs o m) Q X := by
  cases o with
  | none => exact h0 rfl
  | some xs => exact h1 xs rfl
theorem cst_nl : cstD (.str "\n") = some (tx [10]) := by rw [cst_str, c_nl]
theorem p_split {t : List Nat} {s : Nat} {S : List Nat} {m : Mem} {Q : D → Mem → Prop} (h : ∀ c ∈ s :: S, c < 256) (hl : t.length ≤ 16777214) (q : Q (.lst ((TL.spl (s :: S) 0 [] t).map fun p => tx p)) m) : pMth .split (tx t) [tx (s :: S)] m Q := by rw [pMth_eq]; exact p_of (split_d h (show t.length + 2 ≤ 16777216 by omega)) q
local macro_rules
  | `(tactic| ktf_call "t") => `(tactic| repeat first
    | refine w_cst cst_nl ?_
    | refine w_glo gv_MODULUS ?_
    | refine w_glo gv_ROW ?_
    | refine w_glo gv_ADDED ?_
    | refine w_glo gv_NONE ?_
    | refine w_glo gv_BETWEEN ?_
    | refine w_glo gv_NOTHING ?_
    | ktf_call "s")
theorem sa_N1 {k : Nat} {m : Mem} : SrcAt m (srcN 1 k 1) ((List.range k).map fun j : Nat => D.int ((j + 1 : Nat) : Int)) := by
  have := sa_N (lo := 1) (k := k) (m := m)
  have e : (fun j : Nat => D.int (1 + (j : Int))) = fun j : Nat => D.int ((j + 1 : Nat) : Int) := by funext j; congr 1; omega
  rw [e] at this; exact this
def appR (acc : List (List Int)) : Except Nat (List (List Int)) → Except Nat (List (List Int))
  | .ok R => .ok (acc ++ R)
  | .error e => .error e
theorem rowsR_succ {L : List (List Nat)} {M : Int} {many j k : Nat} (hj : j < many) : rowsR L M many (many - j) k = match lineR L k cRow with
    | none => .error k
    | some r => if allB (inB M) r = true ∧ r.length = many then appR [r] (rowsR L M many (many - (j + 1)) (k + 1)) else .error k := by
  obtain ⟨i, hi⟩ : ∃ i, many - j = i + 1 := ⟨many - j - 1, by omega⟩
  rw [hi, show many - (j + 1) = i by omega, rowsR]
  cases lineR L k cRow with
  | none => rfl
  | some r =>
    simp only
    split
    · cases rowsR L M many i (k + 1) <;> rfl
    · rfl
theorem nrs_rowsM {R : List (List Int)} {m : Mem} (hm : nrM m = true) : nrM (m ++ [.lst (R.map rowD)]) = true := by
  rw [nrM_app, hm, nrM_cons, nrM_nil]
  simp only [nrO, nrs_rows, Bool.and_self]
theorem sp_read_rule {n : Nat} {t : List Nat} {m : Mem} (hn : 6 < n) (ht : t.length ≤ 640) (ho : okL t = true) (hm : nrM m = true) : Cl Fs Gv n i_read_rule [tx t] m = dRule (ruleR t) m := by
  have hL := lines_of ht ho
  refine w_def (F := f_read_rule) hn rfl rfl rfl hm fun k hk => ?_
  dsimp only [f_read_rule]
  ktf_call "m"
  ktf_call "t"
  refine w_ok (cl_of 1 (fun k => sp_sure_text k t m hm) (by omega)) ?_
  ktf_call "t"
  refine p_split (by decide) (by omega) ?_
  ktf_call "t"
  refine w_xr (cl_of 4 (fun k => sp_line_read k _ 0 cModulus m hL (Nat.zero_le _) (by decide) (by decide) hm) (by omega)) (xp_dRx (fun h0 => ?_) fun hd h0 => ?_)
  · exact e_excX (by simp only [ruleR, ruleX, h0, dRule]) rfl ex_app0
  obtain ⟨x, r, rfl⟩ := List.exists_cons_of_ne_nil (lineR_some hL h0).2.1
  ktf_call "t"
  refine ⟨fun hb => ?_, fun hb => ?_⟩
  · ktf_call "t"
    refine e_excX ?_ rfl ex_app0
    have : ¬ ((x :: r).length = 1 ∧ ¬ (x :: r).headD 0 < 2) := by
      simp at hb ⊢
      intro z; subst z
      simpa using hb
    simp only [ruleR, ruleX, h0, if_neg this, dRule]; rfl
  have hc : (x :: r).length = 1 ∧ ¬ (x :: r).headD 0 < 2 := by
    simp at hb ⊢
    have h1 := hb.1
    have h2 := hb.2
    exact ⟨List.length_eq_zero_iff.mp (by omega), by omega⟩
  obtain rfl : r = [] := List.length_eq_zero_iff.mp (by simpa using hc.1)
  ktf_call "t"
  refine w_xr (cl_of 4 (fun k => sp_line_read k _ 1 cRow m hL (by have := (lineR_some hL h0).1; omega) (by decide) (by decide) hm) (by omega)) (xp_dRx (fun h1 => ?_) fun r1 h1 => ?_)
  · exact e_excX (by simp only [ruleR, ruleX, h0, if_pos hc, h1, dRule]) rfl ex_app0
  have hl1 := (lineR_some hL h1).2.2.1
  ktf_call "t"
  rw [show ((((List.map D.int r1).length : Nat) : Int) + 1 - 1).toNat = r1.length by rw [List.length_map]; omega]
  ktf_call "m"
  have hq1 := (lineR_some hL h1).1
  have hc2 : [x].length = 1 ∧ ¬ x < 2 := hc
  refine f_inv (l := List.range r1.length) (g := fun j : Nat => D.int ((j + 1 : Nat) : Int)) (fun i σ m' => ∃ acc o, acc.length = i ∧ i + 1 ≤ (TL.spl [10] 0 [] t).length ∧ σ = [some (tx t), some (linesD (TL.spl [10] 0 [] t)), some (rowD [x]), some (rowD r1), o, none, some (.int r1.length), some (.ref m.length)] ∧ m' = m ++ [.lst (acc.map rowD)] ∧ rowsR (TL.spl [10] 0 [] t) x r1.length r1.length 1 = appR acc (rowsR (TL.spl [10] 0 [] t) x r1.length (r1.length - i) (i + 1))) (fun _ _ _ _ => sa_N1) ⟨[], none, rfl, by omega, by simp only [List.map_cons, List.map_nil, List.length_map], rfl, by cases rowsR (TL.spl [10] 0 [] t) x r1.length (r1.length - 0) (0 + 1) <;> rfl⟩ ?_ ?_
  · rintro i σ m' a ⟨acc, o, hal, hil, rfl, rfl, hrow⟩ ha
    obtain ⟨ha1, rfl⟩ : a < r1.length ∧ a = i := by
      have h := List.getElem?_eq_some_iff.mp ha
      obtain ⟨h, e⟩ := h
      simp at h e
      omega
    refine ⟨_, rfl, ?_⟩
    have hm1 : nrM (m ++ [.lst (acc.map rowD)]) = true := nrs_rowsM hm
    ktf_call "t"
    have hrow2 := rowsR_succ (L := TL.spl [10] 0 [] t) (M := x) (many := r1.length) (k := a + 1) ha1
    refine w_xr (cl_of 4 (fun k => sp_line_read k _ (a + 1) cRow _ hL hil (by decide) (by decide) hm1) (by omega)) (xp_dRx (fun h2 => ?_) fun r h2 => ?_)
    · rw [h2] at hrow2
      rw [hrow2] at hrow
      exact lp_exc <| e_excX (by simp only [ruleR, ruleX, h0, if_pos hc2, h1, List.headD_cons, hrow, appR, dRule]) rfl ex_app1
    rw [h2] at hrow2
    have hr1 := (lineR_some hL h2).2.2.1
    have hr2 := (lineR_some hL h2).1
    ktf_call "t"
    refine w_xr (cl_of 5 (fun k => sp_sure_line_of k r x r1.length ((a + 1 : Nat) : Int) _ (by omega) hm1) (by omega)) (xp_dRx (fun h3 => ?_) fun r' h3 => ?_)
    · have h3 : ¬ (allB (inB x) r = true ∧ r.length = r1.length) := fun z => by rw [if_pos ⟨z.1, by rw [z.2]⟩] at h3; cases h3
      simp only [if_neg h3] at hrow2
      rw [hrow2] at hrow
      exact lp_exc <| e_excX (by simp only [ruleR, ruleX, h0, if_pos hc2, h1, List.headD_cons, hrow, appR, dRule]) rfl ex_app1
    have h4 : allB (inB x) r = true ∧ r.length = r1.length := Decidable.by_contra fun z => by rw [if_neg (fun y => z ⟨y.1, by have := y.2; omega⟩)] at h3; cases h3
    rw [if_pos ⟨h4.1, by rw [h4.2]⟩] at h3
    cases h3
    simp only [if_pos h4] at hrow2
    rw [hrow2] at hrow
    ktf_call "t"
    refine p_append (by rw [m_get0]; rfl) (by rw [List.length_map]; omega) ?_
    ktf_call "t"
    refine ⟨acc ++ [r], some (.int ((a + 1 : Nat) : Int)), by simp [hal], by omega, by simp only [List.set_cons_zero, List.set_cons_succ], by rw [m_set0]; simp, ?_⟩
    rw [hrow]
    cases rowsR (TL.spl [10] 0 [] t) x r1.length (r1.length - (a + 1)) (a + 1 + 1) <;> simp [appR]
  · rintro σ m' ⟨acc, o, hal, hil, rfl, rfl, hrow⟩
    have hm1 : nrM (m ++ [.lst (acc.map rowD)]) = true := nrs_rowsM hm
    simp only [List.length_range] at hal hil hrow
    rw [Nat.sub_self] at hrow
    simp only [rowsR, appR, List.append_nil] at hrow
    ktf_call "t"
    refine w_xr (cl_of 4 (fun k => sp_line_read k _ (r1.length + 1) cAdded _ hL hil (by decide) (by decide) hm1) (by omega)) (xp_dRx (fun h2 => ?_) fun r h2 => ?_)
    · exact e_excX (by simp only [ruleR, ruleX, h0, if_pos hc2, h1, List.headD_cons, hrow, h2, dRule]) rfl ex_app1
    have hr1 := (lineR_some hL h2).2.2.1
    have hr2 := (lineR_some hL h2).1
    ktf_call "t"
    refine w_xr (cl_of 5 (fun k => sp_sure_line_of k r x r1.length ((r1.length + 1 : Nat) : Int) _ (by omega) hm1) (by omega)) (xp_dRx (fun h3 => ?_) fun r' h3 => ?_)
    · have h3 : ¬ (allB (inB x) r = true ∧ r.length = r1.length) := fun z => by rw [if_pos ⟨z.1, by rw [z.2]⟩] at h3; cases h3
      exact e_excX (by simp only [ruleR, ruleX, h0, if_pos hc2, h1, List.headD_cons, hrow, h2, dRule]; simp only [h3, if_false]) rfl ex_app1
    have h4 : allB (inB x) r = true ∧ r.length = r1.length := Decidable.by_contra fun z => by rw [if_neg (fun y => z ⟨y.1, by have := y.2; omega⟩)] at h3; cases h3
    rw [if_pos ⟨h4.1, by rw [h4.2]⟩] at h3
    cases h3
    ktf_call "t"
    refine ⟨fun hb => ?_, fun hb => ?_⟩
    · ktf_call "t"
      refine e_excX ?_ rfl ex_app1
      have h5 : r1.length + 2 < (TL.spl [10] 0 [] t).length := by simp at hb; omega
      simp only [ruleR, ruleX, h0, if_pos hc2, h1, List.headD_cons, hrow, h2, if_pos h4, if_pos h5, dRule]
      rfl
    · ktf_call "t"
      refine p_tupR (by rw [m_get0]; rfl) ?_
      ktf_call "t"
      have h5 : ¬ r1.length + 2 < (TL.spl [10] 0 [] t).length := by simp at hb; omega
      refine e_retX ?_ ?_ ex_app1
      · simp only [ruleR, ruleX, h0, if_pos hc2, h1, List.headD_cons, hrow, h2, if_pos h4, if_neg h5, dRule]
      · simp only [nr, nrs, nrs_rows, nrs_int, Bool.and_self]
/-! ### lengths -/
theorem joinL_length {z : List Nat} : ∀ {l : List (List Nat)}, l ≠ [] → (TL.joinL z l).length + z.length = (l.map List.length).sum + l.length * z.length
  | [], h => absurd rfl h
  | [a], _ => by simp [TL.joinL]
  | a :: b :: l, _ => by
    have := joinL_length (z := z) (l := b :: l) (by simp)
    rw [joinL_cons (by simp), List.length_append, List.length_append]
    simp only [List.map_cons, List.sum_cons, List.length_cons, Nat.add_mul, Nat.one_mul] at *
    omega
theorem digitsVal_lt : ∀ (n : Nat) (w : List Nat), w.length ≤ n → PySem.NumText.AllDigits w → PySem.NumText.digitsVal w < 10 ^ w.length
  | 0, w, h, _ => by obtain rfl := List.length_eq_zero_iff.mp (Nat.le_zero.mp h); exact Nat.zero_lt_one
  | n + 1, w, h, hd => by
    rcases List.eq_nil_or_concat w with e | ⟨v, d, e⟩
    · subst e; exact Nat.zero_lt_one
    · rw [List.concat_eq_append] at e
      subst e
      have h1 := digitsVal_lt n v (by simp at h; omega) fun x hx => hd x (List.mem_append_left _ hx)
      have h2 := hd d (by simp)
      rw [val_snoc, List.length_append, List.length_singleton, Nat.pow_succ]
      omega
theorem num_lt (i : Int) : i.natAbs < 10 ^ (numT i).length := by
  have h := digitsVal_lt _ _ (Nat.le_refl _) (TL.numL_digits i.natAbs)
  rw [TL.numL_val] at h
  refine Nat.lt_of_lt_of_le h (Nat.pow_le_pow_right (by decide) ?_)
  unfold numT
  split
  · rw [List.length_cons]; omega
  · exact Nat.le_refl _
theorem log_of_len {i : Int} (h : (numT i).length ≤ 570) : i.natAbs.log2 < 1920 := by
  by_cases h0 : i.natAbs = 0
  · rw [h0]; decide
  · have h1 : i.natAbs < 10 ^ 570 := Nat.lt_of_lt_of_le (num_lt i) (Nat.pow_le_pow_right (by decide) h)
    exact Nat.lt_of_lt_of_le ((Nat.log2_lt h0).mpr (Nat.lt_of_lt_of_le h1 (show (10 : Nat) ^ 570 ≤ 2 ^ 1919 by decide +kernel))) (by decide)
theorem mem_sum {l : List (List Nat)} {p : List Nat} (h : p ∈ l) : p.length ≤ (l.map List.length).sum := by
  induction l with
  | nil => cases h
  | cons a l ih =>
    rw [List.map_cons, List.sum_cons]
    rcases List.mem_cons.mp h with rfl | h
    · omega
    · have := ih h; omega
theorem row_len {xs : List Int} {k : Nat} (h : (rowT xs).length ≤ k) : ((xs.map numT).map List.length).sum + xs.length ≤ k + 1 := by
  unfold rowT at h
  split at h
  · rename_i e; subst e; simp
  · rename_i e
    have := joinL_length (z := [32]) (l := xs.map numT) (by simpa using e)
    simp only [List.length_singleton, Nat.mul_one, List.length_map] at this
    omega
theorem row_num {xs : List Int} {k : Nat} (h : (rowT xs).length ≤ k) : ∀ x ∈ xs, (numT x).length ≤ k + 1 := fun x hx => by
  have h1 := row_len h
  have h2 := mem_sum (List.mem_map_of_mem (f := numT) hx)
  omega
theorem cst_space : cstD (.str " ") = some (tx [32]) := by rw [cst_str, c_space]
theorem cst_dash : cstD (.str "-") = some (tx [45]) := by rw [cst_str, c_dash]
theorem cst_none : cstD (.str "none") = some (tx cNone) := by rw [cst_str, c_None]
theorem cst_between : cstD (.str " / ") = some (tx cBetween) := by rw [cst_str, c_Between]
theorem cst_modulus : cstD (.str "modulus ") = some (tx cModulus) := by rw [cst_str, c_Modulus]
theorem cst_row : cstD (.str "row ") = some (tx cRow) := by rw [cst_str, c_Row]
theorem cst_added : cstD (.str "added ") = some (tx cAdded) := by rw [cst_str, c_Added]
theorem p_str {b : Bool} {i : Int} {m : Mem} {Q : D → Mem → Prop} (h : i.natAbs.log2 < 1920) (q : Q (tx (numT i)) m) : pBlt b .str [.int i] m Q := by
  rw [pBlt_eq, str_d, if_pos h]; exact p_some q
theorem p_join {z : List Nat} {α : Type} {l : List α} {f : α → List Nat} {m : Mem} {Q : D → Mem → Prop} (h : ((l.map f).map List.length).sum + l.length * z.length ≤ 16777216) (q : Q (tx (TL.joinL z (l.map f))) m) : pMth .join (tx z) [.lst (l.map fun a => tx (f a))] m Q := by
  have e := join_d (z := z) (l := l.map f) (m := m) (by rw [List.length_map]; exact h)
  rw [List.map_map] at e
  rw [pMth_eq]
  exact p_of e q
theorem p_slcS {b : Bool} {l : List Nat} {lo hi : Option Int} {m : Mem} {Q : D → Mem → Prop} (h : l.length ≤ 16777216) (q : Q (tx (cutL l lo hi)) m) : pSlc b lo hi (tx l) m Q := by
  rw [pSlc_eq, slc_tx, if_pos (show l.length ≤ lim from h)]; exact p_some q
theorem cut_takeN (l : List Nat) (k : Nat) (e : (k : Int) = i) : cutL l none (some i) = l.take k := by rw [← e]; exact cut_take l k
theorem cut_dropN (l : List Nat) (k : Nat) (e : (k : Int) = i) : cutL l (some i) none = l.drop k := by rw [← e]; exact cut_drop l k
local macro_rules
  | `(tactic| ktf_call "ts") => `(tactic| first
    | refine w_cst cst_nl ?_
    | refine w_cst cst_space ?_
    | refine w_cst cst_dash ?_
    | refine w_cst cst_none ?_
    | refine w_cst cst_between ?_
    | refine w_cst cst_modulus ?_
    | refine w_cst cst_row ?_
    | refine w_cst cst_added ?_
    | refine w_glo gv_MODULUS ?_
    | refine w_glo gv_ROW ?_
    | refine w_glo gv_ADDED ?_
    | refine w_glo gv_NONE ?_
    | refine w_glo gv_BETWEEN ?_
    | refine w_glo gv_NOTHING ?_)
local macro_rules
  | `(tactic| ktf_call "t") => `(tactic| repeat first | ktf_call "ts" | ktf_call "s")
local macro_rules
  | `(tactic| ktf_call "tp") => `(tactic| repeat first | ktf_call "ts" | ktf_call "sp")
theorem eq_rowsn {xs : List Int} {m : Mem} : eqD m (rowD xs) (.tup []) = some (decide (xs = [])) := eq_ints0
/-- rows as they stand in a text of some length -/
theorem sp_law_row_text {n : Nat} {xs : List Int} {m : Mem} (hn : 0 < n) (h : (rowT xs).length ≤ 500) (hm : nrM m = true) : Cl Fs Gv n i__law_row_text [rowD xs] m = .ok (tx (rowT xs)) m := by
  refine w_def (F := f__law_row_text) hn rfl rfl rfl hm fun k hk => ?_
  dsimp only [f__law_row_text]
  ktf_call "m"
  have h1 := row_len h
  have h2 := row_num h
  refine z_cons (z_ret (w_ife ?_))
  ktf_call "t"
  refine o_ne eq_rowsn ?_
  ktf_call "t"
  refine ⟨fun hb => ?_, fun hb => ?_⟩
  · have hne : xs ≠ [] := by simpa using hb
    ktf_call "t"
    apply wl_map
    case hS => exact sa_S
    case hσ => rfl
    case hl => omega
    case h =>
      intro x hx
      refine ⟨_, rfl, ?_⟩
      ktf_call "t"
      refine p_str (log_of_len (by have := h2 x hx; omega)) ?_
      ktf_call "t"
    ktf_call "t"
    refine p_join (by simp only [List.length_singleton]; omega) ?_
    ktf_call "t"
    exact e_ret (by unfold rowT; rw [if_neg hne]) rfl ex_app0
  · have he : xs = [] := by simpa using hb
    subst he
    ktf_call "t"
    exact e_ret rfl rfl ex_app0

theorem joinL_mem {z : List Nat} {l : List (List Nat)} {k : Nat} (h : (TL.joinL z l).length ≤ k) : ∀ p ∈ l, p.length ≤ k := fun p hp => by
  have hne : l ≠ [] := fun e => by rw [e] at hp; cases hp
  have h1 := joinL_length (z := z) hne
  have h2 := mem_sum hp
  have h3 : z.length ≤ l.length * z.length := Nat.le_mul_of_pos_left _ (List.length_pos_iff.mpr hne)
  have h4 : ∀ l : List (List Nat), p ∈ l → p.length + (l.length - 1) * z.length ≤ (l.map List.length).sum + (l.length - 1) * z.length := fun l hp => by have := mem_sum hp; omega
  have h5 : (TL.joinL z l).length = (l.map List.length).sum + (l.length - 1) * z.length := by
    have : l.length * z.length = (l.length - 1) * z.length + z.length := by
      obtain ⟨j, hj⟩ : ∃ j, l.length = j + 1 := ⟨l.length - 1, by have := List.length_pos_iff.mpr hne; omega⟩
      rw [hj, Nat.add_sub_cancel, Nat.add_mul, Nat.one_mul]
    omega
  omega
theorem ruleT_parts {M : Int} {R : List (List Int)} {A : List Int} {k : Nat} (h : (ruleT M R A).length ≤ k) : (cModulus ++ numT M).length ≤ k ∧ (∀ r ∈ R, (cRow ++ rowT r).length ≤ k) ∧ (cAdded ++ rowT A).length ≤ k := by
  have h1 := joinL_mem h
  unfold ruleL at h1
  exact ⟨h1 _ (by simp), fun r hr => h1 _ (by simp; exact .inr (.inl ⟨r, hr, rfl⟩)), h1 _ (by simp)⟩
theorem ruleT_sum {M : Int} {R : List (List Int)} {A : List Int} {k : Nat} (h : (ruleT M R A).length ≤ k) : ((ruleL M R A).map List.length).sum + (ruleL M R A).length * 1 ≤ k + 1 := by
  have := joinL_length (z := [10]) (l := ruleL M R A) (by simp [ruleL])
  have h : (TL.joinL [10] (ruleL M R A)).length ≤ k := h
  simp only [List.length_singleton] at this
  omega
/-- a rule of any size, as it stands in a text of some length -/
theorem sp_law_rule_text {n : Nat} {M : Int} {R : List (List Int)} {A : List Int} {m : Mem} (hn : 1 < n) (h : (ruleT M R A).length ≤ 490) (hm : nrM m = true) : Cl Fs Gv n i__law_rule_text [ruleD M R A, tx [10]] m = .ok (tx (ruleT M R A)) m := by
  refine w_def (F := f__law_rule_text) hn rfl rfl rfl hm fun k hk => ?_
  dsimp only [f__law_rule_text]
  ktf_call "m"
  obtain ⟨h1, h2, h3⟩ := ruleT_parts h
  have h4 := ruleT_sum h
  simp only [List.length_append] at h1 h2 h3
  have h5 : R.length + 2 ≤ 491 := by
    have : (ruleL M R A).length = R.length + 2 := by simp [ruleL]
    omega
  ktf_call "t"
  refine p_str (log_of_len (by omega)) ?_
  ktf_call "t"
  refine p_addS (by omega) ?_
  ktf_call "t"
  apply wl_map
  case hS => exact sa_S
  case hσ => rfl
  case hl => omega
  case h =>
    intro x hx
    have := h2 x hx
    refine ⟨_, rfl, ?_⟩
    ktf_call "t"
    k_search (sp_law_row_text (by omega) (by omega) hm)
    ktf_call "t"
    refine p_addS (by omega) ?_
    ktf_call "t"
  ktf_call "t"
  k_search (sp_law_row_text (by omega) (by omega) hm)
  ktf_call "t"
  refine p_addS (by omega) ?_
  ktf_call "t"
  have e : [tx (cModulus ++ numT M)] ++ List.map (fun x => tx (cRow ++ rowT x)) R ++ [tx (cAdded ++ rowT A)] = (ruleL M R A).map fun a => tx a := by
    simp [ruleL, Function.comp_def]
  rw [e]
  refine p_join (f := fun a => a) (by rw [List.map_id']; simp only [List.length_singleton]; omega) ?_
  ktf_call "t"
  exact e_ret (by unfold ruleT; rw [List.map_id']) rfl ex_app0
structure GoodX (M : Int) (R : List (List Int)) (A : List Int) : Prop where
  two : 2 ≤ M
  ne : R ≠ []
  many : R.length ≤ 641
  rows : ∀ r ∈ R, r.length = R.length ∧ allB (inB M) r = true
  add : A.length = R.length ∧ allB (inB M) A = true
theorem all_tt {α : Type} (l : List α) : (l.all fun _ => true) = true := by induction l <;> simp_all
theorem sp_is_ruleX {n : Nat} {M : Int} {R : List (List Int)} {A : List Int} {m : Mem} (hn : 5 < n) (g : GoodX M R A) (hm : nrM m = true) : Cl Fs Gv n i_is_rule [ruleD M R A] m = .ok (.bl true) m := by
  refine w_def (F := f_is_rule) hn rfl rfl rfl hm fun k hk => ?_
  dsimp only [f_is_rule]
  ktf_call "m"
  have h2 := g.two
  have hl := g.many
  ktf_call "t"
  k_search (cl_of 1 (fun k => sp_is_tuple_of k (ruleD M R A) 3 m rfl hm) (by omega))
  ktf_call "t"
  k_search (cl_of 1 (fun k => sp_is_number k (.int M) m rfl hm) (by omega))
  ktf_call "t"
  refine ⟨fun hb => ?_, fun hb => ?_⟩
  · simp [isTupOf, isNum] at hb; omega
  ktf_call "t"
  refine o_eq eq_rows0 ?_
  ktf_call "t"
  refine ⟨fun hb => absurd hb (by simp [g.ne]), fun hb => ?_⟩
  ktf_call "t"
  apply wl_map
  case hS => exact sa_S
  case hσ => rfl
  case hl => omega
  case h =>
    intro r hr
    refine ⟨_, rfl, ?_⟩
    ktf_call "t"
    have h3 := g.rows r hr
    k_search (cl_of 5 (fun k => sp_is_line_of k r M _ m (by omega) hm) (by omega))
    rw [h3.1, h3.2, List.length_map]
    exact ⟨rfl, rfl⟩
  ktf_call "t"
  refine p_all ?_
  ktf_call "t"
  refine ⟨fun hb => absurd hb (by simp), fun hb => ?_⟩
  ktf_call "t"
  have h3 := g.add
  k_search (cl_of 5 (fun k => sp_is_line_of k A M _ m (by omega) hm) (by omega))
  refine e_ret (by rw [h3.1, h3.2, List.length_map]; simp) rfl ex_app0
/-! ### rows read -/
def rowsX (t : List Nat) : Option (List (List Int)) := if t = cNone then some [] else oAll ((TL.spl cBetween 0 [] t).map rowR)
theorem dR_lay (o : Option (List Int)) : lay (dR o) = true ∧ dep (dR o) ≤ 1 ∧ isNon (dR o) = o.isNone := by
  cases o with
  | none => exact ⟨rfl, by decide, rfl⟩
  | some xs => exact ⟨by simp only [dR, lay, lays_ints], by simp only [dR, dep, deps_ints]; omega, rfl⟩
theorem rows_non {ws : List (List Nat)} {m : Mem} {f : List Nat → Option (List Int)} : inD m .non (.lst (ws.map fun w => dR (f w))) = some (oAll (ws.map f)).isNone := by
  rw [in_non (lays_all fun d hd => by obtain ⟨w, _, rfl⟩ := List.mem_map.mp hd; exact (dR_lay _).1) (deps_all fun d hd => by obtain ⟨w, _, rfl⟩ := List.mem_map.mp hd; exact Nat.le_trans (dR_lay _).2.1 (by decide))]
  congr 1
  rw [List.any_map]
  cases h : oAll (ws.map f) with
  | none =>
    obtain ⟨w, hw, e⟩ := List.mem_map.mp (oAll_none.mp h)
    exact List.any_eq_true.mpr ⟨w, hw, by show isNon (dR (f w)) = true; rw [(dR_lay _).2.2, e]; rfl⟩
  | some xs =>
    have e := oAll_some h
    apply Bool.eq_false_iff.mpr
    intro z
    obtain ⟨w, hw, hz⟩ := List.any_eq_true.mp z
    have hm : f w ∈ xs.map some := by rw [← e]; exact List.mem_map_of_mem hw
    obtain ⟨x, _, ex⟩ := List.mem_map.mp hm
    have hz : isNon (dR (f w)) = true := hz
    rw [← ex] at hz
    cases hz
theorem rows_tup {ws : List (List Nat)} {f : List Nat → Option (List Int)} {xs : List (List Int)} (h : oAll (ws.map f) = some xs) : (ws.map fun w => dR (f w)) = xs.map rowD := by
  have e := oAll_some h
  have : (ws.map f).map dR = (xs.map some).map dR := by rw [e]
  rw [List.map_map, List.map_map] at this
  exact this
theorem o_in {x y : D} {m : Mem} {b : Bool} {B : Bool → Prop} (h : inD m x y = some b) (q : B b) : tCmp m .In x y B := by rw [tCmp_eq, cmp_in, h]; exact o_some q
def dRs (c : Nat) (o : Option (List (List Int))) (m : Mem) : XR D := match o with
  | none => .exc c [] m
  | some xs => .ok (rowsD xs) m
theorem sp_read_rows {n : Nat} {t : List Nat} {m : Mem} (hn : 3 < n) (ht : t.length ≤ 640) (ho : okL t = true) (hm : nrM m = true) : Cl Fs Gv n i_read_rows [tx t] m = dRs x_BadText (rowsX t) m := by
  obtain ⟨w1, w2⟩ := words_ok (S := cBetween) ht ho
  refine w_def (F := f_read_rows) hn rfl rfl rfl hm fun k hk => ?_
  dsimp only [f_read_rows]
  ktf_call "m"
  ktf_call "t"
  k_search (cl_of 1 (fun k => sp_sure_text k t m hm) (by omega))
  ktf_call "t"
  refine o_eqs ho (by decide) ?_
  ktf_call "t"
  refine ⟨fun hb => ?_, fun hb => ?_⟩
  · ktf_call "t"
    simp at hb
    exact e_retX (by simp only [rowsX, if_pos hb, dRs]; rfl) rfl ex_app0
  have hb : ¬ t = cNone := by simpa using hb
  ktf_call "t"
  refine p_split (by decide) (by omega) ?_
  ktf_call "t"
  apply wl_map
  case hS => exact sa_S
  case hσ => rfl
  case hl => exact w2
  case h =>
    intro r hr
    refine ⟨_, rfl, ?_⟩
    ktf_call "t"
    k_search (cl_of 3 (fun k => sp_row_read k r m (w1 r hr).1 (w1 r hr).2 hm) (by omega))
    exact ⟨rfl, rfl⟩
  ktf_call "t"
  refine o_in rows_non ?_
  ktf_call "t"
  refine ⟨fun hb2 => ?_, fun hb2 => ?_⟩
  · ktf_call "t"
    have hb2 := Option.isNone_iff_eq_none.mp hb2
    exact e_excX (by simp only [rowsX, if_neg hb, dRs]; unfold cBetween; rw [hb2]) rfl ex_app0
  · obtain ⟨R, hR⟩ := Option.isSome_iff_exists.mp (by rw [← Option.isNone_eq_false_iff]; exact hb2)
    ktf_call "t"
    rw [rows_tup hR]
    exact e_retX (by simp only [rowsX, if_neg hb, dRs]; unfold cBetween; rw [hR]) (nrs_rows R) ex_app0
/-! ### the first line that cannot stand there -/
def dBad (r : Except Nat (Int × List (List Int) × List Int)) : D := match r with
  | .error k => .int (k : Int)
  | .ok _ => .non
/-- the law's way to a line -/
def wayR (l h : List Nat) : Option (List Int) := if l.take h.length = h then rowR (l.drop h.length) else none
theorem lineR_way {L : List (List Nat)} {k : Nat} {h l : List Nat} (hl : L[k]? = some l) : lineR L k h = match wayR l h with
      | some xs => if xs = [] then none else some xs
      | none => none := by
  unfold lineR wayR
  rw [hl]
  simp only
  split
  · split <;> simp_all
  · rfl
def ruleY (L : List (List Nat)) (M : Int) : Except Nat (Int × List (List Int) × List Int) := match lineR L 1 cRow with
      | none => .error 1
      | some r1 => match rowsR L M r1.length r1.length 1 with
        | .error k => .error k
        | .ok R => match lineR L (r1.length + 1) cAdded with
          | none => .error (r1.length + 1)
          | some a => if allB (inB M) a = true ∧ a.length = r1.length then (if r1.length + 2 < L.length then .error (r1.length + 2) else .ok (M, R, a)) else .error (r1.length + 1)
theorem ruleX_Y {L : List (List Nat)} {x : Int} {r : List Int} (h : lineR L 0 cModulus = some (x :: r)) : ruleX L = if (x :: r).length = 1 ∧ ¬ x < 2 then ruleY L x else .error 0 := by
  unfold ruleX; rw [h]; rfl
/-- between two turns of the law's loop -/
def Turn (L : List (List Nat)) (M : Int) (many : Option Nat) (k : Nat) : Prop := match many with
  | none => k = 1
  | some n => ∃ acc r1, k = acc.length + 1 ∧ 1 ≤ acc.length ∧ acc.length ≤ n ∧ k ≤ L.length ∧ lineR L 1 cRow = some r1 ∧ r1.length = n ∧ rowsR L M n n 1 = appR acc (rowsR L M n (n - acc.length) (acc.length + 1))
theorem turn_none {L : List (List Nat)} {M : Int} {many : Option Nat} {k : Nat} (h : Turn L M many k) (hc : ∀ n, many = some n → k ≤ n) (hl : lineR L k cRow = none) : ruleY L M = .error k := by
  unfold ruleY
  cases many with
  | none => obtain rfl : k = 1 := h; rw [hl]
  | some n =>
    obtain ⟨acc, r1, h1, h2, h3, h4, h5, h6, h7⟩ := h
    have := hc n rfl
    rw [rowsR_succ (by omega), ← h1, hl] at h7
    rw [h5]; simp only [h6, h7, appR]
theorem turn_bad {L : List (List Nat)} {M : Int} {many : Option Nat} {k : Nat} {r : List Int} (h : Turn L M many k) (hc : ∀ n, many = some n → k ≤ n) (hl : lineR L k cRow = some r) (hb : ¬ (allB (inB M) r = true ∧ ∀ n, many = some n → r.length = n)) : ruleY L M = .error k := by
  unfold ruleY
  cases many with
  | none =>
    obtain rfl : k = 1 := h
    rw [hl]
    have h0 : 0 < r.length := by
      cases r with
      | nil =>
        exfalso
        unfold lineR at hl
        split at hl
        · cases hl
        · split at hl
          · split at hl
            · split at hl
              · cases hl
              · rename_i hne; cases hl; exact hne rfl
            · cases hl
          · cases hl
      | cons => simp
    have := rowsR_succ (L := L) (M := M) (many := r.length) (j := 0) (k := 1) h0
    rw [Nat.sub_zero, hl] at this
    have hA : ¬ (allB (inB M) r = true) := fun z => hb ⟨z, fun _ e => by cases e⟩
    simp [hA] at this
    simp only [this]
  | some n =>
    obtain ⟨acc, r1, h1, h2, h3, h4, h5, h6, h7⟩ := h
    have := hc n rfl
    rw [rowsR_succ (by omega), ← h1, hl] at h7
    have hb : ¬ (allB (inB M) r = true ∧ r.length = n) := fun z => hb ⟨z.1, fun _ e => by cases e; exact z.2⟩
    simp only [if_neg hb] at h7
    rw [h5]; simp only [h6, h7, appR]
theorem turn_next {L : List (List Nat)} {M : Int} {many : Option Nat} {k : Nat} {r : List Int} (hL : Lines L) (h : Turn L M many k) (hc : ∀ n, many = some n → k ≤ n) (hl : lineR L k cRow = some r) (hb : allB (inB M) r = true ∧ ∀ n, many = some n → r.length = n) : Turn L M (some (many.getD r.length)) (k + 1) := by
  have hk := (lineR_some hL hl).1
  have hne : 0 < r.length := List.length_pos_iff.mpr (lineR_some hL hl).2.1
  cases many with
  | none =>
    obtain rfl : k = 1 := h
    refine ⟨[r], r, rfl, Nat.le_refl _, hne, by omega, hl, rfl, ?_⟩
    have := rowsR_succ (L := L) (M := M) (many := r.length) (j := 0) (k := 1) hne
    rw [Nat.sub_zero, hl] at this
    simp only [hb.1, and_self, if_true] at this
    exact this
  | some n =>
    obtain ⟨acc, r1, h1, h2, h3, h4, h5, h6, h7⟩ := h
    have h8 := hc n rfl
    have h9 := hb.2 n rfl
    refine ⟨acc ++ [r], r1, by simp [h1], by simp, by simp; omega, by omega, h5, h6, ?_⟩
    rw [rowsR_succ (by omega), ← h1, hl] at h7
    simp only [if_pos (show allB (inB M) r = true ∧ r.length = n from ⟨hb.1, h9⟩)] at h7
    show rowsR L M n n 1 = _
    rw [h7, List.length_append, List.length_singleton, show (some n).getD r.length - (acc.length + 1) = n - k by rw [h1]; rfl, show acc.length + 1 + 1 = k + 1 by omega]
    show _ = appR (acc ++ [r]) (rowsR L M n (n - k) (k + 1))
    cases rowsR L M n (n - k) (k + 1) <;> simp [appR]
theorem turn_end {L : List (List Nat)} {M : Int} {n k : Nat} (h : Turn L M (some n) k) (hk : n < k) : k = n + 1 ∧ 1 ≤ n ∧ k ≤ L.length ∧ ∃ acc, ruleY L M = match lineR L k cAdded with
          | none => .error k
          | some a => if allB (inB M) a = true ∧ a.length = n then (if k + 1 < L.length then .error (k + 1) else .ok (M, acc, a)) else .error k := by
  obtain ⟨acc, r1, h1, h2, h3, h4, h5, h6, h7⟩ := h
  have e : acc.length = n := by omega
  rw [e, Nat.sub_self, rowsR] at h7
  simp only [appR, List.append_nil] at h7
  refine ⟨by omega, by omega, h4, acc, ?_⟩
  unfold ruleY
  rw [h5]
  simp only [h6, h7, show k = n + 1 by omega]
def contB (many : Option Nat) (kk : Nat) : Bool := match many with
  | none => true
  | some n => decide ((kk : Int) ≤ n)
def dOpt : Option Nat → D
  | none => .non
  | some n => .int (n : Int)
theorem b_row {m : Mem} {xs : List Int} {M : Int} : eqD m (.lst ((xs.filter fun x => decide (x < 0) || decide (x ≥ M)).map D.int)) (.lst []) = some (allB (inB M) xs) := by
  rw [eq_lst0 (nrs_int _) (shp_of (by simp only [lay, lays_ints]) (by simp [dep]))]
  congr 1
  rw [Bool.eq_iff_iff]
  simp only [List.isEmpty_iff, List.map_eq_nil_iff, List.filter_eq_nil_iff, allB, List.all_eq_true, inB, Bool.or_eq_true, decide_eq_true_eq, Bool.and_eq_true]
  exact forall_congr' fun x => forall_congr' fun _ => by omega
theorem x_line {L : List (List Nat)} {k : Nat} {l : List Nat} {m : Mem} {R : D → Prop} (h : L[k]? = some l) (q : R (tx l)) : tIdx m (linesD L) (.int (k : Int)) R := x_lst (at_nat h) q
theorem sp_bad_line {n : Nat} {t : List Nat} {m : Mem} (hn : 3 < n) (ht : t.length ≤ 640) (ho : okL t = true) (hm : nrM m = true) : Cl Fs Gv n i__law_bad_line [tx t] m = .ok (dBad (ruleR t)) m := by
  have hL := lines_of ht ho
  refine w_def (F := f__law_bad_line) hn rfl rfl rfl hm fun k hk => ?_
  dsimp only [f__law_bad_line]
  ktf_call "m"
  refine z_cons ?_
  ktf_call "t"
  refine p_split (by decide) (by omega) ?_
  ktf_call "t"
  obtain ⟨l0, hl0⟩ : ∃ l, (TL.spl [10] 0 [] t)[0]? = some l := by
    have := spl_ne [10] 0 [] t
    cases hq : TL.spl [10] 0 [] t with
    | nil => exact absurd hq this
    | cons a b => exact ⟨a, rfl⟩
  have hs0 := hL.it l0 (List.mem_of_getElem? hl0)
  have hw0 := lineR_way (h := cModulus) hl0
  have e8 : cutL l0 none (some 8) = l0.take 8 := cut_take l0 8
  have d8 : cutL l0 (some 8) none = l0.drop 8 := cut_drop l0 8
  apply w_ifeV (u := dR (rowR (l0.drop 8))) (v := .non)
  case h =>
    ktf_call "t"
    refine x_line (k := 0) hl0 ?_
    ktf_call "t"
    refine p_slcS (by omega) ?_
    rw [e8]
    ktf_call "t"
    refine o_eqs (okL_take 8 hs0.2) (by decide) ?_
    exact ⟨rfl, rfl⟩
  case ha =>
    ktf_call "t"
    refine x_line (k := 0) hl0 ?_
    ktf_call "t"
    refine p_slcS (by omega) ?_
    rw [d8]
    ktf_call "t"
    k_search (cl_of 3 (fun k => sp__law_row_read k (l0.drop 8) m (by rw [List.length_drop]; omega) (okL_drop 8 hs0.2) hm) (by omega))
    exact ⟨rfl, rfl⟩
  case hb => ktf_call "t"
  have e0 : (if decide (l0.take 8 = cModulus) = true then dR (rowR (l0.drop 8)) else .non) = dR (wayR l0 cModulus) := by
    unfold wayR
    by_cases h : l0.take 8 = cModulus
    · rw [if_pos (decide_eq_true h), if_pos (show l0.take cModulus.length = cModulus from h)]; rfl
    · rw [if_neg (by simpa using h), if_neg (show ¬ l0.take cModulus.length = cModulus from h)]; rfl
  rw [e0]
  cases hw : wayR l0 cModulus with
  | none =>
    ktf_call "tp"
    rw [hw] at hw0
    exact e_retX (by simp only [ruleR, ruleX, hw0, dBad]; rfl) rfl ex_app0
  | some hd =>
  rw [hw] at hw0
  cases hd with
  | nil =>
    ktf_call "tp"
    exact e_retX (by simp only [ruleR, ruleX, hw0, dBad]; rfl) rfl ex_app0
  | cons x r =>
  simp only [dR]
  ktf_call "t"
  have hw0' : lineR (TL.spl [10] 0 [] t) 0 cModulus = some (x :: r) := by rw [hw0]; simp
  have hX := ruleX_Y hw0'
  refine ⟨fun hb => ?_, fun hb => ?_⟩
  · ktf_call "t"
    have : ¬ ((x :: r).length = 1 ∧ ¬ x < 2) := by
      simp [isNon] at hb ⊢
      intro z; subst z
      simpa using hb
    rw [if_neg this] at hX
    exact e_retX (by simp only [ruleR, hX, dBad]; rfl) rfl ex_app0
  have hc2 : (x :: r).length = 1 ∧ ¬ x < 2 := by
    simp [isNon] at hb ⊢
    have h1 := hb.1
    have h2 := hb.2
    exact ⟨List.length_eq_zero_iff.mp (by omega), by omega⟩
  rw [if_pos hc2] at hX
  obtain rfl : r = [] := List.length_eq_zero_iff.mp (by simpa using hc2.1)
  have hX : ruleR t = ruleY (TL.spl [10] 0 [] t) x := hX
  rw [hX]
  clear hX hw0 hw0' hw e0 e8 d8 hb
  have hx2 : ¬ x < 2 := hc2.2
  ktf_call "t"
  ktf_call "m"
  generalize TL.spl [10] 0 [] t = L at hL hl0
  have hLl := hL.len
  refine z_whl (fun j σ m' => ∃ many kk o1 o2, j + kk = 700 ∧ Turn L x many kk ∧ 1 ≤ kk ∧ kk ≤ L.length ∧ m = m' ∧ σ = [some (tx t), some (linesD L), o1, some (.int x), some (dOpt many), some (.int (kk : Int)), o2]) 699 (by decide) ⟨none, 1, _, _, rfl, rfl, Nat.le_refl _, by have := (List.getElem?_eq_some_iff.mp hl0).1; omega, rfl, rfl⟩ ?_
  rintro j σ _ ⟨many, kk, o1, o2, hj, hT, hk1, hkL, rfl, rfl⟩
  apply w_orB (p := isNon (dOpt many)) (q := contB many kk)
  case h => ktf_call "t"
  case h2 =>
    intro hp
    cases many with
    | none => cases hp
    | some n => ktf_call "t"
  ktf_call "t"
  refine ⟨fun hb => ?_, fun hb => ?_⟩
  · have hc : ∀ n, many = some n → kk ≤ n := fun n e => by
      subst e
      have hb : decide ((kk : Int) ≤ n) = true := hb
      simpa using hb
    by_cases hkl : kk = L.length
    · refine z_cons (z_iff (w_orP ?_))
      ktf_call "tp"
      refine bw_t (by simp [hkl]) ?_
      ktf_call "tp"
      have hl : lineR L kk cRow = none := by unfold lineR; rw [List.getElem?_eq_none (by omega)]
      exact e_retX (by simp only [turn_none hT hc hl, dBad]) rfl ex_app0
    obtain ⟨l, hl⟩ : ∃ l, L[kk]? = some l := ⟨_, List.getElem?_eq_getElem (show kk < L.length by omega)⟩
    have hs := hL.it l (List.mem_of_getElem? hl)
    have hw := lineR_way (h := cRow) hl
    have e4 : cutL l none (some 4) = l.take 4 := cut_take l 4
    have d4 : cutL l (some 4) none = l.drop 4 := cut_drop l 4
    refine z_cons (z_iff (w_orP ?_))
    ktf_call "tp"
    refine bw_f (by simp; omega) ?_
    ktf_call "tp"
    refine x_line hl ?_
    ktf_call "tp"
    refine p_slcS (by omega) ?_
    rw [e4]
    ktf_call "tp"
    refine o_nes (okL_take 4 hs.2) (by decide) ?_
    ktf_call "tp"
    refine ⟨fun hb => ?_, fun hb => ?_⟩
    · ktf_call "tp"
      have hl : lineR L kk cRow = none := by
        rw [hw]; unfold wayR
        rw [if_neg (show ¬ l.take cRow.length = cRow from (by simpa using hb : ¬ l.take 4 = cRow))]
      exact e_retX (by simp only [turn_none hT hc hl, dBad]) rfl ex_app0
    have hq : l.take cRow.length = cRow := (by simpa using hb : l.take 4 = cRow)
    have hw2 : wayR l cRow = rowR (l.drop 4) := if_pos hq
    rw [hw2] at hw
    ktf_call "tp"
    refine x_line hl ?_
    ktf_call "tp"
    refine p_slcS (by omega) ?_
    rw [d4]
    ktf_call "tp"
    k_search (cl_of 3 (fun k => sp__law_row_read k (l.drop 4) m (by rw [List.length_drop]; omega) (okL_drop 4 hs.2) hm) (by omega))
    cases ho : rowR (l.drop 4) with
    | none =>
      rw [ho] at hw
      ktf_call "tp"
      exact e_retX (by simp only [turn_none hT hc hw, dBad]) rfl ex_app0
    | some xs =>
    rw [ho] at hw
    by_cases hx0 : xs = []
    · subst hx0
      ktf_call "tp"
      refine o_eq eq_rowsn ?_
      ktf_call "tp"
      exact e_retX (by simp only [turn_none hT hc (by rw [hw]; rfl), dBad]) rfl ex_app0
    have hw : lineR L kk cRow = some xs := by rw [hw]; simp [hx0]
    have hxl := (lineR_some hL hw).2.2.1
    ktf_call "tp"
    refine o_eq eq_rowsn ?_
    ktf_call "tp"
    refine bw_f (by simp [hx0]) ?_
    ktf_call "tp"
    apply wl_fil (p := fun v => decide (v < 0) || decide (v ≥ x)) (f := D.int)
    case hS => exact sa_S
    case hσ => rfl
    case hl => omega
    case h =>
      intro v hv
      refine ⟨_, rfl, ?_, fun _ => ?_⟩
      · ktf_call "t"
      · ktf_call "t"
    ktf_call "tp"
    refine o_ne b_row ?_
    ktf_call "tp"
    refine ⟨fun hb => ?_, fun hb => ?_⟩
    · ktf_call "tp"
      exact e_retX (by simp only [turn_bad hT hc hw (fun z => by rw [z.1] at hb; cases hb), dBad]) rfl ex_app0
    have hA : allB (inB x) xs = true := by simpa using hb
    cases many with
    | none =>
      ktf_call "tp"
      exact ⟨j - 1, by omega, some xs.length, kk + 1, _, _, by omega, turn_next hL hT hc hw ⟨hA, fun _ e => by cases e⟩, by omega, by have := (lineR_some hL hw).1; omega, rfl, by simp only [List.set_cons_zero, List.set_cons_succ, List.length_map, dR, dOpt]; rfl⟩
    | some nn =>
      ktf_call "tp"
      refine ⟨fun hb => ?_, fun hb => ?_⟩
      · ktf_call "tp"
        have hb : ¬ xs.length = nn := by simp at hb; omega
        exact e_retX (by simp only [turn_bad hT hc hw (fun z => hb (z.2 nn rfl)), dBad]) rfl ex_app0
      have hb : xs.length = nn := by simp at hb; omega
      ktf_call "tp"
      exact ⟨j - 1, by omega, some nn, kk + 1, _, _, by omega, turn_next hL hT hc hw ⟨hA, fun n e => by cases e; exact hb⟩, by omega, by have := (lineR_some hL hw).1; omega, rfl, by simp only [List.set_cons_zero, List.set_cons_succ, dR, dOpt]; rfl⟩
  · obtain ⟨nn, rfl, hnk⟩ : ∃ nn, many = some nn ∧ nn < kk := by
      cases many with
      | none => simp [isNon, dOpt] at hb
      | some nn => exact ⟨nn, rfl, by simp [isNon, dOpt, contB] at hb; omega⟩
    obtain ⟨h1, h2, h3, acc, hY⟩ := turn_end hT hnk
    have hY1 : lineR L kk cAdded = none → ruleY L x = .error kk := fun h => by rw [hY, h]
    have hY2 : ∀ a, lineR L kk cAdded = some a → ¬ (allB (inB x) a = true ∧ a.length = nn) → ruleY L x = .error kk := fun a h h2 => by rw [hY, h]; simp only [h2, if_false]
    have hY3 : ∀ a, lineR L kk cAdded = some a → (allB (inB x) a = true ∧ a.length = nn) → ruleY L x = if kk + 1 < L.length then .error (kk + 1) else .ok (x, acc, a) := fun a h h2 => by rw [hY, h]; simp only [h2, and_self, if_true]
    by_cases hkl : kk = L.length
    · refine z_cons (z_iff (w_orP ?_))
      ktf_call "tp"
      refine bw_t (by simp [hkl]) ?_
      ktf_call "tp"
      have hl : lineR L kk cAdded = none := by unfold lineR; rw [List.getElem?_eq_none (by omega)]
      exact e_retX (by simp only [hY1 hl, dBad]) rfl ex_app0
    obtain ⟨l, hl⟩ : ∃ l, L[kk]? = some l := ⟨_, List.getElem?_eq_getElem (show kk < L.length by omega)⟩
    have hs := hL.it l (List.mem_of_getElem? hl)
    have hw := lineR_way (h := cAdded) hl
    have e4 : cutL l none (some 6) = l.take 6 := cut_take l 6
    have d4 : cutL l (some 6) none = l.drop 6 := cut_drop l 6
    refine z_cons (z_iff (w_orP ?_))
    ktf_call "tp"
    refine bw_f (by simp; omega) ?_
    ktf_call "tp"
    refine x_line hl ?_
    ktf_call "tp"
    refine p_slcS (by omega) ?_
    rw [e4]
    ktf_call "tp"
    refine o_nes (okL_take 6 hs.2) (by decide) ?_
    ktf_call "tp"
    refine ⟨fun hb => ?_, fun hb => ?_⟩
    · ktf_call "tp"
      have hl : lineR L kk cAdded = none := by
        rw [hw]; unfold wayR
        rw [if_neg (show ¬ l.take cAdded.length = cAdded from (by simpa using hb : ¬ l.take 6 = cAdded))]
      exact e_retX (by simp only [hY1 hl, dBad]) rfl ex_app0
    have hq : l.take cAdded.length = cAdded := (by simpa using hb : l.take 6 = cAdded)
    have hw2 : wayR l cAdded = rowR (l.drop 6) := if_pos hq
    rw [hw2] at hw
    ktf_call "tp"
    refine x_line hl ?_
    ktf_call "tp"
    refine p_slcS (by omega) ?_
    rw [d4]
    ktf_call "tp"
    k_search (cl_of 3 (fun k => sp__law_row_read k (l.drop 6) m (by rw [List.length_drop]; omega) (okL_drop 6 hs.2) hm) (by omega))
    cases ho : rowR (l.drop 6) with
    | none =>
      rw [ho] at hw
      ktf_call "tp"
      exact e_retX (by simp only [hY1 hw, dBad]) rfl ex_app0
    | some xs =>
    rw [ho] at hw
    by_cases hx0 : xs = []
    · subst hx0
      ktf_call "tp"
      refine bw_t (by simp; omega) ?_
      ktf_call "tp"
      exact e_retX (by simp only [hY1 (by rw [hw]; rfl), dBad]) rfl ex_app0
    have hw : lineR L kk cAdded = some xs := by rw [hw]; simp [hx0]
    have hxl := (lineR_some hL hw).2.2.1
    ktf_call "tp"
    refine ⟨fun hb => ?_, fun hb => ?_⟩
    · ktf_call "tp"
      have hb : ¬ xs.length = nn := by simp at hb; omega
      exact e_retX (by simp only [hY2 xs hw (fun z => hb z.2), dBad]) rfl ex_app0
    have hxn : xs.length = nn := by simp at hb; omega
    ktf_call "tp"
    apply wl_fil (p := fun v => decide (v < 0) || decide (v ≥ x)) (f := D.int)
    case hS => exact sa_S
    case hσ => rfl
    case hl => omega
    case h =>
      intro v hv
      refine ⟨_, rfl, ?_, fun _ => ?_⟩
      · ktf_call "t"
      · ktf_call "t"
    ktf_call "tp"
    refine o_ne b_row ?_
    ktf_call "tp"
    refine ⟨fun hb => ?_, fun hb => ?_⟩
    · ktf_call "tp"
      exact e_retX (by simp only [hY2 xs hw (fun z => by rw [z.1] at hb; cases hb), dBad]) rfl ex_app0
    have hA : allB (inB x) xs = true := by simpa using hb
    have hY4 := hY3 xs hw ⟨hA, hxn⟩
    ktf_call "tp"
    refine ⟨fun hb => ?_, fun hb => ?_⟩
    · ktf_call "tp"
      have hb : kk + 1 = L.length := by simp at hb; omega
      rw [if_neg (by omega)] at hY4
      exact e_retX (by simp only [hY4, dBad]) rfl ex_app0
    · ktf_call "tp"
      have hb : ¬ kk + 1 = L.length := by simp at hb; omega
      rw [if_pos (by omega)] at hY4
      exact e_retX (by simp only [hY4, dBad]; rfl) rfl ex_app0
theorem sp_take {n : Nat} {N bel : Int} {r m : Mem} (hn : 0 < n) (hm : Tn N r m) (hr : nrM r = true) (hb : 0 < bel ∧ bel < 18446744073709551616) (hN : N < 1000000000) :
    wC (Cl Fs Gv n) i__law_take [.ref 0, .int bel] m (fun d m' => ∃ k, d = .int k ∧ (0 ≤ k ∧ k < bel) ∧ Tn (N + 1) r m') NX := by
  obtain ⟨a, b, c, rfl, h0, h1⟩ := hm
  refine w_defR (F := f__law_take) hn rfl rfl rfl fun k _ => ?_
  dsimp only [f__law_take]
  ktf_call "m"
  ktf_call "w"
  ktf_call "b"
  · ktf_call "w"
    refine put_ref (k := 0) (by rfl) (by rfl) ?_
    ktf_call "w"
    refine r_ret rfl ?_ ?_
    · rw [List.take_of_length_le (by simp)]
      simp only [List.set_cons_zero, nrM_cons, hr]; rfl
    · rw [List.take_of_length_le (by simp)]
      exact ⟨_, rfl, ⟨Int.emod_nonneg _ (by omega), Int.emod_lt_of_pos _ hb.1⟩, _, _, _, rfl, h0, by omega⟩
  · ktf_call "w"
    refine put_ref (k := 2) (by rfl) (by rfl) ?_
    ktf_call "w"
    refine r_ret rfl ?_ ?_
    · rw [List.take_of_length_le (by simp)]
      simp only [List.set_cons_zero, nrM_cons, hr]; rfl
    · rw [List.take_of_length_le (by simp)]
      exact ⟨_, rfl, ⟨Int.emod_nonneg _ (by omega), Int.emod_lt_of_pos _ hb.1⟩, _, _, _, rfl, by omega, by omega⟩
theorem sp_of {n : Nat} {N : Int} {xs : List D} {r m : Mem} (hn : 1 < n) (hm : Tn N r m) (hr : nrM r = true) (hx : nrs xs = true) (h0 : xs ≠ []) (hl : xs.length ≤ 16777216) (hN : N < 1000000000) :
    wC (Cl Fs Gv n) i__law_of [.ref 0, .lst xs] m (fun d m' => d ∈ xs ∧ Tn (N + 1) r m') NX := by
  have hl0 := List.length_pos_iff.mpr h0
  refine w_defR (F := f__law_of) hn rfl rfl rfl fun k hk => ?_
  dsimp only [f__law_of]
  ktf_call "m"
  ktf_call "w"
  refine w_monoN (sp_take (by omega) hm hr (by omega) hN) ?_
  rintro _ m' ⟨j, rfl, ⟨h1, h2⟩, hT⟩
  ktf_call "w"
  obtain ⟨i, rfl⟩ : ∃ i : Nat, j = i := ⟨j.toNat, by omega⟩
  have hi : i < xs.length := by omega
  refine x_lit (y := xs[i]) ((idx_lst).trans (at_nat (List.getElem?_eq_getElem hi))) ?_
  have hlen := Tn_len hm
  refine r_ret (nrs_mem hx _ (List.getElem_mem hi)) ?_ ⟨List.getElem_mem hi, ?_⟩
  · rw [hlen, Tn_take0 hT]; exact Tn_nr hT hr
  · rw [hlen, Tn_take0 hT]; exact hT
theorem sp_ofR {n q : Nat} {N : Int} {xs : List D} {r m : Mem} (hn : 1 < n) (hm : Tn N r m) (hr : nrM r = true) (hq : r[q]? = some (.lst xs)) (h0 : xs ≠ []) (hl : xs.length ≤ 16777216) (hN : N < 1000000000) :
    wC (Cl Fs Gv n) i__law_of [.ref 0, .ref (q + 1)] m (fun d m' => d ∈ xs ∧ Tn (N + 1) r m') NX := by
  have hl0 := List.length_pos_iff.mpr h0
  refine w_defR (F := f__law_of) hn rfl rfl rfl fun k hk => ?_
  dsimp only [f__law_of]
  ktf_call "m"
  ktf_call "w"
  refine p_lenR (by rw [Tn_get hm]; exact hq) ?_
  ktf_call "w"
  refine w_monoN (sp_take (by omega) hm hr (by omega) hN) ?_
  rintro _ m' ⟨j, rfl, ⟨h1, h2⟩, hT⟩
  ktf_call "w"
  obtain ⟨i, rfl⟩ : ∃ i : Nat, j = i := ⟨j.toNat, by omega⟩
  have hi : i < xs.length := by omega
  refine x_refD (by rw [Tn_get hT]; exact hq) (at_nat (List.getElem?_eq_getElem hi)) ?_
  have hlen := Tn_len hm
  have hx : nrs xs = true := by
    have := List.all_eq_true.mp hr _ (List.mem_of_getElem? hq)
    exact this
  refine r_ret (nrs_mem hx _ (List.getElem_mem hi)) ?_ ⟨List.getElem_mem hi, ?_⟩
  · rw [hlen, Tn_take0 hT]; exact Tn_nr hT hr
  · rw [hlen, Tn_take0 hT]; exact hT
theorem sp_power {n : Nat} {b k : Int} {m : Mem} (hn : 0 < n) (hb : 0 ≤ b ∧ b < 18446744073709551616) (hk : 0 ≤ k ∧ k < 1000000) (hm : nrM m = true) : Cl Fs Gv n i__law_power [.int b, .int k] m = .ok (.int (b ^ k.toNat)) m := by
  refine w_def (F := f__law_power) hn rfl rfl rfl hm fun kk _ => ?_
  dsimp only [f__law_power]
  ktf_call "m"
  ktf_call "w"
  ktf_call "m"
  refine f_inv (fun i σ m' => ∃ o, m = m' ∧ σ = [some (.int b), some (.int k), some (.int (b ^ i)), o]) (fun _ _ _ _ => sa_N0) ⟨none, rfl, by rw [Int.pow_zero]⟩ ?_ ?_
  · rintro i σ _ a ⟨o, rfl, rfl⟩ ha
    refine ⟨_, rfl, ?_⟩
    ktf_call "w"
    exact ⟨_, rfl, by rw [Int.pow_succ]; rfl⟩
  · rintro σ _ ⟨o, rfl, rfl⟩
    ktf_call "w"
    rw [List.length_range]
    exact e_ret rfl rfl ex_app0
theorem cells_end {k n0 : Nat} {m m2 : Mem} {c : Int} {ns vs : List Int} (o3 o4 o5 : Option D) (K : SR → Prop) (hK : ∀ c : Int, K (.ret (.ref m2.length) (m2 ++ [.lst [.int c]]))) (hv : vs.length ≤ 63) :
    wF (Cl Fs Gv k) Gv whileW (srcE (srcS (vs.map .int))) (.tp (.cons (.nm 3) (.cons (.nm 4) .nil)))
      (.cons (.asg (.nm 5) (.bin false .Mod (.blt false .int (.cons (.var 3) .nil)) (.var 1)))
      (.cons (.asg (.sub (.var 2) (.var 5)) (.bin false .Add (.idx (.var 2) (.var 5)) (.bin false .Mult (.var 4) (.bin false .Add (.var 3) (.cst (.int 2))))))
      .nil)) [some (.scr (ns.map .int)), some (.int 1), some (.ref m2.length), o3, o4, o5] (m2 ++ [.lst [.int c]])
      (fun σ' m' => wSs (Cl Fs Gv k) Gv whileW (.cons (.ret (.var 2)) .nil) σ' m' (fun _ m' => K (.ret .non m')) K) K := by
  refine f_inv (fun i σ m' => ∃ (c : Int) (o3 o4 o5 : Option D), m' = m2 ++ [.lst [.int c]] ∧ σ = [some (.scr (ns.map .int)), some (.int 1), some (.ref m2.length), o3, o4, o5]) (fun _ _ _ _ => sa_E sa_S) ⟨c, o3, o4, o5, rfl, rfl⟩ ?_ ?_
  · rintro i σ m' ⟨v, j⟩ ⟨c, o3, o4, o5, rfl, rfl⟩ ha
    have hj : j < 63 := by
      have h1 := List.mem_of_getElem? ha
      have h2 := List.mem_zipIdx h1
      omega
    refine ⟨_, rfl, ?_⟩
    ktf_call "w"
    refine x_refD (xs := [.int c]) (by rw [m_get0]; rfl) (y := .int c) (by rw [Int.emod_one]; rfl) ?_
    ktf_call "w"
    refine put_ref (k := 0) (xs := [.int c]) (by rw [m_get0]; rfl) (by rw [Int.emod_one]; rfl) ?_
    ktf_call "w"
    exact ⟨_, _, _, _, by rw [m_set0]; rfl, rfl⟩
  · rintro σ m' ⟨c, o3, o4, o5, rfl, rfl⟩
    ktf_call "w"
    exact hK c
theorem sp_cells {n : Nat} {ns : List Int} {m : Mem} (hn : 0 < n) (hl : ns.length ≤ 63) (hm : nrM m = true) : wC (Cl Fs Gv n) i__law_cells [.scr (ns.map .int), .int 1] m (fun d m' => m' = m ∧ ∃ c : Int, d = .lst [.int c]) NX := by
  refine w_defR (F := f__law_cells) hn rfl rfl rfl fun k _ => ?_
  dsimp only [f__law_cells]
  ktf_call "m"
  have hcl : (cutL ns (some 1) (some 63)).length ≤ 63 := Nat.le_trans (by unfold cutL; rw [List.length_take, List.length_drop]; omega) hl
  refine z_cons (z_nm (w_or ?_))
  ktf_call "w"
  rw [cutL_map, show cutL ns none (some 1) = ns.take 1 from cut_take ns 1]
  refine p_listT ?_
  refine o_trR (by rw [m_get0]; rfl) ?_
  cases ns with
  | nil =>
    ktf_call "w"
    rw [cutL_map]
    ktf_call "m"
    refine cells_end (ns := []) (c := 0) (m2 := m ++ [.lst []]) (n0 := 0) (m := m) none none none _ ?_ hcl
    intro c
    refine r_retF (frz_ref (by simp) (by rw [m_get0]; rfl) rfl) ?_ ⟨?_, c, rfl⟩
    · rw [List.append_assoc, List.take_left]; exact hm
    · rw [List.append_assoc, List.take_left]
  | cons v ns =>
    ktf_call "w"
    rw [cutL_map]
    ktf_call "m"
    refine cells_end (ns := v :: ns) (c := v) (m2 := m) (n0 := 0) (m := m) none none none _ ?_ hcl
    intro c
    refine r_retF (frz_ref (by simp) (by rw [m_get0]; rfl) rfl) ?_ ⟨?_, c, rfl⟩
    · rw [List.take_left]; exact hm
    · rw [List.take_left]
theorem sp_box {n : Nat} {c : Int} (hn : 0 < n) : wC (Cl Fs Gv n) i__law_box [.lst [.int c], .int 0] [] (fun d m' => d = .ref 0 ∧ Tn 0 [] m') NX := by
  refine w_defK (F := f__law_box) hn rfl rfl rfl fun k _ => ?_
  dsimp only [f__law_box]
  ktf_call "m"
  ktf_call "p"
  refine p_pow (by decide) ?_
  ktf_call "p"
  refine ⟨_, _, rfl, Nat.le_refl _, rfl, rfl, rfl, ?_⟩
  exact ⟨trivial, _, _, _, rfl, by decide, by decide⟩
def farR (xs : List Int) : List (List Int) := ((List.range (xs.length - 1)).map fun j : Nat => (List.range xs.length).map fun k : Nat => if decide ((k : Int) = (j : Int) + 1) = true then (1 : Int) else 0) ++ [xs]
theorem sp_far {n : Nat} {M : Int} {xs : List Int} {m : Mem} (hn : 0 < n) (h : 1 ≤ xs.length ∧ xs.length ≤ 1000) (hm : nrM m = true) : Cl Fs Gv n i__law_far [.int M, rowD xs] m = .ok (ruleD M (farR xs) (List.replicate xs.length 0)) m := by
  refine w_def (F := f__law_far) hn rfl rfl rfl hm fun kk _ => ?_
  dsimp only [f__law_far]
  ktf_call "m"
  ktf_call "w"
  have e1 : ((((List.map D.int xs).length : Nat) : Int) - 1).toNat = xs.length - 1 := by rw [List.length_map]; omega
  have e2 : (((List.map D.int xs).length : Nat) : Int).toNat = xs.length := by rw [List.length_map]; omega
  rw [e1]
  apply wl_map
  case hS => exact sa_N0
  case hσ => rfl
  case hl => rw [List.length_range]; omega
  case h =>
    intro j hj
    refine ⟨_, rfl, ?_⟩
    ktf_call "w"
    rw [e2]
    apply wl_map
    case hS => exact sa_N0
    case hσ => rfl
    case hl => rw [List.length_range]; omega
    case h =>
      intro k hk
      refine ⟨_, rfl, ?_⟩
      ktf_call "w"
    ktf_call "w"
  ktf_call "w"
  refine p_mulT (i := ((List.map D.int xs).length : Nat)) (by rw [List.length_map]; omega) ?_
  ktf_call "w"
  refine e_ret ?_ ?_ ex_app0
  · rw [e2]
    simp [farR, Function.comp_def]
  · have h1 : nrs ((farR xs).map rowD) = true := nrs_map fun _ _ => nrs_int _
    have h2 : nrs ((List.replicate xs.length (0 : Int)).map D.int) = true := nrs_int _
    rw [e2]
    have e3 : (List.map (fun j : Nat => D.tup (List.map (fun k : Nat => D.int (if decide ((k : Int) = (j : Int) + 1) = true then 1 else 0)) (List.range xs.length))) (List.range (xs.length - 1)) ++ [D.tup (List.map D.int xs)]) = (farR xs).map rowD := by
      simp [farR, Function.comp_def]
    rw [e3, show List.replicate xs.length (D.int 0) = (List.replicate xs.length (0 : Int)).map D.int by simp]
    simp only [nr, nrs, h1, h2, Bool.and_self]
/-- a rule as the law draws it -/
structure Drawn (mods : List Int) (most M : Int) (R : List (List Int)) (A : List Int) : Prop where
  mod : M ∈ mods
  many : 1 ≤ R.length ∧ R.length ≤ 7
  rows : ∀ r ∈ R, r.length = R.length ∧ ∀ x ∈ r, 0 ≤ x ∧ x < M
  add : A.length = R.length ∧ ∀ x ∈ A, 0 ≤ x ∧ x < M
  most : M ^ R.length ≤ most ∨ R.length = 1
theorem far_drawn {mods : List Int} {most M : Int} {xs : List Int} (hM : M ∈ mods) (h2 : 2 ≤ M) (hl : 1 ≤ xs.length ∧ xs.length ≤ 7) (hx : ∀ x ∈ xs, 0 ≤ x ∧ x < M) (hm : M ^ xs.length ≤ most ∨ xs.length = 1) : Drawn mods most M (farR xs) (List.replicate xs.length 0) := by
  have hlen : (farR xs).length = xs.length := by simp [farR]; omega
  refine ⟨hM, by omega, ?_, ⟨by rw [hlen, List.length_replicate], ?_⟩, by rw [hlen]; exact hm⟩
  · rw [hlen]
    intro r hr
    unfold farR at hr
    rcases List.mem_append.mp hr with hr | hr
    · obtain ⟨j, _, rfl⟩ := List.mem_map.mp hr
      refine ⟨by simp, ?_⟩
      intro x hx
      obtain ⟨k, _, rfl⟩ := List.mem_map.mp hx
      split <;> omega
    · rw [List.mem_singleton] at hr; subst hr; exact ⟨rfl, hx⟩
  · intro x hx
    rw [List.eq_of_mem_replicate hx]; omega
theorem sp_wide {n : Nat} {N : Int} {mods : List Int} {most : Int} {r m : Mem} (hn : 2 < n) (hm : Tn N r m) (hr : nrM r = true) (h0 : mods ≠ []) (hml : mods.length ≤ 1000) (hmods : ∀ M ∈ mods, 2 ≤ M ∧ M < 18446744073709551616) (hN : N < 900000000) (hN0 : 0 ≤ N) :
    wC (Cl Fs Gv n) i__law_wide_rule [.ref 0, .lst (mods.map .int), .int most] m (fun d m' => ∃ M R A, d = ruleD M R A ∧ Drawn mods most M R A ∧ Tn (N + 200) r m') NX := by
  have hlen := Tn_len hm
  refine w_defR (F := f__law_wide_rule) hn rfl rfl rfl fun kk hkk => ?_
  dsimp only [f__law_wide_rule]
  ktf_call "m"
  ktf_call "w"
  refine w_monoN (sp_of (by omega) hm hr (nrs_int mods) (by simpa using h0) (by rw [List.length_map]; omega) (by omega)) ?_
  rintro d m1 ⟨hd, hT1⟩
  obtain ⟨M, hM, rfl⟩ := List.mem_map.mp hd
  obtain ⟨hM2, hM3⟩ := hmods M hM
  ktf_call "w"
  refine w_monoN (sp_take (by omega) hT1 hr (by omega) (by omega)) ?_
  rintro _ m2 ⟨p0, rfl, ⟨hp0, hp1⟩, hT2⟩
  ktf_call "w"
  ktf_call "m"
  refine z_whl (fun j σ m' => ∃ p : Int, p = j + 1 ∧ 1 ≤ p ∧ p ≤ 7 ∧ m2 = m' ∧ σ = [some (.ref 0), some (.lst (mods.map .int)), some (.int most), some (.int M), some (.int p), none, none, none, none]) p0.toNat (by unfold whileW; omega) ⟨1 + p0, by omega, by omega, by omega, rfl, rfl⟩ ?_
  rintro j σ _ ⟨p, hpj, hp2, hp7, rfl, rfl⟩
  ktf_call "w"
  k_search (sp_power (by omega) ⟨by omega, hM3⟩ ⟨by omega, by omega⟩ (Tn_nr hT2 hr))
  ktf_call "w"
  refine ⟨fun hb => ?_, fun hb => ?_⟩
  · simp only [Bool.and_eq_true, decide_eq_true_eq] at hb
    ktf_call "w"
    exact ⟨j - 1, by omega, p - 1, by omega, by omega, by omega, rfl, rfl⟩
  obtain ⟨q, rfl⟩ : ∃ q : Nat, p = q := ⟨p.toNat, by omega⟩
  have hmost : M ^ q ≤ most ∨ q = 1 := by
    simp only [Int.toNat_natCast, Bool.and_eq_false_iff, decide_eq_false_iff_not] at hb
    omega
  ktf_call "w"
  refine w_monoN (sp_take (by omega) hT2 hr (by omega) (by omega)) ?_
  rintro _ m3 ⟨door, rfl, ⟨hd0, hd1⟩, hT3⟩
  ktf_call "w"
  refine ⟨fun hb => ?_, fun hb => ?_⟩
  · ktf_call "w"
    rw [Int.toNat_natCast]
    refine wl_dr D.int (fun x => 0 ≤ x ∧ x < M) 1 (by decide) hT3 (fun _ => sa_N0) rfl (by rw [List.length_range]; omega) ?_ ?_
    · intro a ha N' m' h1 h2 hT
      rw [List.length_range] at h2
      refine ⟨_, rfl, ?_⟩
      ktf_call "w"
      exact sp_take (by omega) hT hr ⟨by omega, hM3⟩ (by omega)
    · intro xs m4 hxl hxP hT4
      rw [List.length_range] at hxl hT4
      ktf_call "w"
      k_search (sp_far (by omega) (by omega) (Tn_nr hT4 hr))
      ktf_call "w"
      refine r_ret ?_ ?_ ⟨M, _, _, rfl, far_drawn hM hM2 (by omega) hxP (by rw [hxl]; exact hmost), ?_⟩
      · simp only [nr, nrs, nrs_int, Bool.and_true]
        exact nrs_map fun _ _ => nrs_int _
      · rw [hlen, Tn_take0 hT4]; exact Tn_nr hT4 hr
      · rw [hlen, Tn_take0 hT4]; exact Tn_le hT4 (by omega)
  ktf_call "w"
  rw [Int.toNat_natCast]
  refine wl_dr rowD (fun r => r.length = q ∧ ∀ x ∈ r, 0 ≤ x ∧ x < M) 14 (by decide) hT3 (fun _ => sa_N0) rfl (by rw [List.length_range]; omega) ?_ ?_
  · intro a ha N' m' h1 h2 hT
    rw [List.length_range] at h2
    refine ⟨_, rfl, ?_⟩
    ktf_call "w"
    rw [Int.toNat_natCast]
    refine wl_dr D.int (fun x => 0 ≤ x ∧ x < M) 2 (by decide) hT (fun _ => sa_N0) rfl (by rw [List.length_range]; omega) ?_ ?_
    · intro a ha N2 m5 h3 h4 hT5
      rw [List.length_range] at h4
      refine ⟨_, rfl, ?_⟩
      ktf_call "p"
      refine ⟨fun hb => ?_, fun hb => ?_⟩
      · ktf_call "p"
        refine w_monoN (sp_take (by omega) hT5 hr ⟨by omega, hM3⟩ (by omega)) ?_
        rintro _ m6 ⟨x, rfl, hx, hT6⟩
        exact ⟨x, rfl, hx, Tn_le hT6 (by omega)⟩
      · ktf_call "p"
        refine w_monoN (sp_take (by omega) hT5 hr (by omega) (by omega)) ?_
        rintro _ m6 ⟨x, rfl, hx, hT6⟩
        ktf_call "p"
        refine ⟨fun hb => ?_, fun hb => ?_⟩
        · ktf_call "p"
          refine w_monoN (sp_take (by omega) hT6 hr ⟨by omega, hM3⟩ (by omega)) ?_
          rintro _ m7 ⟨x, rfl, hx, hT7⟩
          exact ⟨x, rfl, hx, Tn_le hT7 (by omega)⟩
        · ktf_call "p"
          exact ⟨0, rfl, by omega, Tn_le hT6 (by omega)⟩
    · intro xs m8 hxl hxP hT8
      rw [List.length_range] at hxl hT8
      ktf_call "w"
      exact ⟨xs, rfl, ⟨hxl, hxP⟩, Tn_le hT8 (by omega)⟩
  intro R0 m9 hRl hRP hT9
  rw [List.length_range] at hRl hT9
  have hlen9 := Tn_len hT9
  ktf_call "w"
  have hr9 : nrM (r ++ [.lst (R0.map rowD)]) = true := by
    rw [nrM_app, hr, nrM_cons, nrM_nil]
    simp only [nrO, Bool.and_true, Bool.true_and]
    exact nrs_map fun _ _ => nrs_int _
  have hT9' : Tn (N + 101) (r ++ [.lst (R0.map rowD)]) (m9 ++ [.lst (R0.map rowD)]) := Tn_app (Tn_le hT9 (by omega))
  have fin : ∀ (R1 : List (List Int)) (m10 : Mem), R1.length = q → (∀ x ∈ R1, x.length = q ∧ ∀ y ∈ x, 0 ≤ y ∧ y < M) → Tn (N + 103) (r ++ [.lst (R1.map rowD)]) m10 →
      wSs (Cl Fs Gv kk) Gv whileW (.cons (.ret (.tup (.cons (.var 3) (.cons (.blt false .tuple (.cons (.var 6) .nil)) (.cons (.blt false .tuple (.cons (.lc false [8] (.nm 8) (.rng (.cons (.var 4) .nil)) .nil (.ife (.cmp .Eq (.call i__law_take (.cons (.var 0) (.cons (.cst (.int 2)) .nil))) (.cst (.int 0))) (.call i__law_take (.cons (.var 0) (.cons (.var 3) .nil))) (.cst (.int 0)))) .nil)) .nil)))))
        .nil) [some (.ref 0), some (.lst (mods.map .int)), some (.int most), some (.int M), some (.int q), some (.int door), some (.ref (r.length + 1)), none, none] m10 (fun _ m' => endR m.length (fun d m' => ∃ M R A, d = ruleD M R A ∧ Drawn mods most M R A ∧ Tn (N + 200) r m') (.ret .non m')) (endR m.length (fun d m' => ∃ M R A, d = ruleD M R A ∧ Drawn mods most M R A ∧ Tn (N + 200) r m')) := by
    intro R1 m10 h1 h2 hT10
    have hr10 : nrM (r ++ [.lst (R1.map rowD)]) = true := by
      rw [nrM_app, hr, nrM_cons, nrM_nil]
      simp only [nrO, Bool.and_true, Bool.true_and]
      exact nrs_map fun _ _ => nrs_int _
    ktf_call "w"
    refine p_tupR (xs := R1.map rowD) (by rw [Tn_get hT10]; simp) ?_
    ktf_call "w"
    rw [Int.toNat_natCast]
    refine wl_dr D.int (fun x => 0 ≤ x ∧ x < M) 2 (by decide) hT10 (fun _ => sa_N0) rfl (by rw [List.length_range]; omega) ?_ ?_
    · intro a ha N2 m5 h3 h4 hT5
      rw [List.length_range] at h4
      refine ⟨_, rfl, ?_⟩
      ktf_call "p"
      refine w_monoN (sp_take (by omega) hT5 hr10 (by omega) (by omega)) ?_
      rintro _ m6 ⟨x, rfl, hx, hT6⟩
      ktf_call "p"
      refine ⟨fun hb => ?_, fun hb => ?_⟩
      · ktf_call "p"
        refine w_monoN (sp_take (by omega) hT6 hr10 ⟨by omega, hM3⟩ (by omega)) ?_
        rintro _ m7 ⟨x, rfl, hx, hT7⟩
        exact ⟨x, rfl, hx, Tn_le hT7 (by omega)⟩
      · ktf_call "p"
        exact ⟨0, rfl, by omega, Tn_le hT6 (by omega)⟩
    · intro xs m8 hxl hxP hT8
      rw [List.length_range] at hxl hT8
      ktf_call "w"
      refine r_ret ?_ ?_ ⟨M, R1, xs, rfl, ⟨hM, by omega, fun x hx => by rw [h1]; exact h2 x hx, ⟨by omega, hxP⟩, by rw [h1]; exact hmost⟩, ?_⟩
      · simp only [nr, nrs, nrs_int, Bool.and_true, Bool.true_and]
        exact nrs_map fun _ _ => nrs_int _
      · rw [hlen]; exact Tn_nr (Tn_take hT8) hr
      · rw [hlen]; exact Tn_le (Tn_take hT8) (by omega)
  refine ⟨fun hb => ?_, fun hb => ?_⟩
  · simp only [Bool.and_eq_true, decide_eq_true_eq] at hb
    ktf_call "w"
    rw [hlen9]
    refine w_monoN (sp_ofR (q := r.length) (xs := R0.map rowD) (by omega) hT9' hr9 (by rw [List.getElem?_append_right (Nat.le_refl _), Nat.sub_self]; rfl) (by intro z; rw [List.map_eq_nil_iff] at z; rw [z] at hRl; simp at hRl; omega) (by rw [List.length_map]; omega) (by omega)) ?_
    rintro d m10 ⟨hd, hT10⟩
    obtain ⟨x0, hx0, rfl⟩ := List.mem_map.mp hd
    ktf_call "w"
    refine w_monoN (sp_take (by omega) hT10 hr9 (by omega) (by omega)) ?_
    rintro _ m11 ⟨j, rfl, ⟨hj0, hj1⟩, hT11⟩
    obtain ⟨i, rfl⟩ : ∃ i : Nat, j = i := ⟨j.toNat, by omega⟩
    refine put_ref (xs := R0.map rowD) (k := i) (by rw [Tn_get hT11]; simp) (ix_nat (by rw [List.length_map]; omega)) ?_
    refine z_nil ?_
    have hT12 := Tn_set (k := r.length) (o := .lst ((R0.map rowD).set i (rowD x0))) hT11
    rw [← List.map_set] at hT12 ⊢
    rw [m_set0] at hT12
    refine fin (R0.set i x0) _ (by rw [List.length_set]; exact hRl) ?_ (Tn_le hT12 (by omega))
    intro x hx
    rcases List.mem_or_eq_of_mem_set hx with hx | rfl
    · exact hRP x hx
    · exact hRP _ hx0
  · refine z_nil ?_
    rw [hlen9]
    exact fin R0 _ hRl hRP (Tn_le hT9' (by omega))
/-! ### what is heard -/
def sBad : D := .str (PySem.Str.ofString "BadText")
def hd0 (r : Except Nat (Int × List (List Int) × List Int)) : D := match r with
  | .error k => .tup [.str (PySem.Str.ofString "BadLine"), .int (k : Int)]
  | .ok (M, R, A) => ruleD M R A
def hd1 (o : Option (List Int)) : D := match o with
  | none => sBad
  | some xs => rowD xs
def hd2 (o : Option (List (List Int))) : D := match o with
  | none => sBad
  | some xs => rowsD xs
theorem nr_rule (M : Int) (R : List (List Int)) (A : List Int) : nr (ruleD M R A) = true := by
  simp only [nr, nrs, nrs_int, nrs_rows, Bool.and_self]
theorem sp_heard0 {n : Nat} {t : List Nat} {m : Mem} (hn : 7 < n) (ht : t.length ≤ 640) (ho : okL t = true) (hm : nrM m = true) : Cl Fs Gv n i__law_heard [.int 0, tx t] m = .ok (hd0 (ruleR t)) m := by
  refine w_def (F := f__law_heard) hn rfl rfl rfl hm fun k hk => ?_
  dsimp only [f__law_heard]
  ktf_call "m"
  ktf_call "p"
  refine w_xr (sp_read_rule (by omega) ht ho hm) ?_
  cases h : ruleR t with
  | error k => exact ty_exc (by decide) (e_ret (d := .tup [.str (PySem.Str.ofString "BadLine"), .int (k : Int)]) rfl rfl ex_app0)
  | ok p => (show endX m _ (.ret _ m); exact e_ret rfl (nr_rule _ _ _) ex_app0)
theorem sp_heard1 {n : Nat} {t : List Nat} {m : Mem} (hn : 4 < n) (ht : t.length ≤ 640) (ho : okL t = true) (hm : nrM m = true) : Cl Fs Gv n i__law_heard [.int 1, tx t] m = .ok (hd1 (rowR t)) m := by
  refine w_def (F := f__law_heard) hn rfl rfl rfl hm fun k hk => ?_
  dsimp only [f__law_heard]
  ktf_call "m"
  ktf_call "p"
  refine w_xr (cl_of 4 (fun k => sp_read_row k t m ht ho hm) (by omega)) ?_
  cases h : rowR t with
  | none => exact ty_exc (by decide) (e_ret (d := sBad) rfl rfl ex_app0)
  | some xs => (show endX m _ (.ret _ m); exact e_ret rfl (nrs_int xs) ex_app0)
theorem sp_heard2 {n : Nat} {t : List Nat} {m : Mem} (hn : 4 < n) (ht : t.length ≤ 640) (ho : okL t = true) (hm : nrM m = true) : Cl Fs Gv n i__law_heard [.int 2, tx t] m = .ok (hd2 (rowsX t)) m := by
  refine w_def (F := f__law_heard) hn rfl rfl rfl hm fun k hk => ?_
  dsimp only [f__law_heard]
  ktf_call "m"
  ktf_call "p"
  refine w_xr (sp_read_rows (by omega) ht ho hm) ?_
  cases h : rowsX t with
  | none => exact ty_exc (by decide) (e_ret (d := sBad) rfl rfl ex_app0)
  | some xs => (show endX m _ (.ret _ m); exact e_ret rfl (nrs_rows xs) ex_app0)
/-! ### bent at a sign -/
theorem cst_empty : cstD (.str "") = some (tx []) := by rw [cst_str, c_none]
theorem c_goods : PySem.Str.ofString "0123459 -/x\n" = mkS [48, 49, 50, 51, 52, 53, 57, 32, 45, 47, 120, 10] := by decide +kernel
theorem cst_goods : cstD (.str "0123459 -/x\n") = some (tx [48, 49, 50, 51, 52, 53, 57, 32, 45, 47, 120, 10]) := by rw [cst_str, c_goods]
theorem p_lenS {b : Bool} {l : List Nat} {m : Mem} {Q : D → Mem → Prop} (h : l.length ≤ 16777216) (q : Q (.int (l.length : Nat)) m) : pBlt b .len [tx l] m Q := by
  rw [pBlt_eq, blt_len, len_tx, if_pos (show l.length ≤ lim from h)]; exact p_some q
theorem p_listTx {l : List Nat} {m : Mem} {Q : D → Mem → Prop} (h : l.length ≤ 16777216) (q : Q (.lst (l.map fun c => tx [c])) m) : pBlt false .list [tx l] m Q := by
  rw [pBlt_eq]
  show wP (if (mkS l).length ≤ lim then mkL false ((mkS l).cps.toList.map fun c => .str ⟨#[c]⟩) m else none) Q
  rw [mkS_len, if_pos (show l.length ≤ lim from h)]
  exact p_some q
theorem x_tx {l : List Nat} {k c : Nat} {m : Mem} {R : D → Prop} (hl : l.length ≤ 16777216) (h : l[k]? = some c) (q : R (tx [c])) : tIdx m (tx l) (.int (k : Int)) R := by
  rw [tIdx_eq, idx_tx, if_pos (show l.length ≤ lim from hl), at_nat h]; exact o_some q
theorem okL1 {l : List Nat} {c : Nat} (h : okL l = true) (hc : c ∈ l) : okL [c] = true := by simpa [okL] using List.all_eq_true.mp h c hc
theorem sp_bent {n : Nat} {N : Int} {t : List Nat} {r m : Mem} (hn : 2 < n) (hT : Tn N r m) (hr : nrM r = true) (ht : t.length ≤ 600) (ho : okL t = true) (hN : N < 900000000) :
    wC (Cl Fs Gv n) i__law_bent [.ref 0, tx t] m (fun d m' => ∃ t', d = tx t' ∧ t'.length ≤ t.length + 1 ∧ okL t' = true ∧ Tn (N + 3) r m') NX := by
  have hlen := Tn_len hT
  refine w_defR (F := f__law_bent) hn rfl rfl rfl fun kk hkk => ?_
  dsimp only [f__law_bent]
  ktf_call "m"
  have fin : ∀ (t' : List Nat) (m' : Mem) (N' : Int), t'.length ≤ t.length + 1 → okL t' = true → Tn N' r m' → N' ≤ N + 3 → endR m.length (fun d m' => ∃ t', d = tx t' ∧ t'.length ≤ t.length + 1 ∧ okL t' = true ∧ Tn (N + 3) r m') (.ret (tx t') m') := fun t' m' N' h1 h2 h3 h4 => by
    refine r_ret rfl ?_ ⟨t', rfl, h1, h2, ?_⟩
    · rw [hlen, Tn_take0 h3]; exact Tn_nr h3 hr
    · rw [hlen, Tn_take0 h3]; exact Tn_le h3 h4
  refine z_cons (z_iff (w_cmp (w_var rfl (w_cst cst_empty ?_))))
  refine o_eqs ho rfl ?_
  ktf_call "tp"
  refine ⟨fun hb => ?_, fun hb => ?_⟩
  · ktf_call "tp"
    exact fin [32] m N (by simp) rfl hT (by omega)
  have hne : t ≠ [] := by simpa using hb
  have hpos := List.length_pos_iff.mpr hne
  ktf_call "tp"
  refine p_lenS (by omega) ?_
  ktf_call "tp"
  refine w_monoN (sp_take (by omega) hT hr (by omega) (by omega)) ?_
  rintro _ m1 ⟨k0, rfl, ⟨hk0, hk1⟩, hT1⟩
  obtain ⟨k, rfl⟩ : ∃ k : Nat, k0 = k := ⟨k0.toNat, by omega⟩
  have hk : k < t.length := by omega
  obtain ⟨c, hc⟩ : ∃ c, t[k]? = some c := ⟨_, List.getElem?_eq_getElem hk⟩
  have hcm := List.mem_of_getElem? hc
  have c1 : cutL t none (some (k : Int)) = t.take k := cut_take t k
  have c2 : cutL t (some ((k : Int) + 1)) none = t.drop (k + 1) := cut_drop t (k + 1)
  have c3 : cutL t (some (k : Int)) none = t.drop k := cut_drop t k
  have l1 : (t.take k).length = k := by rw [List.length_take]; omega
  have l2 : (t.drop (k + 1)).length = t.length - (k + 1) := by rw [List.length_drop]
  have l3 : (t.drop k).length = t.length - k := by rw [List.length_drop]
  ktf_call "tp"
  refine w_monoN (sp_take (by omega) hT1 hr (by omega) (by omega)) ?_
  rintro _ m2 ⟨w, rfl, ⟨hw0, hw1⟩, hT2⟩
  ktf_call "tp"
  refine ⟨fun hb => ?_, fun hb => ?_⟩
  · ktf_call "tp"
    refine p_slcS (by omega) ?_
    ktf_call "tp"
    refine p_slcS (by omega) ?_
    rw [c1, c2]
    refine p_addS (by omega) ?_
    exact fin _ m2 _ (by rw [List.length_append]; omega) (okL_app (okL_take k ho) (okL_drop _ ho)) hT2 (by omega)
  ktf_call "tp"
  refine ⟨fun hb => ?_, fun hb => ?_⟩
  · ktf_call "tp"
    refine p_slcS (by omega) ?_
    ktf_call "tp"
    refine x_tx (by omega) hc ?_
    rw [c1]
    refine p_addS (by simp; omega) ?_
    ktf_call "tp"
    refine p_slcS (by omega) ?_
    rw [c3]
    refine p_addS (by simp; omega) ?_
    exact fin _ m2 _ (by simp; omega) (okL_app (okL_app (okL_take k ho) (okL1 ho hcm)) (okL_drop _ ho)) hT2 (by omega)
  ktf_call "tp"
  refine ⟨fun hb => ?_, fun hb => ?_⟩
  · ktf_call "tp"
    refine p_slcS (by omega) ?_
    rw [c1]
    exact fin _ m2 _ (by omega) (okL_take k ho) hT2 (by omega)
  ktf_call "tp"
  refine p_slcS (by omega) ?_
  rw [c1]
  refine w_call (ws_cons (w_var rfl (ws_cons (w_blt (ws_cons (w_cst cst_goods (ws_nil ?_)))))))
  refine p_listTx (by decide) ?_
  ktf_call "tp"
  refine w_monoN (sp_of (by omega) hT2 hr rfl (by decide) (by decide) (by omega)) ?_
  rintro d m3 ⟨hd, hT3⟩
  obtain ⟨c', hc', rfl⟩ := List.mem_map.mp hd
  have hoc : okL [c'] = true := okL1 (l := [48, 49, 50, 51, 52, 53, 57, 32, 45, 47, 120, 10]) rfl hc'
  refine p_addS (by simp; omega) ?_
  ktf_call "tp"
  refine p_slcS (by omega) ?_
  rw [c2]
  refine p_addS (by simp; omega) ?_
  exact fin _ m3 _ (by simp; omega) (okL_app (okL_app (okL_take k ho) hoc) (okL_drop _ ho)) hT3 (by omega)
/-! ### what is written is read again -/
def okc (c : Nat) : Bool := isDig c || c == 45 || c == 32
theorem okc_num (i : Int) : ∀ c ∈ numT i, okc c = true := by
  have hd : ∀ c ∈ TL.numL i.natAbs, okc c = true := fun c hc => by
    have := TL.numL_digits i.natAbs c hc
    simp [okc, isDig]; omega
  intro c hc
  unfold numT at hc
  split at hc
  · rcases List.mem_cons.mp hc with rfl | hc
    · rfl
    · exact hd c hc
  · exact hd c hc
theorem joinL_all {z : List Nat} {p : Nat → Bool} {l : List (List Nat)} (hz : ∀ c ∈ z, p c = true) (h : ∀ w ∈ l, ∀ c ∈ w, p c = true) : ∀ c ∈ TL.joinL z l, p c = true := by
  induction l with
  | nil => intro c hc; cases hc
  | cons w l ih =>
    have h1 := h w List.mem_cons_self
    have h2 := ih fun q hq => h q (List.mem_cons_of_mem _ hq)
    cases l with
    | nil => exact h1
    | cons q l =>
      rw [joinL_cons (by simp)]
      intro c hc
      rcases List.mem_append.mp hc with hc | hc
      · exact h1 c hc
      · rcases List.mem_append.mp hc with hc | hc
        · exact hz c hc
        · exact h2 c hc
theorem okc_row (xs : List Int) : ∀ c ∈ rowT xs, okc c = true := by
  unfold rowT
  split
  · intro c hc; rw [List.mem_singleton] at hc; subst hc; rfl
  · exact joinL_all (fun c hc => by rw [List.mem_singleton] at hc; subst hc; rfl) fun w hw => by
      obtain ⟨x, _, rfl⟩ := List.mem_map.mp hw
      exact okc_num x
theorem pre_bet {p q : List Nat} (h : 47 ∉ p) (hq : q.head? ≠ some 47) : ∀ i, i < p.length → TL.pre cBetween ((p ++ q).drop i) = false := by
  intro i hi
  by_cases h1 : i + 1 < p.length
  · have e : (p ++ q).drop i = p[i] :: p[i + 1] :: (p ++ q).drop (i + 2) := by
      rw [List.drop_eq_getElem_cons (by rw [List.length_append]; omega), List.drop_eq_getElem_cons (by rw [List.length_append]; omega), List.getElem_append_left hi, List.getElem_append_left h1]
    have hne : p[i + 1] ≠ 47 := fun z => h (z ▸ List.getElem_mem h1)
    rw [e]
    apply Bool.eq_false_iff.mpr
    intro z
    have z := eq_of_beq z
    simp [cBetween] at z
    exact hne z.2.1
  · have hi2 : i + 1 = p.length := by omega
    have e : (p ++ q).drop i = p[i] :: q := by
      rw [List.drop_eq_getElem_cons (by rw [List.length_append]; omega), List.getElem_append_left hi, hi2, List.drop_left]
    rw [e]
    apply Bool.eq_false_iff.mpr
    intro z
    have z := eq_of_beq z
    cases q with
    | nil => simp [cBetween] at z
    | cons a q =>
      simp [cBetween] at z
      exact hq (by rw [z.2.1]; rfl)
theorem spl_between : ∀ {parts : List (List Nat)}, parts ≠ [] → (∀ p ∈ parts, 47 ∉ p) → TL.spl cBetween 0 [] (TL.joinL cBetween parts) = parts
  | [], h, _ => absurd rfl h
  | [p], _, h => by
    have := TL.spl_last (S := cBetween) (p := p) (acc := []) fun i hi => by
      have := pre_bet (p := p) (q := []) (h p List.mem_cons_self) (by simp) i hi
      rwa [List.append_nil] at this
    exact this
  | p :: q :: l, _, h => by
    rw [joinL_cons (by simp), TL.spl_part (by decide) (pre_bet (h p List.mem_cons_self) (by simp [cBetween])), spl_between (by simp) fun z hz => h z (List.mem_cons_of_mem _ hz)]
    rfl
theorem rowsX_T (R : List (List Int)) : rowsX (rowsT R) = some R := by
  unfold rowsX rowsT
  by_cases h : R = []
  · subst h; rfl
  · rw [if_neg h]
    have hne : R.map rowT ≠ [] := by simpa using h
    have h1 : TL.joinL cBetween (R.map rowT) ≠ cNone := by
      intro e
      have hall := joinL_all (z := cBetween) (p := fun c => okc c || c == 47) (l := R.map rowT) (by decide) fun w hw c hc => by
        obtain ⟨xs, _, rfl⟩ := List.mem_map.mp hw
        simp [okc_row xs c hc]
      rw [e] at hall
      have := hall 110 (by decide)
      revert this
      decide
    rw [if_neg h1, spl_between hne fun p hp hc => by
      obtain ⟨xs, _, rfl⟩ := List.mem_map.mp hp
      have := okc_row xs 47 hc
      revert this
      decide]
    rw [List.map_map, show (rowR ∘ rowT) = some from funext rowR_num, oAll_map]
theorem lineR_T {L : List (List Nat)} {k : Nat} {h : List Nat} {xs : List Int} (e : L[k]? = some (h ++ rowT xs)) (hne : xs ≠ []) : lineR L k h = some xs := by
  unfold lineR
  rw [e]
  simp [rowR_num, hne]
theorem rowsR_T {L : List (List Nat)} {M : Int} {n : Nat} : ∀ (R : List (List Int)) (k : Nat), (∀ i r, R[i]? = some r → L[k + i]? = some (cRow ++ rowT r)) → (∀ r ∈ R, r ≠ [] ∧ r.length = n ∧ allB (inB M) r = true) → rowsR L M n R.length k = .ok R
  | [], k, _, _ => rfl
  | r :: R, k, h, h2 => by
    have h3 := h2 r List.mem_cons_self
    simp only [List.length_cons, rowsR]
    have h0 : L[k]? = some (cRow ++ rowT r) := h 0 r rfl
    rw [lineR_T h0 h3.1]
    simp only [h3.2, and_self, if_true]
    rw [rowsR_T R (k + 1) (fun i r hi => by rw [← h (i + 1) r (by simpa using hi)]; congr 1; omega) fun r hr => h2 r (List.mem_cons_of_mem _ hr)]
theorem ruleR_T {M : Int} {R : List (List Int)} {A : List Int} (g : Good M R A) : ruleR (ruleT M R A) = .ok (M, R, A) := by
  have hfree : ∀ p ∈ ruleL M R A, 10 ∉ p := by
    have hr : ∀ xs, 10 ∉ rowT xs := fun xs hc => by
      have := okc_row xs 10 hc
      revert this; decide
    have hn : 10 ∉ numT M := fun hc => by
      have := okc_num M 10 hc
      revert this; decide
    intro p hp
    unfold ruleL at hp
    rcases List.mem_append.mp hp with hp | hp
    · rcases List.mem_cons.mp hp with rfl | hp
      · intro hc; rcases List.mem_append.mp hc with hc | hc
        · revert hc; decide
        · exact hn hc
      · obtain ⟨r, _, rfl⟩ := List.mem_map.mp hp
        intro hc; rcases List.mem_append.mp hc with hc | hc
        · revert hc; decide
        · exact hr _ hc
    · rw [List.mem_singleton] at hp; subst hp
      intro hc; rcases List.mem_append.mp hc with hc | hc
      · revert hc; decide
      · exact hr _ hc
  have hR0 : 0 < R.length := List.length_pos_iff.mpr g.ne
  have hne : ∀ r ∈ R, r ≠ [] := fun r hr z => by have := (g.rows r hr).1; rw [z] at this; simp at this; omega
  have hs : TL.spl [10] 0 [] (ruleT M R A) = ruleL M R A := TL.spl_join (by simp [ruleL]) hfree
  unfold ruleR
  rw [hs]
  have e0 : lineR (ruleL M R A) 0 cModulus = some [M] := lineR_T rfl (by simp)
  have er : ∀ i r, R[i]? = some r → (ruleL M R A)[1 + i]? = some (cRow ++ rowT r) := fun i r hi => by
    have hlt := (List.getElem?_eq_some_iff.mp hi).1
    unfold ruleL
    rw [List.getElem?_append_left (by simp; omega), Nat.add_comm, List.getElem?_cons_succ, List.getElem?_map, hi]
    rfl
  obtain ⟨r1, Rt, hRe⟩ := List.exists_cons_of_ne_nil g.ne
  have hr1 := g.rows r1 (by rw [hRe]; exact List.mem_cons_self)
  have e1 : lineR (ruleL M R A) 1 cRow = some r1 := lineR_T (er 0 r1 (by rw [hRe]; rfl)) (hne r1 (by rw [hRe]; exact List.mem_cons_self))
  have e2 : rowsR (ruleL M R A) M R.length R.length 1 = .ok R := by
    exact rowsR_T R 1 er fun r hr => ⟨hne r hr, (g.rows r hr).1, (g.rows r hr).2⟩
  have e3 : lineR (ruleL M R A) (R.length + 1) cAdded = some A := by
    refine lineR_T ?_ ?_
    · unfold ruleL
      rw [List.getElem?_append_right (by simp)]
      simp
    · intro z; have := g.add.1; rw [z] at this; simp at this; omega
  have hL : (ruleL M R A).length = R.length + 2 := by simp [ruleL]
  unfold ruleX
  rw [e0]
  have h2 : ¬ M < 2 := by have := g.two; omega
  simp only [List.length_singleton, List.headD_cons, h2, not_false_eq_true, and_self, if_true, e1, hr1.1, e2, e3, g.add.2, g.add.1, hL, Nat.lt_irrefl, if_false]
theorem okL_okc {l : List Nat} (h : ∀ c ∈ l, okc c = true ∨ c < 1000) : okL l = true := by
  unfold okL
  rw [List.all_eq_true]
  intro c hc
  rcases h c hc with h | h
  · simp [okc, isDig] at h
    exact decide_eq_true (by omega)
  · exact decide_eq_true (by omega)
theorem rowT_le {xs : List Int} {a b : Nat} (h1 : xs.length ≤ a) (h2 : ∀ x ∈ xs, (numT x).length ≤ b) : (rowT xs).length ≤ a * (b + 1) + 1 := by
  unfold rowT
  split
  · simp
  · have := joinL_len (z := [32]) (l := xs.map numT) (k := b) fun p hp => by
      obtain ⟨x, hx, rfl⟩ := List.mem_map.mp hp
      exact h2 x hx
    rw [List.length_map] at this
    have h3 : xs.length * (b + [32].length) ≤ a * (b + 1) := Nat.mul_le_mul_right _ h1
    omega
theorem drawn_good {M : Int} {R : List (List Int)} {A : List Int} (h : Drawn [2, 3, 5, 10, 12, 100, 1000] (10 ^ (9 : Nat)) M R A) : Good M R A ∧ SmallRule M R A ∧ (ruleT M R A).length ≤ 400 ∧ okL (ruleT M R A) = true := by
  have hM : 2 ≤ M ∧ M ≤ 1000 := by
    have := h.mod
    simp at this
    omega
  have hlen := h.many
  have hrow : ∀ r ∈ R, r.length ≤ 7 ∧ ∀ x ∈ r, x.natAbs < 10 ^ 3 := fun r hr => by
    obtain ⟨a, b⟩ := h.rows r hr
    exact ⟨by omega, fun x hx => by have := b x hx; omega⟩
  have hA : A.length ≤ 7 ∧ ∀ x ∈ A, x.natAbs < 10 ^ 3 := by
    obtain ⟨a, b⟩ := h.add
    exact ⟨by omega, fun x hx => by have := b x hx; omega⟩
  have hrl : ∀ r : List Int, (r.length ≤ 7 ∧ ∀ x ∈ r, x.natAbs < 10 ^ 3) → (rowT r).length ≤ 36 := fun r hr =>
    rowT_le hr.1 fun x hx => numT_len (k := 3) (by decide) (hr.2 x hx)
  have hin : ∀ r : List Int, (∀ x ∈ r, 0 ≤ x ∧ x < M) → allB (inB M) r = true := fun r hr => by
    unfold allB
    rw [List.all_eq_true]
    intro x hx
    have := hr x hx
    simp [inB]; omega
  refine ⟨⟨hM.1, fun z => by rw [z] at hlen; simp at hlen, by omega, fun r hr => ⟨(h.rows r hr).1, hin r (h.rows r hr).2⟩, ⟨h.add.1, hin A h.add.2⟩⟩, ⟨by omega, ⟨by omega, fun r hr => ⟨⟨by have := (hrow r hr).1; omega, fun x hx => Nat.lt_trans ((hrow r hr).2 x hx) (by decide)⟩, by have := (hrow r hr).1; omega⟩⟩, ⟨by have := hA.1; omega, fun x hx => Nat.lt_trans (hA.2 x hx) (by decide)⟩, by have := hA.1; omega⟩, ?_, ?_⟩
  · have h1 : ∀ p ∈ ruleL M R A, p.length ≤ 43 := fun p hp => by
      unfold ruleL at hp
      rcases List.mem_append.mp hp with hp | hp
      · rcases List.mem_cons.mp hp with rfl | hp
        · have := numT_len (i := M) (k := 4) (by decide) (by omega)
          rw [List.length_append, show cModulus.length = 8 from rfl]; omega
        · obtain ⟨r, hr, rfl⟩ := List.mem_map.mp hp
          have := hrl r (hrow r hr)
          rw [List.length_append, show cRow.length = 4 from rfl]; omega
      · rw [List.mem_singleton] at hp; subst hp
        have := hrl A hA
        rw [List.length_append, show cAdded.length = 6 from rfl]; omega
    have := joinL_len (z := [10]) h1
    have hL : (ruleL M R A).length = R.length + 2 := by simp [ruleL]
    rw [hL, List.length_singleton] at this
    have h9 : (R.length + 2) * (43 + 1) ≤ 9 * 44 := Nat.mul_le_mul_right _ (by omega)
    show (TL.joinL [10] (ruleL M R A)).length ≤ 400
    omega
  · refine okL_join rfl fun p hp => ?_
    unfold ruleL at hp
    rcases List.mem_append.mp hp with hp | hp
    · rcases List.mem_cons.mp hp with rfl | hp
      · exact okL_app (by decide) (okL_num M)
      · obtain ⟨r, hr, rfl⟩ := List.mem_map.mp hp
        exact okL_app (by decide) (okL_rowT r)
    · rw [List.mem_singleton] at hp; subst hp
      exact okL_app (by decide) (okL_rowT A)
theorem lay_row (xs : List Int) : lay (rowD xs) = true := by simp only [lay, lays_ints]
theorem lay_rows (R : List (List Int)) : lay (rowsD R) = true := by simp only [lay, lays_rows]
theorem lay_rule (M : Int) (R : List (List Int)) (A : List Int) : lay (ruleD M R A) = true := by simp only [lay, lays, lays_ints, lays_rows, Bool.and_self]
theorem dep_row (xs : List Int) : dep (rowD xs) ≤ 1 := by simp only [dep, deps_ints]; omega
theorem dep_rows (R : List (List Int)) : dep (rowsD R) ≤ 2 := by have := deps_rows R; simp only [dep]; omega
theorem dep_rule (M : Int) (R : List (List Int)) (A : List Int) : dep (ruleD M R A) ≤ 3 := by
  have h1 := dep_rows R
  have h2 := dep_row A
  have : dep (ruleD M R A) = max (dep (.int M)) (max (dep (rowsD R)) (max (dep (rowD A)) 0)) + 1 := by simp only [dep, deps]
  rw [this]
  have : dep (.int M) = 0 := rfl
  omega
theorem fews_ints (xs : List Int) : fews (xs.map D.int) = true := by
  induction xs with
  | nil => rfl
  | cons x xs ih => simp only [List.map_cons, fews, few, ih, Bool.and_self]
theorem few_row {xs : List Int} (h : xs.length ≤ 64) : few (rowD xs) = true := by
  simp only [few, fews_ints, List.length_map, decide_eq_true h, Bool.and_self]
theorem fews_rows {R : List (List Int)} (h : ∀ r ∈ R, r.length ≤ 64) : fews (R.map rowD) = true := by
  induction R with
  | nil => rfl
  | cons r R ih => simp only [List.map_cons, fews, few_row (h r List.mem_cons_self), ih fun x hx => h x (List.mem_cons_of_mem _ hx), Bool.and_self]
theorem few_rows {R : List (List Int)} (h0 : R.length ≤ 64) (h : ∀ r ∈ R, r.length ≤ 64) : few (rowsD R) = true := by
  simp only [few, fews_rows h, List.length_map, decide_eq_true h0, Bool.and_self]
theorem few_rule {M : Int} {R : List (List Int)} {A : List Int} (h0 : R.length ≤ 64) (h : ∀ r ∈ R, r.length ≤ 64) (ha : A.length ≤ 64) : few (ruleD M R A) = true := by
  have h1 := few_rows h0 h
  have h2 := few_row ha
  simp only [few, fews, Bool.and_true]
  simp only [few] at h1 h2
  rw [h1, h2]
  rfl
theorem tupDs_ints (xs : List Int) : tupDs (xs.map D.int) = xs.map D.int := by
  rw [tupDs_map, List.map_map]; rfl
theorem tup_row (xs : List Int) : tupD (rowD xs) = rowD xs := by simp only [tupD, tupDs_ints]
theorem tup_rows (R : List (List Int)) : tupD (rowsD R) = rowsD R := by
  simp only [tupD, tupDs_map, List.map_map]
  congr 1
  exact List.map_congr_left fun r _ => tup_row r
theorem tup_rule (M : Int) (R : List (List Int)) (A : List Int) : tupD (ruleD M R A) = ruleD M R A := by
  have h1 := tup_rows R
  have h2 := tup_row A
  simp only [tupD, tupDs] at h1 h2 ⊢
  rw [h1, h2]
theorem tup_lrow (xs : List Int) : tupD (.lst (xs.map .int)) = rowD xs := by simp only [tupD, tupDs_ints]
theorem lst_row (xs : List Int) : lstD (rowD xs) = .lst (xs.map .int) := by
  simp only [lstD, lstDs_map, List.map_map]
  rfl
theorem lst_rows (R : List (List Int)) : lstD (rowsD R) = .lst (R.map fun r => .lst (r.map .int)) := by
  simp only [lstD, lstDs_map, List.map_map]
  congr 1
  exact List.map_congr_left fun r _ => lst_row r
theorem tup_lrows (R : List (List Int)) : tupD (lstD (rowsD R)) = rowsD R := by
  rw [lst_rows]
  simp only [tupD, tupDs_map, List.map_map]
  congr 1
  exact List.map_congr_left fun r _ => tup_lrow r
theorem lst_rule (M : Int) (R : List (List Int)) (A : List Int) : lstD (ruleD M R A) = .lst [.int M, lstD (rowsD R), lstD (rowD A)] := by
  simp only [lstD, lstDs]
theorem tup_lrule (M : Int) (R : List (List Int)) (A : List Int) : tupD (lstD (ruleD M R A)) = ruleD M R A := by
  rw [lst_rule]
  have h1 := tup_lrows R
  have h2 : tupD (lstD (rowD A)) = rowD A := by rw [lst_row]; exact tup_lrow A
  show D.tup (tupDs [.int M, lstD (rowsD R), lstD (rowD A)]) = _
  simp only [tupDs, h1, h2]
  rfl
mutual
theorem lstD_lay : ∀ d : D, lay d = true → lay (lstD d) = true
  | .non, _ => rfl
  | .bl _, _ => rfl
  | .int _, _ => rfl
  | .str _, h => h
  | .tup xs, h => by simp only [lstD, lay] at h ⊢; exact lstDs_lay xs h
  | .lst xs, h => by simp only [lstD, lay] at h ⊢; exact lstDs_lay xs h
  | .scr _, h => by simp [lay] at h
  | .dct _ _, h => by simp [lay] at h
  | .ref _, h => by simp [lay] at h
  | .exn _ _, h => by simp [lay] at h
theorem lstDs_lay : ∀ ds : List D, lays ds = true → lays (lstDs ds) = true
  | [], _ => rfl
  | d :: ds, h => by
    simp only [lays, Bool.and_eq_true] at h
    simp only [lstDs, lays, lstD_lay d h.1, lstDs_lay ds h.2, Bool.and_self]
end
mutual
theorem lstD_dep : ∀ d : D, lay d = true → dep (lstD d) = dep d
  | .non, _ => rfl
  | .bl _, _ => rfl
  | .int _, _ => rfl
  | .str _, h => rfl
  | .tup xs, h => by simp only [lstD, dep, lay] at h ⊢; rw [lstDs_dep xs h]
  | .lst xs, h => by simp only [lstD, dep, lay] at h ⊢; rw [lstDs_dep xs h]
  | .scr _, h => by simp [lay] at h
  | .dct _ _, h => by simp [lay] at h
  | .ref _, h => by simp [lay] at h
  | .exn _ _, h => by simp [lay] at h
theorem lstDs_dep : ∀ ds : List D, lays ds = true → deps (lstDs ds) = deps ds
  | [], _ => rfl
  | d :: ds, h => by
    simp only [lays, Bool.and_eq_true] at h
    simp only [lstDs, deps, lstD_dep d h.1, lstDs_dep ds h.2]
end
mutual
theorem lstD_few : ∀ d : D, few d = true → few (lstD d) = true
  | .non, _ => rfl
  | .bl _, _ => rfl
  | .int _, _ => rfl
  | .str _, h => rfl
  | .tup xs, h => by
    simp only [lstD, few, Bool.and_eq_true] at h ⊢
    exact ⟨by rw [lstDs_map, List.length_map]; exact h.1, lstDs_few xs h.2⟩
  | .lst xs, h => by
    simp only [lstD, few, Bool.and_eq_true] at h ⊢
    exact ⟨by rw [lstDs_map, List.length_map]; exact h.1, lstDs_few xs h.2⟩
  | .scr _, h => rfl
  | .dct _ _, h => rfl
  | .ref _, h => rfl
  | .exn _ _, h => rfl
theorem lstDs_few : ∀ ds : List D, fews ds = true → fews (lstDs ds) = true
  | [], _ => rfl
  | d :: ds, h => by
    simp only [fews, Bool.and_eq_true] at h
    simp only [lstDs, fews, lstD_few d h.1, lstDs_few ds h.2, Bool.and_self]
end
theorem Few.lst {d : D} {k : Nat} (h : Few d k) : Few (lstD d) k := ⟨by rw [lstD_dep d h.lay]; exact h.dep, lstD_lay d h.lay, lstD_few d h.few⟩
theorem few_of_row {xs : List Int} (h : xs.length ≤ 64) : Few (rowD xs) 1 := ⟨dep_row xs, lay_row xs, few_row h⟩
theorem few_of_rows {R : List (List Int)} (h0 : R.length ≤ 64) (h : ∀ r ∈ R, r.length ≤ 64) : Few (rowsD R) 2 := ⟨dep_rows R, lay_rows R, few_rows h0 h⟩
theorem few_of_rule {M : Int} {R : List (List Int)} {A : List Int} (h0 : R.length ≤ 64) (h : ∀ r ∈ R, r.length ≤ 64) (ha : A.length ≤ 64) : Few (ruleD M R A) 3 := ⟨dep_rule M R A, lay_rule M R A, few_rule h0 h ha⟩
theorem sp_same {n k : Nat} {d : D} {m : Mem} (hn : k < n) (h : Few d k) (hm : nrM m = true) : Cl Fs Gv n i__law_same [d, d] m = .ok (.bl true) m :=
  cl_of (k + 1) (fun j => sp__law_same k j d m h.dep h.lay h.few hm) (by omega)
theorem few_str {l : Str} (h : okS l = true) : Few (.str l) 0 := ⟨Nat.le_refl _, h, rfl⟩
theorem few_bad (k : Nat) : Few (.tup [.str (PySem.Str.ofString "BadLine"), .int (k : Int)]) 1 := ⟨Nat.le_refl _, by
  have : okS (PySem.Str.ofString "BadLine") = true := by decide +kernel
  simp only [lay, lays, this, Bool.and_self], rfl⟩
theorem ok_badtext : okS (PySem.Str.ofString "BadText") = true := by decide +kernel
def lapB : Ss := match f_law.body.tl.hd with
  | .for _ _ b => b
  | _ => .nil
def turnB : Ss := match lapB.tl.tl.tl.tl.tl.tl.hd with
  | .for _ _ b => b
  | _ => .nil
theorem o_isnB {m : Mem} {a b : Bool} {B : Bool → Prop} (q : B (!decide (a = b))) : tCmp m .IsNot (.bl a) (.bl b) B := by rw [tCmp_eq, cmp_isn, is_bl]; exact o_some q
theorem law_turn {k : Nat} {N : Int} {ns : List Int} {M : Int} {R : List (List Int)} {A xs : List Int} {Rs : List (List Int)} {lap got : D} {t0 t1 t2 : List Nat} {m : Mem} {Q : D → Mem → Prop} {N' : Sl → Mem → Prop} (hk : 10 ≤ k) (hT : Tn N [] m) (hN : N < 800000000) (hN0 : 0 ≤ N)
    (h0 : t0.length ≤ 420 ∧ okL t0 = true) (h1 : t1.length ≤ 50 ∧ okL t1 = true) (h2 : t2.length ≤ 50 ∧ okL t2 = true) (o8 o9 o10 o11 o12 o13 o14 o15 o16 o17 : Option D) (a : D)
    (hN' : ∀ m' o9 o10 o11 o12 o13 o14 o15 o16 o17, Tn (N + 20) [] m' → N' [some (.scr (ns.map .int)), some (.ref 0), some lap, some (ruleD M R A), some (rowD xs), some (rowsD Rs), some (.lst [tx t0, tx t1, tx t2]), some got, some a, o9, o10, o11, o12, o13, o14, o15, o16, o17] m') :
    wSs (Cl Fs Gv k) Gv whileW turnB [some (.scr (ns.map .int)), some (.ref 0), some lap, some (ruleD M R A), some (rowD xs), some (rowsD Rs), some (.lst [tx t0, tx t1, tx t2]), some got, some a, o9, o10, o11, o12, o13, o14, o15, o16, o17] m N' (endR 0 Q) := by
  have hr : nrM [] = true := rfl
  unfold turnB lapB
  dsimp only [f_law, Ss.tl, Ss.hd]
  ktf_call "tp"
  refine w_monoN (sp_bent (by omega) hT hr (by omega) h0.2 (by omega)) ?_
  rintro _ m1 ⟨b1, rfl, hb1, ho1, hT1⟩
  ktf_call "tp"
  refine w_monoN (sp_take (by omega) hT1 hr (by omega) (by omega)) ?_
  rintro _ m2 ⟨w, rfl, ⟨hw0, hw1⟩, hT2⟩
  ktf_call "tp"
  refine f_inv (fun i σ m' => Tn (N + 4 + 3 * i) [] m' ∧ ∃ (b : List Nat) (o10 : Option D), b.length ≤ t0.length + 1 + i ∧ okL b = true ∧ σ = [some (.scr (ns.map .int)), some (.ref 0), some lap, some (ruleD M R A), some (rowD xs), some (rowsD Rs), some (.lst [tx t0, tx t1, tx t2]), some got, some a, some (tx b), o10, o11, o12, o13, o14, o15, o16, o17]) (fun _ _ _ _ => sa_N0) ⟨Tn_le hT2 (by omega), b1, o10, by omega, ho1, rfl⟩ ?_ ?_
  · rintro i σ m' j ⟨hTi, b, o10, hbl, hbo, rfl⟩ hj
    have hi : i < w.toNat := by have := (List.getElem?_eq_some_iff.mp hj).1; rwa [List.length_range] at this
    refine ⟨_, rfl, ?_⟩
    ktf_call "tp"
    refine w_monoN (sp_bent (by omega) hTi hr (by omega) hbo (by omega)) ?_
    rintro _ m3 ⟨b2, rfl, hb2, ho2, hT3⟩
    ktf_call "tp"
    exact ⟨Tn_le hT3 (by omega), b2, _, by omega, ho2, rfl⟩
  rintro σ m3 ⟨hT3, b, o10, hbl, hbo, rfl⟩
  rw [List.length_range] at hT3 hbl
  have hb : b.length ≤ 430 := by omega
  have hm3 := Tn_nr hT3 hr
  ktf_call "tp"
  k_search (sp_heard0 (by omega) (by omega) hbo hm3)
  ktf_call "tp"
  k_search (sp_bad_line (by omega) (by omega) hbo hm3)
  have part2 : ∀ (o13 o14 : Option D), wSs (Cl Fs Gv k) Gv whileW (match turnB with
      | .cons _ (.cons _ (.cons _ (.cons _ r))) => r
      | _ => .nil) [some (.scr (ns.map .int)), some (.ref 0), some lap, some (ruleD M R A), some (rowD xs), some (rowsD Rs), some (.lst [tx t0, tx t1, tx t2]), some got, some a, some (tx b), o10, o11, o12, o13, o14, o15, o16, o17] m3 N' (endR 0 Q) := by
    intro o13 o14
    unfold turnB lapB
    dsimp only [f_law, Ss.tl, Ss.hd]
    ktf_call "tp"
    refine w_monoN (sp_bent (by omega) hT3 hr (by omega) h1.2 (by omega)) ?_
    rintro _ m4 ⟨b4, rfl, hb4, ho4, hT4⟩
    have hm4 := Tn_nr hT4 hr
    ktf_call "tp"
    k_search (cl_of 3 (fun k => sp__law_row_read k b4 m4 (by omega) ho4 hm4) (by omega))
    ktf_call "tp"
    k_search (sp_heard1 (by omega) (by omega) ho4 hm4)
    have hrl : ∀ ys, rowR b4 = some ys → ys.length ≤ 64 := fun ys hy => by
      have := row_len (xs := ys) (k := b4.length) (by rw [rowR_back hy]; exact Nat.le_refl _)
      omega
    have fin : ∀ m5 o11 o13 o14, Tn (N + 14) [] m5 → wSs (Cl Fs Gv k) Gv whileW (match turnB with
      | .cons _ (.cons _ (.cons _ (.cons _ (.cons _ (.cons _ (.cons _ r)))))) => r
      | _ => .nil) [some (.scr (ns.map .int)), some (.ref 0), some lap, some (ruleD M R A), some (rowD xs), some (rowsD Rs), some (.lst [tx t0, tx t1, tx t2]), some got, some a, some (tx b4), o10, o11, o12, o13, o14, o15, o16, o17] m5 N' (endR 0 Q) := by
      intro m5 o11 o13 o14 hT5
      unfold turnB lapB
      dsimp only [f_law, Ss.tl, Ss.hd]
      ktf_call "tp"
      refine w_monoN (sp_bent (by omega) hT5 hr (by omega) h2.2 (by omega)) ?_
      rintro _ m6 ⟨b6, rfl, hb6, ho6, hT6⟩
      have hm6 := Tn_nr hT6 hr
      have hm6 := Tn_nr hT6 hr
      have done : ∀ o12, N' [some (.scr (ns.map .int)), some (.ref 0), some lap, some (ruleD M R A), some (rowD xs), some (rowsD Rs), some (.lst [tx t0, tx t1, tx t2]), some got, some a, some (tx b6), o10, o11, o12, o13, o14, o15, o16, o17] m6 := fun o12 => hN' m6 _ _ _ _ _ _ _ _ _ (Tn_le hT6 (by omega))
      by_cases hcn : b6 = cNone
      · subst hcn
        ktf_call "tp"
        refine o_nes ho6 (by decide) ?_
        ktf_call "tp"
        k_search (sp_heard2 (by omega) (by omega) ho6 hm6)
        ktf_call "tp"
        refine o_in (b := false) (in_non rfl (by decide)) ?_
        ktf_call "tp"
        have e : hd2 (rowsX cNone) = .tup [] := rfl
        rw [e]
        k_search (sp_same (d := .tup []) (k := 1) (by omega) ⟨by decide, rfl, rfl⟩ hm6)
        ktf_call "tp"
        exact done _
      · obtain ⟨w1, w2⟩ := words_ok (S := cBetween) (t := b6) (by omega) ho6
        have w3 : (TL.spl cBetween 0 [] b6).length ≤ 64 := by
          have := spl_count (S := cBetween) _ 0 [] b6 (Nat.le_refl _)
          omega
        have w4 : ∀ p ∈ TL.spl cBetween 0 [] b6, p.length ≤ 51 := fun p hp => by
          have := spl_len _ 0 [] b6 (Nat.le_refl _) p hp
          simp at this; omega
        have eX : rowsX b6 = oAll ((TL.spl cBetween 0 [] b6).map rowR) := by unfold rowsX; rw [if_neg hcn]
        ktf_call "tp"
        refine o_nes ho6 (by decide) ?_
        ktf_call "tp"
        refine bw_t (by simp [hcn]) ?_
        ktf_call "tp"
        refine p_split (by decide) (by omega) ?_
        ktf_call "tp"
        apply wl_map
        case hS => exact sa_S
        case hσ => rfl
        case hl => exact w2
        case h =>
          intro r hr'
          refine ⟨_, rfl, ?_⟩
          ktf_call "tp"
          k_search (cl_of 3 (fun k => sp__law_row_read k r m6 (w1 r hr').1 (w1 r hr').2 hm6) (by omega))
          exact ⟨rfl, rfl⟩
        ktf_call "tp"
        k_search (sp_heard2 (by omega) (by omega) ho6 hm6)
        ktf_call "tp"
        refine o_in rows_non ?_
        rw [eX]
        cases hR : oAll ((TL.spl cBetween 0 [] b6).map rowR) with
        | none =>
          have hR' : oAll ((TL.spl [32, 47, 32] 0 [] b6).map rowR) = none := hR
          rw [hR']
          ktf_call "tp"
          k_search (sp_same (d := sBad) (k := 0) (by omega) (few_str ok_badtext) hm6)
          ktf_call "tp"
          exact done _
        | some Rr =>
          have hR' : oAll ((TL.spl [32, 47, 32] 0 [] b6).map rowR) = some Rr := hR
          rw [hR']
          ktf_call "tp"
          rw [rows_tup hR']
          have hlen : Rr.length ≤ 64 := by
            have := congrArg List.length (oAll_some hR)
            rw [List.length_map, List.length_map] at this
            omega
          have hrows : ∀ r ∈ Rr, r.length ≤ 64 := fun r hr' => by
            have hmem : some r ∈ (TL.spl cBetween 0 [] b6).map rowR := by rw [oAll_some hR]; exact List.mem_map_of_mem hr'
            obtain ⟨p, hp, e⟩ := List.mem_map.mp hmem
            have := row_len (xs := r) (k := p.length) (by rw [rowR_back e]; exact Nat.le_refl _)
            have := w4 p hp
            omega
          k_search (sp_same (d := rowsD Rr) (k := 2) (by omega) (few_of_rows hlen hrows) hm6)
          ktf_call "tp"
          exact done _
    cases hR : rowR b4 with
    | none =>
      ktf_call "tp"
      k_search (sp_same (d := sBad) (k := 0) (by omega) (few_str ok_badtext) hm4)
      refine o_tr rfl (o_tr rfl (bw_f rfl (z_nil ?_)))
      exact fin m4 _ _ _ (Tn_le hT4 (by omega))
    | some ys =>
      ktf_call "tp"
      k_search (sp_same (d := rowD ys) (k := 1) (by omega) (few_of_row (hrl ys hR)) hm4)
      refine o_tr rfl (o_tr rfl (bw_f rfl (z_nil ?_)))
      exact fin m4 _ _ _ (Tn_le hT4 (by omega))
  cases hR : ruleR b with
  | error e =>
    ktf_call "tp"
    k_search (sp_same (d := .tup [.str (PySem.Str.ofString "BadLine"), .int (e : Int)]) (k := 1) (by omega) (few_bad e) hm3)
    refine o_tr rfl (o_tr rfl (bw_f rfl (z_nil (z_nil ?_))))
    exact part2 _ _
  | ok p =>
    obtain ⟨M', R', A'⟩ := p
    have hback := ruleT_back (by omega) hbo hR
    have hX := ruleX_back (lines_of (show b.length ≤ 640 by omega) hbo) hR
    have hLl := (lines_of (show b.length ≤ 640 by omega) hbo).len
    have hg : GoodX M' R' A' := ⟨hX.2.1, hX.2.2.1, by
      have := congrArg List.length hX.1
      simp [ruleL] at this
      omega, hX.2.2.2.1, hX.2.2.2.2⟩
    ktf_call "tp"
    k_search (sp_law_rule_text (by omega) (by rw [hback]; omega) hm3)
    rw [hback]
    ktf_call "tp"
    refine o_nes hbo hbo ?_
    ktf_call "tp"
    refine bw_f (by simp) ?_
    ktf_call "tp"
    k_search (sp_is_ruleX (by omega) hg hm3)
    refine w_cst rfl ?_
    refine o_isnB ?_
    refine o_tr rfl (bw_f rfl (z_nil (z_nil ?_)))
    exact part2 _ _
theorem rows_facts {Rs : List (List Int)} (h0 : Rs.length ≤ 3) (h : ∀ r ∈ Rs, r.length ≤ 3 ∧ ∀ x ∈ r, -4 ≤ x ∧ x ≤ 4) : SmallRs Rs ∧ (rowsT Rs).length ≤ 50 ∧ okL (rowsT Rs) = true := by
  refine ⟨⟨by omega, fun r hr => ⟨⟨by have := (h r hr).1; omega, fun x hx => by have := (h r hr).2 x hx; omega⟩, by have := (h r hr).1; omega⟩⟩, ?_, ?_⟩
  · unfold rowsT
    split
    · decide
    · have := joinL_len (z := cBetween) (l := Rs.map rowT) (k := 10) fun p hp => by
        obtain ⟨r, hr, rfl⟩ := List.mem_map.mp hp
        exact rowT_le (a := 3) (b := 2) (h r hr).1 fun x hx => numT_len (k := 1) (by decide) (by have := (h r hr).2 x hx; omega)
      rw [List.length_map, show cBetween.length = 3 from rfl] at this
      have h9 : Rs.length * (10 + 3) ≤ 3 * 13 := Nat.mul_le_mul_right _ h0
      omega
  · unfold rowsT
    split
    · decide
    · refine okL_join (by decide) fun p hp => ?_
      obtain ⟨r, hr, rfl⟩ := List.mem_map.mp hp
      exact okL_rowT r
theorem row_facts {xs : List Int} (h0 : xs.length ≤ 5) (h : ∀ x ∈ xs, -10000 ≤ x ∧ x ≤ 10000) : smallR xs ∧ (rowT xs).length ≤ 50 ∧ okL (rowT xs) = true :=
  ⟨⟨by omega, fun x hx => by have := h x hx; omega⟩, Nat.le_trans (rowT_le (a := 5) (b := 6) h0 fun x hx => numT_len (k := 5) (by decide) (by have := h x hx; omega)) (by decide), okL_rowT xs⟩
theorem law_whole {n : Nat} {ns : List Int} (hn : 20 < n) (hns : ns.length ≤ 63) : wC (Cl Fs Gv n) i_law [.scr (ns.map .int)] [] (fun d m' => d = .bl true) NX := by
  have hr : nrM [] = true := rfl
  refine w_defR (F := f_law) hn rfl rfl rfl fun k hk => ?_
  dsimp only [f_law]
  ktf_call "m"
  ktf_call "tp"
  refine w_monoN (sp_cells (by omega) hns rfl) ?_
  rintro d _ ⟨rfl, c, rfl⟩
  ktf_call "tp"
  refine w_monoN (sp_box (by omega)) ?_
  rintro _ m0 ⟨rfl, hT0⟩
  ktf_call "tp"
  refine f_inv (fun i σ m' => Tn (1000 * i) [] m' ∧ ∃ o2 o3 o4 o5 o6 o7 o8 o9 o10 o11 o12 o13 o14 o15 o16 o17 : Option D, σ = [some (.scr (ns.map .int)), some (.ref 0), o2, o3, o4, o5, o6, o7, o8, o9, o10, o11, o12, o13, o14, o15, o16, o17]) (fun _ _ _ _ => sa_N0) ⟨by simpa using hT0, none, none, none, none, none, none, none, none, none, none, none, none, none, none, none, none, rfl⟩ ?_ ?_
  · rintro i σ m' j ⟨hT, o2, o3, o4, o5, o6, o7, o8, o9, o10, o11, o12, o13, o14, o15, o16, o17, rfl⟩ hj
    have hi : i < 3 := by have := (List.getElem?_eq_some_iff.mp hj).1; rw [List.length_range] at this; exact this
    refine ⟨_, rfl, ?_⟩
    ktf_call "tp"
    refine p_pow (by decide) ?_
    ktf_call "tp"
    refine w_monoN (sp_wide (mods := [2, 3, 5, 10, 12, 100, 1000]) (most := 10 ^ (9 : Nat)) (by omega) hT hr (by decide) (by decide) (by decide) (by omega) (by omega)) ?_
    rintro _ m1 ⟨M, R, A, rfl, hD, hT1⟩
    obtain ⟨hg, hsm, ht0, ho0⟩ := drawn_good hD
    have hR7 := hD.many.2
    have hRr : ∀ r ∈ R, r.length ≤ 64 := fun r hr => by have := (hD.rows r hr).1; omega
    have hA7 := hD.add.1
    ktf_call "tp"
    refine w_monoN (sp_take (by omega) hT1 hr (by omega) (by omega)) ?_
    rintro _ m2 ⟨w, rfl, ⟨hw0, hw1⟩, hT2⟩
    ktf_call "tp"
    refine wl_dr D.int (fun x => -10000 ≤ x ∧ x ≤ 10000) 2 (by decide) hT2 (fun _ => sa_N0) rfl (by rw [List.length_range]; omega) ?_ ?_
    · intro a ha N' m' h1 h2 hT'
      rw [List.length_range] at h2
      refine ⟨_, rfl, ?_⟩
      ktf_call "p"
      refine w_monoN (sp_take (by omega) hT' hr (by omega) (by omega)) ?_
      rintro _ m3 ⟨x, rfl, hx, hT3⟩
      ktf_call "p"
      refine ⟨fun hb => ?_, fun hb => ?_⟩
      · ktf_call "p"
        refine w_monoN (sp_take (by omega) hT3 hr (by omega) (by omega)) ?_
        rintro _ m4 ⟨y, rfl, hy, hT4⟩
        ktf_call "p"
        exact ⟨_, rfl, by omega, Tn_le hT4 (by omega)⟩
      · ktf_call "p"
        exact ⟨0, rfl, by omega, Tn_le hT3 (by omega)⟩
    intro xs m3 hxl hxP hT3
    rw [List.length_range] at hxl hT3
    obtain ⟨hx1, hx2, hx3⟩ := row_facts (xs := xs) (by omega) hxP
    ktf_call "tp"
    refine w_monoN (sp_take (by omega) hT3 hr (by omega) (by omega)) ?_
    rintro _ m4 ⟨v, rfl, ⟨hv0, hv1⟩, hT4⟩
    ktf_call "tp"
    refine wl_dr rowD (fun r => r.length ≤ 3 ∧ ∀ x ∈ r, -4 ≤ x ∧ x ≤ 4) 4 (by decide) hT4 (fun _ => sa_N0) rfl (by rw [List.length_range]; omega) ?_ ?_
    · intro a ha N' m' h1 h2 hT'
      rw [List.length_range] at h2
      refine ⟨_, rfl, ?_⟩
      ktf_call "p"
      refine w_monoN (sp_take (by omega) hT' hr (by omega) (by omega)) ?_
      rintro _ m5 ⟨u, rfl, ⟨hu0, hu1⟩, hT5⟩
      ktf_call "p"
      refine wl_dr D.int (fun x => -4 ≤ x ∧ x ≤ 4) 1 (by decide) hT5 (fun _ => sa_N0) rfl (by rw [List.length_range]; omega) ?_ ?_
      · intro a ha N' m' h3 h4 hT'
        rw [List.length_range] at h4
        refine ⟨_, rfl, ?_⟩
        ktf_call "p"
        refine w_monoN (sp_take (by omega) hT' hr (by omega) (by omega)) ?_
        rintro _ m6 ⟨y, rfl, hy, hT6⟩
        ktf_call "p"
        exact ⟨_, rfl, by omega, Tn_le hT6 (by omega)⟩
      · intro r m6 hrl hrP hT6
        rw [List.length_range] at hrl hT6
        ktf_call "p"
        exact ⟨r, rfl, ⟨by omega, hrP⟩, Tn_le hT6 (by omega)⟩
    intro Rs m5 hRl hRP hT5
    rw [List.length_range] at hRl hT5
    obtain ⟨hR1, hR2, hR3⟩ := rows_facts (Rs := Rs) (by omega) hRP
    have hm5 := Tn_nr hT5 hr
    have hsmR : ∀ r ∈ Rs, (rowT r).length ≤ 10 := fun r hr' => rowT_le (a := 3) (b := 2) (hRP r hr').1 fun x hx => numT_len (k := 1) (by decide) (by have := (hRP r hr').2 x hx; omega)
    ktf_call "t"
    k_search (sp_law_rule_text (by omega) (by omega) hm5)
    ktf_call "t"
    k_search (sp_law_row_text (by omega) (by omega) hm5)
    ktf_call "t"
    apply w_ifeV (p := !decide (Rs = [])) (u := tx (TL.joinL cBetween (Rs.map rowT))) (v := tx cNone)
    case h =>
      ktf_call "t"
      refine o_ne eq_rows0 ?_
      exact ⟨rfl, rfl⟩
    case ha =>
      intro hp
      ktf_call "t"
      apply wl_map (f := fun r => tx (rowT r))
      case hS => exact sa_S
      case hσ => rfl
      case hl => omega
      case h =>
        intro r hr'
        refine ⟨_, rfl, ?_⟩
        ktf_call "t"
        k_search (sp_law_row_text (by omega) (by have := hsmR r hr'; omega) hm5)
        exact ⟨rfl, rfl⟩
      ktf_call "t"
      refine p_join (by
        have h1 := sum_le (l := Rs.map rowT) (k := 10) fun p hp => by
          obtain ⟨r, hr', rfl⟩ := List.mem_map.mp hp
          exact hsmR r hr'
        rw [List.length_map] at h1
        rw [show cBetween.length = 3 from rfl]
        omega) ?_
      exact ⟨rfl, rfl⟩
    case hb =>
      intro hp
      ktf_call "t"
    have eT : (if (!decide (Rs = [])) = true then tx (TL.joinL cBetween (Rs.map rowT)) else tx cNone) = tx (rowsT Rs) := by
      unfold rowsT
      by_cases h : Rs = [] <;> simp [h]
    rw [eT]
    ktf_call "t"
    have fR : Few (ruleD M R A) 3 := few_of_rule (by omega) hRr (by omega)
    have fx : Few (rowD xs) 1 := few_of_row (by omega)
    have fRs : Few (rowsD Rs) 2 := few_of_rows (by omega) fun r hr' => by have := (hRP r hr').1; omega
    k_search (cl_of 8 (fun k => sp_rule_text k _ M R A m5 hg hsm fR (tup_rule M R A) hm5) (by omega))
    ktf_call "t"
    k_search (cl_of 4 (fun k => sp_row_text k _ xs m5 fx (tup_row xs) hx1 hm5) (by omega))
    ktf_call "t"
    k_search (cl_of 4 (fun k => sp_rows_text k _ Rs m5 fRs (tup_rows Rs) hR1 hm5) (by omega))
    ktf_call "t"
    k_search (cl_of 4 (fun k => sp__law_lists 3 k (ruleD M R A) m5 fR.dep fR.lay fR.few hm5) (by omega))
    ktf_call "t"
    k_search (cl_of 8 (fun k => sp_rule_text k _ M R A m5 hg hsm fR.lst (tup_lrule M R A) hm5) (by omega))
    ktf_call "t"
    k_search (cl_of 4 (fun k => sp_row_text k _ xs m5 (by rw [← lst_row]; exact fx.lst) (tup_lrow xs) hx1 hm5) (by omega))
    ktf_call "t"
    k_search (cl_of 3 (fun k => sp__law_lists 2 k (rowsD Rs) m5 fRs.dep fRs.lay fRs.few hm5) (by omega))
    ktf_call "t"
    k_search (cl_of 4 (fun k => sp_rows_text k _ Rs m5 fRs.lst (tup_lrows Rs) hR1 hm5) (by omega))
    ktf_call "t"
    apply wl_map (f := fun k : Nat => if k = 0 then ruleD M R A else if k = 1 then rowD xs else rowsD Rs)
    case hS => exact sa_N0
    case hσ => rfl
    case hl => decide
    case h =>
      intro q hq
      refine ⟨_, rfl, ?_⟩
      have hq3 : q < 3 := by rw [List.mem_range] at hq; exact hq
      ktf_call "t"
      match q, hq3 with
      | 0, _ =>
        refine x_lit (y := tx (ruleT M R A)) rfl ?_
        ktf_call "t"
        k_search (sp_heard0 (by omega) (by omega) ho0 hm5)
        rw [ruleR_T hg]
        exact ⟨rfl, rfl⟩
      | 1, _ =>
        refine x_lit (y := tx (rowT xs)) rfl ?_
        ktf_call "t"
        k_search (sp_heard1 (by omega) (by omega) hx3 hm5)
        rw [rowR_num]
        exact ⟨rfl, rfl⟩
      | 2, _ =>
        refine x_lit (y := tx (rowsT Rs)) rfl ?_
        ktf_call "t"
        k_search (sp_heard2 (by omega) (by omega) hR3 hm5)
        rw [rowsX_T]
        exact ⟨rfl, rfl⟩
    ktf_call "t"
    have eL : (List.range (Int.toNat 3)).map (fun k : Nat => if k = 0 then ruleD M R A else if k = 1 then rowD xs else rowsD Rs) = [ruleD M R A, rowD xs, rowsD Rs] := rfl
    rw [eL]
    have o1 := okS_mk ho0
    have o2' := okS_mk hx3
    have o3' := okS_mk hR3
    have hFew : Few (.lst [tx (ruleT M R A), tx (rowT xs), tx (rowsT Rs), tx (ruleT M R A), tx (rowT xs), tx (rowsT Rs), .lst [ruleD M R A, rowD xs, rowsD Rs]]) 5 := by
      have q1 := fR.few
      have q2 := fx.few
      have q3 := fRs.few
      have d1 := fR.dep
      have d2 := fx.dep
      have d3 := fRs.dep
      have p1 := fR.lay
      have p2 := fx.lay
      have p3 := fRs.lay
      generalize ruleD M R A = u1 at *
      generalize rowD xs = u2 at *
      generalize rowsD Rs = u3 at *
      refine ⟨?_, ?_, ?_⟩
      · simp only [dep, deps]; omega
      · simp only [lay, lays, o1, o2', o3', p1, p2, p3, Bool.and_self]
      · simp [few, fews, q1, q2, q3]
    k_search (sp_same (k := 5) (by omega) hFew hm5)
    refine o_tr rfl (o_tr rfl (bw_f rfl (z_nil ?_)))
    ktf_call "t"
    refine f_inv (fun q σ m' => Tn (1000 * i + 300 + 20 * q) [] m' ∧ ∃ o8 o9 o10 o11 o12 o13 o14 o15 o16 o17 : Option D, σ = [some (.scr (ns.map .int)), some (.ref 0), some (.int (j : Int)), some (ruleD M R A), some (rowD xs), some (rowsD Rs), some (.lst [tx (ruleT M R A), tx (rowT xs), tx (rowsT Rs)]), some (.lst [tx (ruleT M R A), tx (rowT xs), tx (rowsT Rs), tx (ruleT M R A), tx (rowT xs), tx (rowsT Rs), .lst [ruleD M R A, rowD xs, rowsD Rs]]), o8, o9, o10, o11, o12, o13, o14, o15, o16, o17]) (fun _ _ _ _ => sa_N0) ⟨Tn_le hT5 (by omega), _, _, _, _, _, _, _, _, _, _, rfl⟩ ?_ ?_
    · rintro q σ m6 j2 ⟨hTq, o8, o9, o10, o11, o12, o13, o14, o15, o16, o17, rfl⟩ hj2
      have hq : q < 6 := by have := (List.getElem?_eq_some_iff.mp hj2).1; rw [List.length_range] at this; exact this
      refine ⟨_, rfl, ?_⟩
      have := law_turn (k := k) (N := 1000 * i + 300 + 20 * q) (ns := ns) (M := M) (R := R) (A := A) (xs := xs) (Rs := Rs) (lap := .int (j : Int)) (got := .lst [tx (ruleT M R A), tx (rowT xs), tx (rowsT Rs), tx (ruleT M R A), tx (rowT xs), tx (rowsT Rs), .lst [ruleD M R A, rowD xs, rowsD Rs]]) (t0 := ruleT M R A) (t1 := rowT xs) (t2 := rowsT Rs) (m := m6) (Q := fun d m' => d = .bl true) (N' := fun σ2 m2 => Tn (1000 * i + 300 + 20 * ((q + 1 : Nat) : Int)) [] m2 ∧ ∃ o8 o9 o10 o11 o12 o13 o14 o15 o16 o17 : Option D, σ2 = [some (.scr (ns.map .int)), some (.ref 0), some (.int (j : Int)), some (ruleD M R A), some (rowD xs), some (rowsD Rs), some (.lst [tx (ruleT M R A), tx (rowT xs), tx (rowsT Rs)]), some (.lst [tx (ruleT M R A), tx (rowT xs), tx (rowsT Rs), tx (ruleT M R A), tx (rowT xs), tx (rowsT Rs), .lst [ruleD M R A, rowD xs, rowsD Rs]]), o8, o9, o10, o11, o12, o13, o14, o15, o16, o17]) (by omega) hTq (by omega) (by omega) ⟨by omega, ho0⟩ ⟨by omega, hx3⟩ ⟨by omega, hR3⟩ o8 o9 o10 o11 o12 o13 o14 o15 o16 o17 (.int (j2 : Int)) (fun m7 p9 p10 p11 p12 p13 p14 p15 p16 p17 hT7 => ⟨Tn_le hT7 (by omega), _, _, _, _, _, _, _, _, _, _, rfl⟩)
      refine wSs_mono this (fun _ _ z => z) ?_
      intro r hr'
      cases r <;> first | exact hr' | exact hr'.elim
    · rintro σ m6 ⟨hTq, o8, o9, o10, o11, o12, o13, o14, o15, o16, o17, rfl⟩
      rw [List.length_range] at hTq
      refine z_nil ?_
      have h6 : ((Int.toNat 6 : Nat) : Int) = 6 := rfl
      rw [h6] at hTq
      exact ⟨Tn_le hTq (by omega), _, _, _, _, _, _, _, _, _, _, _, _, _, _, _, _, rfl⟩
  · rintro σ m' ⟨hT, o2, o3, o4, o5, o6, o7, o8, o9, o10, o11, o12, o13, o14, o15, o16, o17, rfl⟩
    ktf_call "tp"
    refine r_ret rfl rfl ?_
    rfl
theorem main (ns : List Int) (h : ns.length ≤ 63) : ∃ m, callF txt.fns txt.gv 61 i_law [.scr (ns.map .int)] [] = .ok (.bl true) m := by
  have := law_whole (n := 61) (ns := ns) (by decide) h
  unfold wC at this
  rw [Cl_eq] at this
  revert this
  show xp (callF txt.fns txt.gv 61 i_law [.scr (ns.map .int)] []) _ _ → _
  cases callF txt.fns txt.gv 61 i_law [.scr (ns.map .int)] [] with
  | ok d m => intro z; exact ⟨m, by rw [show d = .bl true from z]⟩
  | exc c fs m => exact fun z => z.elim
  | bad => exact fun z => z.elim
end K53

set_option Elab.async false
set_option linter.all false
set_option maxRecDepth 100000
set_option maxHeartbeats 0
open PySem PySem.W PySem.Calls PyProof.Rows
theorem PySem.Challenge.cw_seedsround_k53_whole_texts_there_and_bac_holds : PySem.Challenge.rw_seedsround_k53_whole_texts_there_and_bac.Holds := by
  w_on; o_law
  refine HandSHeadRun.head_any (r := K53.R) (q := view K53.R.prog [56]) (H := K53.hk) (ob := K53.ob) (M := 3000) (loose := K53.names)
    (d := HandSHeadRun.topDef K53.R.prog 56) (kwd := []) K53.ob_eq
    (by kernel_rfl) (fun s => by kernel_rfl) K53.run (by kernel_rfl) (by kernel_rfl) (by kernel_rfl) (by rfl) (by first | assumption | decide +kernel) (by decide +kernel) ⟨rfl, rfl, rfl, rfl, rfl, by decide +kernel⟩ ?hw ?hc
  case hw => w_witness2
  case hc => exact G.walkG (l := PySem.Challenge.rw_seedsround_k53_whole_texts_there_and_bac) (t := K53.txt) (f := K53.i_law) (D := 60) rfl (by kernel_rfl) (by kernel_rfl) K53.ok rfl rfl rfl ⟨rfl, by decide, by decide⟩ K53.main
