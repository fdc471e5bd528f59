import PyProof.Rows.All
import Wide.All
import OpenK.AllK
import Wide.FinOn
import HandS.ForMost
import HandS.Flow
import HandS.Style
import HandS.Wide
import HandS.TupAny
import HandS.TupMul
import HandS.Deep
import HandS.SortInts
import HandS.IsInst
import HandS.Conv
import PyProof.ReprRoads
import PyProof.P3In
import HandS.Walk
import HandS.Comp
import HandS.Words
import HandS.Codes
import PySem.Challenge.RW_pairsopen_k23_primes
set_option Elab.async false
set_option linter.all false
set_option maxRecDepth 100000
/-! A total evaluator of programs: pure values P, a store of cells. -/
namespace Pz
open PySem L2

inductive P where
  | non | bl (b : Bool) | int (i : Int) | str (x : Str)
  | tup (xs : List P) | lst (xs : List P)
  | dic (ks : List Key) (vs : List P)
  | dit (ks : List (List Key)) (vs : List P)
  | obj (c : Str) (ks : List Str) (vs : List P)
  /-- the law's own script -/
  | scr (ns : List Int)
  /-- a tuple that stands in the written part -/
  | ctp (xs : List P)
  deriving Inhabited
inductive Vl where
  | p (x : P) | loc (n : Nat)
  deriving Inhabited
inductive Cell where
  | dead
  | lst (xs : List Vl)
  | dic (ks : List Key) (vs : List Vl)
  | dit (ks : List (List Key)) (vs : List Vl)
  | obj (c : Str) (ks : List Str) (vs : List Vl)
  deriving Inhabited
abbrev Sto := List Cell
abbrev Env := List (Option Vl)
inductive Res (α : Type) where
  | ok (a : α) (st : Sto)
  | err (c : Str) (ks : List Str) (vs : List P) (st : Sto)
  | bad
def Res.bind {α β : Type} (r : Res α) (k : α → Sto → Res β) : Res β :=
  match r with
  | .ok a st => k a st
  | .err c ks vs st => .err c ks vs st
  | .bad => .bad
def ofO {α : Type} (o : Option α) (st : Sto) : Res α := match o with
  | some a => .ok a st
  | none => .bad
/-- what a statement ends by -/
inductive Fl where
  | next | brk | cont | ret (v : Vl)
abbrev CE := Env → Sto → Res Vl
abbrev CB := Env → Sto → Res Bool
abbrev CA := Env → Sto → Res (List Vl)
abbrev CS := Env → Sto → Res (Fl × Env)
abbrev CT := Vl → Env → Sto → Res Env

/-! ### contents of cells -/
mutual
/-- the content of a value as it stands, n deep in the store -/
def peek (st : Sto) : Nat → Vl → Option P
  | _, .p x => some x
  | 0, .loc _ => none
  | n + 1, .loc i => match st[i]? with
    | some (.lst xs) => (peeks st n xs).map .lst
    | some (.dic ks vs) => (peeks st n vs).map (.dic ks)
    | some (.dit ks vs) => (peeks st n vs).map (.dit ks)
    | some (.obj c ks vs) => (peeks st n vs).map (.obj c ks)
    | _ => none
def peeks (st : Sto) : Nat → List Vl → Option (List P)
  | _, [] => some []
  | n, v :: r => match peek st n v with
    | some x => (peeks st n r).map (x :: ·)
    | none => none
end
def deep : Nat := 6
def pk (v : Vl) (st : Sto) : Option P := peek st deep v
mutual
/-- a value is to be pure for good: its cells die -/
def frz : Nat → Sto → Vl → Option (P × Sto)
  | _, st, .p x => some (x, st)
  | 0, _, .loc _ => none
  | n + 1, st, .loc i => match st[i]? with
    | some (.lst xs) => (frzs n (st.set i .dead) xs).map fun q => (.lst q.1, q.2)
    | some (.dic ks vs) => (frzs n (st.set i .dead) vs).map fun q => (.dic ks q.1, q.2)
    | some (.dit ks vs) => (frzs n (st.set i .dead) vs).map fun q => (.dit ks q.1, q.2)
    | some (.obj c ks vs) => (frzs n (st.set i .dead) vs).map fun q => (.obj c ks q.1, q.2)
    | _ => none
def frzs : Nat → Sto → List Vl → Option (List P × Sto)
  | _, st, [] => some ([], st)
  | n, st, v :: r => match frz n st v with
    | some (x, st1) => (frzs n st1 r).map fun q => (x :: q.1, q.2)
    | none => none
end
def pure1 (v : Vl) (st : Sto) : Res P := match frz deep st v with
  | some (x, st1) => .ok x st1
  | none => .bad
def pureL (vs : List Vl) (st : Sto) : Res (List P) := match frzs deep st vs with
  | some (xs, st1) => .ok xs st1
  | none => .bad
/-- a new list, dict: a cell where mu says so -/
def newL (mu : Bool) (xs : List Vl) (st : Sto) : Res Vl :=
  if xs.length ≤ sizeLine then
    if mu then .ok (.loc st.length) (st ++ [.lst xs]) else (pureL xs st).bind fun ps st1 => .ok (.p (.lst ps)) st1
  else .bad
def newT (xs : List Vl) (st : Sto) : Res Vl :=
  if xs.length ≤ sizeLine then (pureL xs st).bind fun ps st1 => .ok (.p (.tup ps)) st1 else .bad
/-- the items of a list or a tuple as it stands -/
def itemsOf (v : Vl) (st : Sto) : Option (List Vl) := match v with
  | .p (.lst xs) => some (xs.map .p)
  | .p (.tup xs) => some (xs.map .p)
  | .p (.scr ns) => some (ns.map fun i => .p (.int i))
  | .p (.ctp xs) => some (xs.map .p)
  | .loc i => match st[i]? with
    | some (.lst xs) => some xs
    | _ => none
  | _ => none
def listOf (v : Vl) (st : Sto) : Option (List Vl) := match v with
  | .p (.lst xs) => some (xs.map .p)
  | .loc i => match st[i]? with
    | some (.lst xs) => some xs
    | _ => none
  | _ => none

/-! ### truth, ==, order -/
def truP (v : Vl) (st : Sto) : Option Bool := match v with
  | .p .non => some false
  | .p (.bl b) => some b
  | .p (.int i) => some (i != 0)
  | .p (.str x) => if x.length ≤ sizeLine then some ((x.length : Int) != 0) else none
  | _ => (itemsOf v st).map fun xs => !xs.isEmpty
mutual
/-- the data of a value, as == reads it -/
def dataP : P → Option PyData
  | .non => some .none
  | .bl b => some (.bool b)
  | .int i => some (.int i)
  | .str x => some (.str x)
  | .tup xs => (dataPs xs).map .tuple
  | .lst xs => (dataPs xs).map .list
  | _ => none
def dataPs : List P → Option (List PyData)
  | [] => some []
  | x :: r => match dataP x with
    | some d => (dataPs r).map (d :: ·)
    | none => none
end
def eqD (x y : P) : Option Bool := match dataP x, dataP y with
  | some d, some e => if SeqAt.shaped d && SeqAt.shaped e then some (PyData.eqv d e) else none
  | _, _ => none
/-- scalars of one kind, or of kinds that are never equal -/
def eqP (x y : P) : Option Bool := eqD x y
end Pz

set_option Elab.async false
set_option linter.all false
set_option maxRecDepth 100000
namespace Pz
open PySem L2

/-! ### operations by values -/
instance (i j : Int) : Decidable (CMul i j) := by unfold CMul; infer_instance
instance (i j : Int) : Decidable (CMulW i j) := by unfold CMulW; infer_instance
instance (i j : Int) : Decidable (CDivN i j) := by unfold CDivN; infer_instance
instance (i j : Int) : Decidable (CPow i j) := by unfold CPow; infer_instance
def intOp (op : Operator) (i j : Int) : Option Int := match op with
  | .Add => some (i + j)
  | .Sub => some (i - j)
  | .Mult => if CMul i j then some (i * j) else none
  | .Mod => if j ≠ 0 then some (i.fmod j) else none
  | .FloorDiv => if CDivN i j then some (i.fdiv j) else none
  | .Pow => if CPow i j then some (i ^ j.toNat) else none
  | _ => none
def strCat (x y : Str) : Option Str := if x.length + y.length ≤ sizeLine then some (x ++ y) else none
/-- a op b; mu: a new list is a cell -/
def binV (op : Operator) (mu : Bool) (a b : Vl) (st : Sto) : Res Vl := match a, b with
  | .p (.int i), .p (.int j) => ofO ((intOp op i j).map fun k => .p (.int k)) st
  | .p (.str x), .p (.str y) => match op with
    | .Add => ofO ((strCat x y).map fun k => .p (.str k)) st
    | _ => .bad
  | .p (.tup xs), .p (.tup ys) => match op with
    | .Add => if xs.length + ys.length ≤ sizeLine then .ok (.p (.tup (xs ++ ys))) st else .bad
    | _ => .bad
  | .p (.tup xs), .p (.int k) => match op with
    | .Mult => if xs.length ≠ 0 ∧ 2 ≤ k ∧ k ≤ 1000 ∧ xs.length ≤ 1000 then .ok (.p (.tup (List.replicate k.toNat xs).flatten)) st else .bad
    | _ => .bad
  | _, .p (.int k) => match op with
    | .Mult => match listOf a st with
      | some xs => if xs.length * k.toNat ≤ sizeLine ∧ -(2 ^ 63) ≤ k ∧ k < 2 ^ 63 then newL mu (List.replicate k.toNat xs).flatten st else .bad
      | _ => .bad
    | _ => .bad
  | _, _ => match op with
    | .Add => match listOf a st, listOf b st with
      | some xs, some ys => newL mu (xs ++ ys) st
      | _, _ => .bad
    | _ => .bad
def intCmp (op : CmpOp) (i j : Int) : Option Bool := match op with
  | .Lt => some (decide (i < j))
  | .LtE => some (decide (i ≤ j))
  | .Gt => some (decide (j < i))
  | .GtE => some (decide (j ≤ i))
  | .Eq => some (decide (i = j))
  | .NotEq => some (!decide (i = j))
  | _ => none
/-- flat values: in a list or tuple of these -/
def flatP : P → Bool
  | .non | .bl _ | .int _ | .str _ => true
  | _ => false
def ltP (x y : P) : Option Bool := match x, y with
  | .str i, .str j => some (decide (i.cps.toList < j.cps.toList))
  | _, _ => none
def isP (x : P) (b : P) : Option Bool := match b with
  | .non => some (match x with | .non => true | _ => false)
  | .bl c => match x with
    | .bl d => some (c == d)
    | _ => none
  | _ => none
/-- x in the items ys -/
def inP (x : P) (ys : List P) : Option Bool := match dataP x, dataPs ys with
  | some d, some ds => if SeqAt.shaped d && PyData.canLayAll0 ds then some (ds.any fun z => PyData.eqv z d) else none
  | _, _ => none
def keyP : P → Option Key
  | .int i => some (.inl i)
  | .str x => some (.inr x)
  | _ => none
def keysP : List P → Option (List Key)
  | [] => some []
  | x :: r => match keyP x with
    | some k => (keysP r).map (k :: ·)
    | none => none
/-- the keys and values of a dict as it stands -/
inductive Dct where
  | k (ks : List Key) (vs : List Vl)
  | t (ks : List (List Key)) (vs : List Vl)
def dctOf (v : Vl) (st : Sto) : Option Dct := match v with
  | .p (.dic ks vs) => some (.k ks (vs.map .p))
  | .p (.dit ks vs) => some (.t ks (vs.map .p))
  | .loc i => match st[i]? with
    | some (.dic ks vs) => some (.k ks vs)
    | some (.dit ks vs) => some (.t ks vs)
    | _ => none
  | _ => none
def lookK {κ : Type} [DecidableEq κ] (k : κ) : List κ → List Vl → Option Vl
  | a :: ks, v :: vs => if a = k then some v else lookK k ks vs
  | _, _ => none
/-- what the dict holds at the key x: none: no dict or no key -/
def dGet (d : Dct) (x : P) : Option (Option Vl) := match d, x with
  | .k ks vs, _ => (keyP x).map fun k => lookK k ks vs
  | .t ks vs, .tup (x :: xs) => (keysP (x :: xs)).map fun k => lookK k ks vs
  | _, _ => none
def putL {κ : Type} [DecidableEq κ] (k : κ) (v : Vl) (ks : List κ) (vs : List Vl) : List κ × List Vl :=
  if k ∈ ks then (ks, List.zipWith (fun a w => if a = k then v else w) ks vs) else (ks ++ [k], vs ++ [v])
def alive (st : Sto) (n : Nat) : Bool := match st[n]? with
  | some .dead => false
  | some _ => true
  | none => false
def cmpV (op : CmpOp) (a b : Vl) (st : Sto) : Option Bool := match op with
  | .Eq => match pk a st, pk b st with
    | some x, some y => eqD x y
    | _, _ => none
  | .NotEq => match pk a st, pk b st with
    | some x, some y => (eqD x y).map (!·)
    | _, _ => none
  | .Is => match a, b with
    | .p x, .p y => isP x y
    | .loc n, .p .non => if alive st n then some false else none
    | _, _ => none
  | .IsNot => match a, b with
    | .p x, .p y => (isP x y).map (!·)
    | .loc n, .p .non => if alive st n then some true else none
    | _, _ => none
  | .In => match a with
    | .p x => match dctOf b st with
      | some d => (dGet d x).map (·.isSome)
      | none => match itemsOf b st with
        | some ys => match peeks st deep ys with
          | some zs => inP x zs
          | none => none
        | none => none
    | _ => none
  | .NotIn => match a with
    | .p x => match dctOf b st with
      | some d => (dGet d x).map (!·.isSome)
      | none => match itemsOf b st with
        | some ys => match peeks st deep ys with
          | some zs => (inP x zs).map (!·)
          | none => none
        | none => none
    | _ => none
  | _ => match a, b with
    | .p (.int i), .p (.int j) => intCmp op i j
    | .p x, .p y => match op with
      | .Lt => ltP x y
      | _ => none
    | _, _ => none

/-! ### subscripts -/
def ixV (a b : Vl) (st : Sto) : Option Vl := match dctOf a st with
  | some d => match b with
    | .p x => (dGet d x).bind id
    | _ => none
  | none => match a, b with
    | .p (.str z), .p (.int i) => if z.length ≤ sizeLine then (atI z.cps.toList i).map fun c => .p (.str ⟨#[c]⟩) else none
    | _, .p (.int i) => (itemsOf a st).bind fun xs => atI xs i
    | _, _ => none
def cutL {α : Type} (xs : List α) (lo hi : Option Int) : List α := (xs.drop (HT.sIx xs.length 0 lo)).take (HT.sIx xs.length xs.length hi - HT.sIx xs.length 0 lo)
def slV (mu : Bool) (a : Vl) (lo hi : Option Int) (st : Sto) : Res Vl := match a with
  | .p (.tup xs) => .ok (.p (.tup (cutL xs lo hi))) st
  | .p (.scr ns) => newL mu ((cutL ns lo hi).map fun i => .p (.int i)) st
  | _ => match listOf a st with
    | some xs => newL mu (cutL xs lo hi) st
    | none => .bad
def revV (mu : Bool) (a : Vl) (st : Sto) : Res Vl := match listOf a st with
  | some xs => newL mu xs.reverse st
  | none => .bad

/-! ### repr -/
def reprI (i : Int) : Option Str := if i.natAbs.log2 < 1920 then some (toString i) else none
def reprP (x : P) : Option Str := match dataP x with
  | some d => if d.showable = true ∧ d.canLay0 = true ∧ d.depth ≤ 64 ∧ d.shown.length ≤ sizeLine then some d.shown else none
  | none => none

/-! ### built-ins -/
inductive Bi where
  | len | int | list | tuple | max | min | sum | all | any | sorted | repr | str | bool | abs
  deriving DecidableEq
def intsP : List P → Option (List Int)
  | [] => some []
  | .int i :: r => (intsP r).map (i :: ·)
  | _ :: _ => none
def blsP : List P → Option (List Bool)
  | [] => some []
  | .bl i :: r => (blsP r).map (i :: ·)
  | _ :: _ => none
def maxI : List Int → Option Int
  | [] => none
  | [i] => some i
  | i :: r => (maxI r).map fun m => if m > i then m else i
def minI : List Int → Option Int
  | [] => none
  | [i] => some i
  | i :: r => (minI r).map fun m => if m < i then m else i
def lenV (v : Vl) (st : Sto) : Option Nat := match v with
  | .p (.str x) => if x.length ≤ sizeLine then some x.length else none
  | _ => match itemsOf v st with
    | some xs => some xs.length
    | none => match dctOf v st with
      | some (.k ks _) => some ks.length
      | _ => none
/-- the ints of a LIST -/
def listInts (v : Vl) (st : Sto) : Option (List Int) := match listOf v st with
  | some xs => match peeks st deep xs with
    | some ps => intsP ps
    | none => none
  | none => none
def sortI (l : List Int) : List Int := l.mergeSort (fun a b => decide (a ≤ b))
def biV (b : Bi) (mu : Bool) (vs : List Vl) (st : Sto) : Res Vl := match b, vs with
  | .len, [v] => ofO ((lenV v st).map fun (n : Nat) => Vl.p (.int (n : Int))) st
  | .int, [.p (.int i)] => .ok (.p (.int i)) st
  | .int, [.p (.bl c)] => .ok (.p (.int (if c then 1 else 0))) st
  | .list, [v] => match itemsOf v st with
    | some xs => newL mu xs st
    | none => .bad
  | .tuple, [.p (.tup xs)] => .ok (.p (.tup xs)) st
  | .tuple, [v] => match listOf v st with
    | some xs => newT xs st
    | none => .bad
  | .max, [.p (.int i), .p (.int j)] => .ok (.p (.int (if j > i then j else i))) st
  | .min, [.p (.int i), .p (.int j)] => .ok (.p (.int (if j < i then j else i))) st
  | .max, [v] => ofO (((listInts v st).bind maxI).map fun i => .p (.int i)) st
  | .min, [v] => ofO (((listInts v st).bind minI).map fun i => .p (.int i)) st
  | .sum, [v] => ofO ((listInts v st).map fun l => .p (.int l.sum)) st
  | .all, [v] => match listOf v st with
    | some xs => ofO (((peeks st deep xs).bind blsP).map fun l => .p (.bl (l.all id))) st
    | none => .bad
  | .any, [v] => match listOf v st with
    | some xs => ofO (((peeks st deep xs).bind blsP).map fun l => .p (.bl (l.any id))) st
    | none => .bad
  | .sorted, [v] => match listInts v st with
    | some l => newL mu ((sortI l).map fun i => .p (.int i)) st
    | none => .bad
  | .repr, [v] => match pk v st with
    | some x => ofO ((reprP x).map fun s => .p (.str s)) st
    | none => .bad
  | .str, [.p (.int i)] => ofO ((reprI i).map fun s => .p (.str s)) st
  | .abs, [.p (.int i)] => .ok (.p (.int (if i < 0 then -i else i))) st
  | .bool, [.p (.bl c)] => .ok (.p (.bl c)) st
  | .bool, [.p (.int i)] => .ok (.p (.bl (i != 0))) st
  | _, _ => .bad

/-! ### methods of lists, dicts, texts -/
inductive Me where
  | append | pop | extend | join | split | index | get | setdefault
  deriving DecidableEq
def strsP : List P → Option (List Str)
  | [] => some []
  | .str i :: r => (strsP r).map (i :: ·)
  | _ :: _ => none
def meApp (o : Vl) (vs : List Vl) (st : Sto) : Res Vl := match o, vs with
  | .loc n, [v] => match st[n]? with
    | some (.lst xs) => if xs.length < sizeLine then .ok (.p .non) (st.set n (.lst (xs ++ [v]))) else .bad
    | _ => .bad
  | _, _ => .bad
def mePop (o : Vl) (vs : List Vl) (st : Sto) : Res Vl := match o, vs with
  | .loc n, [] => match st[n]? with
    | some (.lst xs) => match xs[xs.length - 1]? with
      | some y => .ok y (st.set n (.lst xs.dropLast))
      | none => .bad
    | _ => .bad
  | _, _ => .bad
def meExt (o : Vl) (vs : List Vl) (st : Sto) : Res Vl := match o, vs with
  | .loc n, [v] => match st[n]? with
    | some (.lst xs) => match listOf v st with
      | some ys => if xs.length + ys.length ≤ sizeLine then .ok (.p .non) (st.set n (.lst (xs ++ ys))) else .bad
      | none => .bad
    | _ => .bad
  | _, _ => .bad
def meV (m : Me) (mu : Bool) (o : Vl) (vs : List Vl) (st : Sto) : Res Vl := match m with
  | .append => meApp o vs st
  | .pop => mePop o vs st
  | .extend => meExt o vs st
  | _ => .bad
def setV (o i v : Vl) (st : Sto) : Option Sto := match o with
  | .loc n => match st[n]?, i with
    | some (.lst xs), .p (.int k) => (ixN xs.length k).map fun j => st.set n (.lst (xs.set j v))
    | some (.dic ks vs), .p x => match keyP x with
      | some k => if ks.length < sizeLine ∧ ks.length = vs.length then some (st.set n (.dic (putL k v ks vs).1 (putL k v ks vs).2)) else none
      | none => none
    | _, _ => none
  | _ => none
end Pz

set_option Elab.async false
set_option linter.all false
set_option maxRecDepth 100000
namespace Pz
open PySem L2

/-! ### combinators -/
def cBad : CE := fun _ _ => .bad
def cName (i : Nat) : CE := fun env st => match env[i]? with
  | some (some v) => .ok v st
  | _ => .bad
def cP (x : P) : CE := fun _ st => .ok (.p x) st
def cBin (op : Operator) (mu : Bool) (a b : CE) : CE := fun env st => (a env st).bind fun x s1 => (b env s1).bind fun y s2 => binV op mu x y s2
def cNeg (a : CE) : CE := fun env st => (a env st).bind fun x s1 => match x with
  | .p (.int i) => .ok (.p (.int (-i))) s1
  | _ => .bad
def cCmp (op : CmpOp) (a b : CE) : CE := fun env st => (a env st).bind fun x s1 => (b env s1).bind fun y s2 => ofO ((cmpV op x y s2).map fun c => .p (.bl c)) s2
def cChn (o1 o2 : CmpOp) (a b c : CE) : CE := fun env st => (a env st).bind fun x s1 => (b env s1).bind fun y s2 =>
  match cmpV o1 x y s2 with
  | some true => (c env s2).bind fun z s3 => ofO ((cmpV o2 y z s3).map fun c => .p (.bl c)) s3
  | some false => .ok (.p (.bl false)) s2
  | none => .bad
/-- a test by its value's truth -/
def bTru (a : CE) : CB := fun env st => (a env st).bind fun x s1 => ofO (truP x s1) s1
def bNot (a : CB) : CB := fun env st => (a env st).bind fun c s1 => .ok (!c) s1
def bAnd (a b : CB) : CB := fun env st => (a env st).bind fun c s1 => if c then b env s1 else .ok false s1
def bOr (a b : CB) : CB := fun env st => (a env st).bind fun c s1 => if c then .ok true s1 else b env s1
def cNot (a : CE) : CE := fun env st => (a env st).bind fun x s1 => ofO ((truP x s1).map fun c => .p (.bl (!c))) s1
def cAnd (a b : CE) : CE := fun env st => (a env st).bind fun x s1 => match truP x s1 with
  | some true => b env s1
  | some false => .ok x s1
  | none => .bad
def cOr (a b : CE) : CE := fun env st => (a env st).bind fun x s1 => match truP x s1 with
  | some true => .ok x s1
  | some false => b env s1
  | none => .bad
def cIf (t : CB) (a b : CE) : CE := fun env st => (t env st).bind fun c s1 => if c then a env s1 else b env s1
def bIf (t : CB) (a b : CB) : CB := fun env st => (t env st).bind fun c s1 => if c then a env s1 else b env s1
def aNil : CA := fun _ st => .ok [] st
def aCons (a : CE) (r : CA) : CA := fun env st => (a env st).bind fun x s1 => (r env s1).bind fun xs s2 => .ok (x :: xs) s2
def cTup (a : CA) : CE := fun env st => (a env st).bind fun xs s1 => newT xs s1
def cLst (mu : Bool) (a : CA) : CE := fun env st => (a env st).bind fun xs s1 => newL mu xs s1
def cIx (a b : CE) : CE := fun env st => (a env st).bind fun x s1 => (b env s1).bind fun y s2 => ofO (ixV x y s2) s2
/-- a slice's part -/
def oNone : Env → Sto → Res (Option Int) := fun _ st => .ok none st
def oSome (a : CE) : Env → Sto → Res (Option Int) := fun env st => (a env st).bind fun x s1 => match x with
  | .p (.int i) => .ok (some i) s1
  | _ => .bad
def cSl (mu : Bool) (a : CE) (lo hi : Env → Sto → Res (Option Int)) : CE := fun env st => (a env st).bind fun x s1 => (lo env s1).bind fun l s2 => (hi env s2).bind fun h s3 => slV mu x l h s3
def cRev (mu : Bool) (a : CE) : CE := fun env st => (a env st).bind fun x s1 => revV mu x s1
def cBi (b : Bi) (mu : Bool) (a : CA) : CE := fun env st => (a env st).bind fun xs s1 => biV b mu xs s1
def cMe (m : Me) (mu : Bool) (o : CE) (a : CA) : CE := fun env st => (o env st).bind fun x s1 => if (listOf x s1).isSome then (a env s1).bind fun xs s2 => meV m mu x xs s2 else .bad
/-- isinstance(e, T): T among the built-in types -/
inductive Ty where
  | int | bool | str | tuple | list | dict
  deriving DecidableEq
def tyIs (t : Ty) (v : Vl) (st : Sto) : Option Bool := match v with
  | .p .non => some false
  | .p (.bl _) => some (match t with | .int => true | .bool => true | _ => false)
  | .p (.int _) => some (match t with | .int => true | _ => false)
  | .p (.str _) => some (match t with | .str => true | _ => false)
  | .p (.tup _) => some (match t with | .tuple => true | _ => false)
  | .p (.lst _) => some (match t with | .list => true | _ => false)
  | .p (.dic _ _) => some (match t with | .dict => true | _ => false)
  | .p (.dit _ _) => some (match t with | .dict => true | _ => false)
  | .p (.obj _ _ _) => none
  | .p (.scr _) => none
  | .p (.ctp _) => none
  | .loc n => match st[n]? with
    | some (.lst _) => some (match t with | .list => true | _ => false)
    | some (.dic _ _) => some (match t with | .dict => true | _ => false)
    | some (.dit _ _) => some (match t with | .dict => true | _ => false)
    | some (.obj _ _ _) => none
    | _ => none
def cIsi (t : Ty) (a : CE) : CE := fun env st => (a env st).bind fun x s1 => ofO ((tyIs t x s1).map fun c => .p (.bl c)) s1
/-- f(..) of the module -/
abbrev Caller := Str → List Vl → Sto → Res Vl
def cCall (call : Caller) (f : Str) (a : CA) : CE := fun env st => (a env st).bind fun xs s1 => call f xs s1
/-- f(.., k = ..): the parameters' places of the values given: ix -/
def cCallK (call : Caller) (f : Str) (ix : List Nat) (a k : CA) : CE := fun env st => (a env st).bind fun xs s1 => (k env s1).bind fun ys s2 =>
  match ix.mapM fun i => (xs ++ ys)[i]? with
  | some zs => call f zs s2
  | none => .bad
/-! ### dict displays -/
def cDic (mu : Bool) (ks : List Key) (a : CA) : CE := fun env st => (a env st).bind fun xs s1 =>
  if xs.length = ks.length ∧ ks.Nodup ∧ ks.length ≤ 15 then
    if mu then .ok (.loc s1.length) (s1 ++ [.dic ks xs]) else (pureL xs s1).bind fun ps s2 => .ok (.p (.dic ks ps)) s2
  else .bad
/-! ### what is walked -/
inductive Itr where
  | it (xs : List P) | loc (n : Nat)
abbrev CI := Env → Sto → Res Itr
def iVal (a : CE) : CI := fun env st => (a env st).bind fun x s1 => match x with
  | .p (.lst xs) => .ok (.it xs) s1
  | .p (.tup xs) => .ok (.it xs) s1
  | .p (.scr ns) => .ok (.it (ns.map .int)) s1
  | .p (.ctp xs) => .ok (.it xs) s1
  | .loc n => match s1[n]? with
    | some (.lst _) => .ok (.loc n) s1
    | _ => .bad
  | _ => .bad
def rgP (lo : Int) (n : Nat) : List P := (List.range n).map fun i => .int (lo + (i : Nat))
def rgB (i : Int) : Bool := -(2 ^ 62) ≤ i ∧ i < 2 ^ 62
def iRg1 (a : CE) : CI := fun env st => (a env st).bind fun x s1 => match x with
  | .p (.int j) => if rgB j then .ok (.it (rgP 0 j.toNat)) s1 else .bad
  | _ => .bad
def iRg2 (a b : CE) : CI := fun env st => (a env st).bind fun x s1 => (b env s1).bind fun y s2 => match x, y with
  | .p (.int i), .p (.int j) => if rgB i && rgB j then .ok (.it (rgP i (j - i).toNat)) s2 else .bad
  | _, _ => .bad
/-- list(range(..)), tuple(range(..)) -/
def cLRg (mu : Bool) (it : CI) : CE := fun env st => (it env st).bind fun q s1 => match q with
  | .it xs => if xs.length ≤ 2 ^ 24 then newL mu (xs.map .p) s1 else .bad
  | _ => .bad
def cTRg (it : CI) : CE := fun env st => (it env st).bind fun q s1 => match q with
  | .it xs => if xs.length ≤ 2 ^ 24 then .ok (.p (.tup xs)) s1 else .bad
  | _ => .bad
/-! ### targets -/
def tNm (i : Nat) : CT := fun v env st => .ok (env.set i (some v)) st
def tGo : List CT → List Vl → Env → Sto → Res Env
  | [], [], env, st => .ok env st
  | t :: ts, v :: vs, env, st => (t v env st).bind fun e1 s1 => tGo ts vs e1 s1
  | _, _, _, _ => .bad
def tTup (ts : List CT) : CT := fun v env st => match v with
  | .p (.tup xs) => tGo ts (xs.map .p) env st
  | _ => .bad
/-! ### comprehensions -/
def wipeE (env : Env) : List Nat → Env
  | [] => env
  | i :: r => (wipeE env r).set i none
def lcTurn (tg : CT) (ifs : CB) (elt : CE) (env : Env) (v : Vl) (acc : List Vl) (st : Sto) : Res (List Vl) :=
  (tg v env st).bind fun e1 s1 => (ifs e1 s1).bind fun c s2 =>
    if c then (elt e1 s2).bind fun y s3 => if acc.length < sizeLine then .ok (acc ++ [y]) s3 else .bad else .ok acc s2
def lcP (tg : CT) (ifs : CB) (elt : CE) (env : Env) : List P → List Vl → Sto → Res (List Vl)
  | [], acc, st => .ok acc st
  | x :: r, acc, st => (lcTurn tg ifs elt env (.p x) acc st).bind fun acc1 s1 => lcP tg ifs elt env r acc1 s1
def lcL (n : Nat) (tg : CT) (ifs : CB) (elt : CE) (env : Env) : Nat → Nat → List Vl → Sto → Res (List Vl)
  | 0, _, _, _ => .bad
  | f + 1, i, acc, st => match st[n]? with
    | some (.lst xs) => match xs[i]? with
      | some v => (lcTurn tg ifs elt env v acc st).bind fun acc1 s1 => lcL n tg ifs elt env f (i + 1) acc1 s1
      | none => .ok acc st
    | _ => .bad
def turns : Nat := 2 ^ 40
def bYes : CB := fun _ st => .ok true st
def cLc (mu : Bool) (own : List Nat) (it : CI) (tg : CT) (ifs : CB) (elt : CE) : CE := fun env st =>
  (it env st).bind fun q s1 => match q with
    | .it xs => (lcP tg ifs elt (wipeE env own) xs [] s1).bind fun ys s2 => newL mu ys s2
    | .loc n => (lcL n tg ifs elt (wipeE env own) turns 0 [] s1).bind fun ys s2 => newL mu ys s2
/-! ### statements -/
def sNext : CS := fun env st => .ok (.next, env) st
def sSeq (a b : CS) : CS := fun env st => (a env st).bind fun q s1 => match q.1 with
  | .next => b q.2 s1
  | _ => .ok q s1
def sSet (t : CT) (a : CE) : CS := fun env st => (a env st).bind fun x s1 => (t x env s1).bind fun e1 s2 => .ok (.next, e1) s2
def sPar (ts : List CT) (a : CA) : CS := fun env st => (a env st).bind fun xs s1 => (tGo ts xs env s1).bind fun e1 s2 => .ok (.next, e1) s2
def sPut (o i v : CE) : CS := fun env st => (v env st).bind fun x s1 => (o env s1).bind fun y s2 => (i env s2).bind fun z s3 => match setV y z x s3 with
  | some s4 => .ok (.next, env) s4
  | none => .bad
def sAug (i : Nat) (op : Operator) (a : CE) : CS := fun env st => match env[i]? with
  | some (some (.p (.int x))) => (a env st).bind fun y s1 => match y with
    | .p (.int j) => match op with
      | .Add => .ok (.next, env.set i (some (.p (.int (x + j))))) s1
      | .Sub => .ok (.next, env.set i (some (.p (.int (x - j))))) s1
      | _ => .bad
    | _ => .bad
  | _ => .bad
def sExp (a : CE) : CS := fun env st => (a env st).bind fun _ s1 => .ok (.next, env) s1
def sRet (a : CE) : CS := fun env st => (a env st).bind fun x s1 => .ok (.ret x, env) s1
def sIf (t : CB) (a b : CS) : CS := fun env st => (t env st).bind fun c s1 => if c then a env s1 else b env s1
def sFl (f : Fl) : CS := fun env st => .ok (f, env) st
/-- behind a turn: how the loop goes on -/
def after (q : Fl × Env) (st : Sto) (go : Env → Sto → Res (Fl × Env)) : Res (Fl × Env) := match q.1 with
  | .next => go q.2 st
  | .cont => go q.2 st
  | .brk => .ok (.next, q.2) st
  | .ret v => .ok (.ret v, q.2) st
def forP (tg : CT) (b : CS) : List P → Env → Sto → Res (Fl × Env)
  | [], env, st => .ok (.next, env) st
  | x :: r, env, st => (tg (.p x) env st).bind fun e1 s1 => (b e1 s1).bind fun q s2 => after q s2 (forP tg b r)
def forL (n : Nat) (tg : CT) (b : CS) : Nat → Nat → Env → Sto → Res (Fl × Env)
  | 0, _, _, _ => .bad
  | f + 1, i, env, st => match st[n]? with
    | some (.lst xs) => match xs[i]? with
      | some v => (tg v env st).bind fun e1 s1 => (b e1 s1).bind fun q s2 => after q s2 (forL n tg b f (i + 1))
      | none => .ok (.next, env) st
    | _ => .bad
def sFor (it : CI) (tg : CT) (b : CS) : CS := fun env st => (it env st).bind fun q s1 => match q with
  | .it xs => forP tg b xs env s1
  | .loc n => forL n tg b turns 0 env s1
def whF (t : CB) (b : CS) : Nat → Env → Sto → Res (Fl × Env)
  | 0, _, _ => .bad
  | f + 1, env, st => (t env st).bind fun c s1 => if c then (b env s1).bind fun q s2 => after q s2 (whF t b f) else .ok (.next, env) s1
def sWh (t : CB) (b : CS) : CS := fun env st => whF t b turns env st

/-! ### the evaluator, by cases of the text -/
structure Sx where
  N : List Str
  sc : Scope
  mu : List Nat
  /-- within a comprehension: the names that it may store -/
  own : Option (List Str)
structure Df where
  name : Str
  ps : List Str
  N : List Str
  sc : Scope
  body : List Stmt
  mu : List Nat
  keep : Bool
  /-- the calls with keywords: so many values by position, these names -/
  pats : List (Nat × List Str)
structure Gl where
  defs : List Df
  consts : List (Str × P)
def visB (sc : Scope) (x : Str) : Bool := match sc.names.lookup x with
  | some .local => true
  | some .cell => true
  | some .free => true
  | _ => false
def locB (sc : Scope) (x : Str) : Bool := match sc.names.lookup x with
  | some .local => true
  | some .cell => true
  | _ => false
def glbB (sc : Scope) (x : Str) : Bool := decide (x ≠ "__debug__") && (match sc.names.lookup x with
  | some .globalImplicit => true
  | _ => false)
def posK (p : Pos) : Nat := ((p.line * 1000 + p.col) * 1000 + p.endLine) * 1000 + p.endCol
def Sx.muB (sx : Sx) (p : Pos) : Bool := sx.mu.contains (posK p)
def biTab : List (Str × Bi) := [("len", .len), ("int", .int), ("list", .list), ("tuple", .tuple), ("max", .max), ("min", .min), ("sum", .sum), ("all", .all), ("any", .any), ("sorted", .sorted), ("repr", .repr), ("str", .str), ("bool", .bool), ("abs", .abs)]
def biOf (x : Str) : Option Bi := biTab.lookup x
def meOf (x : Str) : Option Me :=
  if x = "append" then some .append else if x = "pop" then some .pop else if x = "extend" then some .extend else none
def tyOf (x : Str) : Option Ty :=
  if x = "int" then some .int else if x = "bool" then some .bool else if x = "str" then some .str else if x = "tuple" then some .tuple
  else if x = "list" then some .list else if x = "dict" then some .dict else none
def isStar : Expr → Bool
  | .Starred _ _ => true
  | _ => false
/-- a comprehension's own names: their places -/
def ownOf (N : List Str) (scope : Scope) : List (Str × Nat) := scope.names.filterMap fun y => match y.2 with
  | .local => (N.idxOf? y.1).map fun i => (y.1, i)
  | .cell => (N.idxOf? y.1).map fun i => (y.1, i)
  | _ => none
def keyOf : Option Expr → Option Key
  | some (.Constant (.int i) _ _) => some (.inl i)
  | some (.Constant (.str x) _ _) => some (.inr x)
  | _ => none
abbrev EvE := Sx → Expr → CE
def argsW (ev : Expr → CE) : List Expr → CA
  | [] => aNil
  | e :: r => if isStar e then (fun _ _ => .bad) else aCons (ev e) (argsW ev r)
def kwNames : List Keyword → Option (List Str)
  | [] => some []
  | ⟨some k, _, _⟩ :: r => (kwNames r).map (k :: ·)
  | _ :: _ => none
def kwArgs : List Keyword → List Expr
  | [] => []
  | ⟨_, v, _⟩ :: r => v :: kwArgs r
/-- the places of the parameters among n positional values and the keywords ks -/
def kwIx (ps : List Str) (n : Nat) (ks : List Str) : Option (List Nat) :=
  (List.range ps.length).mapM fun i => if i < n then some i else (ps[i]?.bind fun p => ks.idxOf? p).map (n + ·)
def Gl.def? (G : Gl) (x : Str) : Option Df := G.defs.find? fun d => decide (d.name = x)
def Sx.canSt (sx : Sx) (x : Str) : Bool := locB sx.sc x && (match sx.own with
  | none => true
  | some l => l.contains x)
def targNm (sx : Sx) : Expr → Option Nat
  | .Name x _ => if sx.canSt x then sx.N.idxOf? x else none
  | _ => none
/-- a target: a name, or a tuple of names -/
def targW (sx : Sx) : Expr → Option (CT × List Nat)
  | .Name x p => (targNm sx (.Name x p)).map fun i => (tNm i, [i])
  | .Tuple es _ _ => (es.mapM (targNm sx)).map fun is => (tTup (is.map tNm), is)
  | _ => none
def badI : CI := fun _ _ => .bad
def rgW (ev : Expr → CE) : List Expr → CI
  | [a] => iRg1 (ev a)
  | [a, b] => iRg2 (ev a) (ev b)
  | _ => badI
def iterW (ev : Expr → CE) (sx : Sx) (e : Expr) : CI := match e with
  | .Call (.Name f _) as [] _ => if f = "range" ∧ glbB sx.sc f then rgW ev as else iVal (ev e)
  | _ => iVal (ev e)
def Sx.blk (sx : Sx) (scope : Scope) : Sx := { sx with sc := relS scope sx.sc, own := some ((ownOf sx.N scope).map (·.1)) }
def noSet : Expr → Bool
  | .Set _ _ _ => false
  | _ => true
def noCall0 : Expr → Bool
  | .Call (.Name _ _) [] [] _ => false
  | _ => true
def isiOf (sc : Scope) (f : Str) (args : List Expr) : Option (Ty × Expr) := match args with
  | [a, .Name t _] => if f = "isinstance" ∧ glbB sc t then (tyOf t).map fun ty => (ty, a) else none
  | _ => none
/-- list(range(..)), tuple(range(..)) -/
def rgOf (sc : Scope) (f : Str) (args : List Expr) : Option (Bool × List Expr) := match args with
  | [.Call (.Name g _) as [] _] => if g = "range" ∧ glbB sc g then (if f = "list" then some (true, as) else if f = "tuple" then some (false, as) else none) else none
  | _ => none
def callW (G : Gl) (call : Caller) (ev : Expr → CE) (sx : Sx) (f : Str) (args : List Expr) (mu : Bool) : CE :=
  if glbB sx.sc f then (match G.def? f with
    | some _ => cCall call f (argsW ev args)
    | none => match isiOf sx.sc f args with
      | some q => cIsi q.1 (ev q.2)
      | none => match rgOf sx.sc f args with
        | some (true, as) => cLRg mu (rgW ev as)
        | some (false, as) => cTRg (rgW ev as)
        | none => match biOf f with
          | some b => cBi b mu (argsW ev args)
          | none => cBad)
  else cBad
def stepE (G : Gl) (call : Caller) (ev : EvE) (sx : Sx) (e : Expr) : CE :=
  match e with
  | .Constant (.int i) _ _ => cP (.int i)
  | .Constant (.str x) _ _ => cP (.str x)
  | .Constant (.bool b) _ _ => cP (.bl b)
  | .Constant .none _ _ => cP .non
  | .Name x _ => if x = "__debug__" ∨ x = "__classdict__" then cBad else if visB sx.sc x then (match sx.N.idxOf? x with
      | some i => cName i
      | none => cBad)
    else if glbB sx.sc x then (match G.consts.lookup x with
      | some p => cP p
      | none => cBad)
    else cBad
  | .BinOp a op b p => cBin op (sx.muB p) (ev sx a) (ev sx b)
  | .UnaryOp .USub a _ => cNeg (ev sx a)
  | .UnaryOp .Not a _ => cNot (ev sx a)
  | .BoolOp _ [a] _ => ev sx a
  | .BoolOp .And (a :: b :: r) p => cAnd (ev sx a) (ev sx (.BoolOp .And (b :: r) p))
  | .BoolOp .Or (a :: b :: r) p => cOr (ev sx a) (ev sx (.BoolOp .Or (b :: r) p))
  | .IfExp t a b _ => cIf (bTru (ev sx t)) (ev sx a) (ev sx b)
  | .Compare a [op] [b] _ => if behindInMarks op b then cBad else cCmp op (ev sx a) (ev sx b)
  | .Compare a [op, op'] [b, c] _ => if lastMarks [op, op'] [b, c] then cBad else cChn op op' (ev sx a) (ev sx b) (ev sx c)
  | .Tuple es _ _ => cTup (argsW (ev sx) es)
  | .List es p => cLst (sx.muB p) (argsW (ev sx) es)
  | .Dict ks vs p => match ks.mapM keyOf with
    | some kl => cDic (sx.muB p) kl (argsW (ev sx) vs)
    | none => cBad
  | .Subscript a (.Slice lo hi none _) p => cSl (sx.muB p) (ev sx a)
      (match lo with | some x => oSome (ev sx x) | none => oNone) (match hi with | some x => oSome (ev sx x) | none => oNone)
  | .Subscript a (.Slice none none (some (.UnaryOp .USub (.Constant (.int 1) _ _) _)) _) p => cRev (sx.muB p) (ev sx a)
  | .Subscript _ (.Slice _ _ (some _) _) _ => cBad
  | .Subscript a b _ => cIx (ev sx a) (ev sx b)
  | .ListComp elt [⟨tg, it, ifs, 0⟩] scope p =>
    let sx' := sx.blk scope
    if blkC sx.N sx.sc scope (ownOf sx.N scope) = true ∧ noSet it = true then
      match targW sx' tg with
      | some t => if t.2.all (fun i => ((ownOf sx.N scope).map (·.2)).contains i) = true then
          (match ifs with
          | [] => cLc (sx.muB p) ((ownOf sx.N scope).map (·.2)) (iterW (ev sx) sx it) t.1 bYes (ev sx' elt)
          | [c] => cLc (sx.muB p) ((ownOf sx.N scope).map (·.2)) (iterW (ev sx) sx it) t.1 (bTru (ev sx' c)) (ev sx' elt)
          | _ => cBad) else cBad
      | none => cBad
    else cBad
  | .Call (.Name f _) args [] p => callW G call (ev sx) sx f args (sx.muB p)
  | .Call (.Name f _) args kws _ => if glbB sx.sc f then (match G.def? f, kwNames kws with
      | some d, some ks => match kwIx d.ps args.length ks with
        | some ix => if args.length + ks.length = d.ps.length ∧ (args.length, ks) ∈ d.pats then cCallK call f ix (argsW (ev sx) args) (argsW (ev sx) (kwArgs kws)) else cBad
        | none => cBad
      | _, _ => cBad)
    else cBad
  | .Call (.Attribute o m ap) args [] p => match meOf m with
    | some me => if (ap.endLine == p.line) = true ∧ args.length < 9 ∧ noCall0 o = true then cMe me (sx.muB p) (ev sx o) (argsW (ev sx) args) else cBad
    | none => cBad
  | _ => cBad
def evE (G : Gl) (call : Caller) : Nat → EvE
  | 0 => fun _ _ => cBad
  | n + 1 => fun sx e => stepE G call (evE G call n) sx e
def badS : CS := fun _ _ => .bad
def blockW (ev : Stmt → CS) : List Stmt → CS
  | [] => sNext
  | [s] => ev s
  | s :: t :: r => sSeq (ev s) (blockW ev (t :: r))
def nmL (sc : Scope) (line : Nat) : Expr → Option Str
  | .Name x p => if sc.names.lookup x == some .local && p.line == line then some x else none
  | _ => none
def lineOf (ts : List Expr) : Nat := (ts.head?.map (·.pos.line)).getD 0
def bkF (sc : Scope) : ScopeKind := if sc.kind.isAnnotationScope then .function else sc.kind
/-- how a tuple of targets is stored from a tuple display: 0: from a tuple; 1: from the right, name by name; 2: unknown -/
def swK (sc : Scope) (ts vs : List Expr) : Nat :=
  if (!(ts.length == 2 || ts.length == 3) || vs.length != ts.length || bkF sc != .function) = true then 0
  else if vs.any isStar = true then 0
  else if ((ts.filterMap (nmL sc (lineOf ts))).length != ts.length || (ts.filterMap (nmL sc (lineOf ts))).eraseDups.length != (ts.filterMap (nmL sc (lineOf ts))).length) = true then 0
  else if vs.all (foldedForSure 8) = true then 0
  else if vs.all (constantsAlone 8) = true then 2
  else 1
def stepS (G : Gl) (call : Caller) (ev : EvE) (evs : Sx → Stmt → CS) (sx : Sx) (s : Stmt) : CS :=
  match s with
  | .Expr (.ListComp _ _ _ _) _ => badS
  | .Expr (.SetComp _ _ _ _) _ => badS
  | .Expr (.DictComp _ _ _ _ _) _ => badS
  | .Expr e _ => sExp (ev sx e)
  | .Pass _ => sNext
  | .Break _ => sFl .brk
  | .Continue _ => sFl .cont
  | .Return none _ => sRet (cP .non)
  | .Return (some e) _ => sRet (ev sx e)
  | .If t a b _ => sIf (bTru (ev sx t)) (blockW (evs sx) a) (blockW (evs sx) b)
  | .While t b [] _ => sWh (bTru (ev sx t)) (blockW (evs sx) b)
  | .For tg it b [] _ => if noSet it = true then (match targW sx tg with
      | some t => sFor (iterW (ev sx) sx it) t.1 (blockW (evs sx) b)
      | none => badS) else badS
  | .AugAssign (.Name x _) op e _ => if sx.canSt x then (match sx.N.idxOf? x with
      | some i => sAug i op (ev sx e)
      | none => badS) else badS
  | .Assign [.Tuple ts k p1] (.Tuple es _ _) _ => match swK sx.sc ts es with
    | 0 => (match ts.mapM (targNm sx) with
      | some is => if es.length < 1000 then sPar (is.map tNm) (argsW (ev sx) es) else badS
      | none => badS)
    | 1 => (match ts.mapM (targNm sx) with
      | some is => if is.Nodup then sPar (is.map tNm) (argsW (ev sx) es) else badS
      | none => badS)
    | _ => badS
  | .Assign [.Subscript o (.Slice _ _ _ _) _] _ _ => badS
  | .Assign [.Subscript o i _] e _ => sPut (ev sx o) (ev sx i) (ev sx e)
  | .Assign [t] e _ => match targW sx t with
    | some c => sSet c.1 (ev sx e)
    | none => badS
  | _ => badS
def evS (G : Gl) (call : Caller) (ev : EvE) : Nat → Sx → Stmt → CS
  | 0 => fun _ _ => badS
  | n + 1 => fun sx s => stepS G call ev (evS G call ev n) sx s
/-! ### a def -/
def locOk (n : Nat) : Vl → Bool
  | .p _ => true
  | .loc m => decide (m < n)
def cellOk (n : Nat) : Cell → Bool
  | .dead => true
  | .lst xs => xs.all (locOk n)
  | .dic _ vs => vs.all (locOk n)
  | .dit _ vs => vs.all (locOk n)
  | .obj _ _ vs => vs.all (locOk n)
/-- a def is left: its own cells are forgotten -/
def leave (n : Nat) (v : Vl) (st : Sto) : Res Vl :=
  match locOk n v with
  | true => if (st.take n).all (cellOk n) then .ok v (st.take n) else .bad
  | false => (pure1 v st).bind fun x s1 => if (s1.take n).all (cellOk n) then .ok (.p x) (s1.take n) else .bad
def depthE : Nat := 30
def depthS : Nat := 20
def bodyOf (G : Gl) (call : Caller) (d : Df) : CS :=
  blockW (evS G call (evE G call depthE) depthS ⟨d.N, d.sc, d.mu, none⟩) d.body
def runDf (G : Gl) (call : Caller) (d : Df) (vs : List Vl) (st : Sto) : Res Vl :=
  if vs.length = d.ps.length then
    (bodyOf G call d (vs.map some ++ List.replicate (d.N.length - vs.length) none) st).bind fun q s1 =>
      match q.1 with
      | .ret v => if d.keep then .ok v s1 else leave st.length v s1
      | .next => if d.keep then .ok (.p .non) s1 else leave st.length (.p .non) s1
      | _ => .bad
  else .bad
def callAt (G : Gl) : Nat → Caller
  | 0 => fun _ _ _ => .bad
  | k + 1 => fun f vs st => match G.def? f with
    | some d => runDf G (callAt G k) d vs st
    | none => .bad
end Pz

set_option Elab.async false
set_option linter.all false
set_option maxRecDepth 100000
set_option maxHeartbeats 1000000
namespace Pz
open PySem L2

/-! ### lists side by side -/
def All2 {α β : Type} (R : α → β → Prop) : List α → List β → Prop
  | [], [] => True
  | a :: r, b :: q => R a b ∧ All2 R r q
  | _, _ => False
section
variable {α β γ : Type} {R R' : α → β → Prop}
theorem All2.length : ∀ {xs : List α} {ys : List β}, All2 R xs ys → xs.length = ys.length
  | [], [], _ => rfl
  | _ :: _, _ :: _, h => by simp only [List.length_cons]; rw [All2.length h.2]
  | [], _ :: _, h => h.elim
  | _ :: _, [], h => h.elim
theorem All2.imp (f : ∀ a b, R a b → R' a b) : ∀ {xs : List α} {ys : List β}, All2 R xs ys → All2 R' xs ys
  | [], [], _ => trivial
  | _ :: _, _ :: _, h => ⟨f _ _ h.1, All2.imp f h.2⟩
  | [], _ :: _, h => h.elim
  | _ :: _, [], h => h.elim
theorem All2.get : ∀ {xs : List α} {ys : List β} {i : Nat} {b : β}, All2 R xs ys → ys[i]? = some b → ∃ a, xs[i]? = some a ∧ R a b
  | [], [], _, _, _, e => by simp at e
  | a :: _, b :: _, 0, _, h, e => by simp at e; subst e; exact ⟨a, by simp, h.1⟩
  | _ :: _, _ :: _, i + 1, _, h, e => by
    obtain ⟨a, h1, h2⟩ := All2.get (i := i) h.2 (by simpa using e)
    exact ⟨a, by simpa using h1, h2⟩
  | [], _ :: _, _, _, h, _ => h.elim
  | _ :: _, [], _, _, h, _ => h.elim
theorem All2.getL : ∀ {xs : List α} {ys : List β} {i : Nat} {a : α}, All2 R xs ys → xs[i]? = some a → ∃ b, ys[i]? = some b ∧ R a b
  | [], [], _, _, _, e => by simp at e
  | a :: _, b :: _, 0, _, h, e => by simp at e; subst e; exact ⟨b, by simp, h.1⟩
  | _ :: _, _ :: _, i + 1, _, h, e => by
    obtain ⟨a, h1, h2⟩ := All2.getL (i := i) h.2 (by simpa using e)
    exact ⟨a, by simpa using h1, h2⟩
  | [], _ :: _, _, _, h, _ => h.elim
  | _ :: _, [], _, _, h, _ => h.elim
theorem All2.append : ∀ {xs xs' : List α} {ys ys' : List β}, All2 R xs ys → All2 R xs' ys' → All2 R (xs ++ xs') (ys ++ ys')
  | [], _, [], _, _, h => h
  | _ :: _, _, _ :: _, _, h, h' => ⟨h.1, All2.append h.2 h'⟩
  | [], _, _ :: _, _, h, _ => h.elim
  | _ :: _, _, [], _, h, _ => h.elim
theorem All2.set {a : α} {b : β} (r : R a b) : ∀ {xs : List α} {ys : List β} (i : Nat), All2 R xs ys → All2 R (xs.set i a) (ys.set i b)
  | [], [], _, _ => trivial
  | _ :: _, _ :: _, 0, h => ⟨r, h.2⟩
  | _ :: _, _ :: _, i + 1, h => ⟨h.1, All2.set r i h.2⟩
  | [], _ :: _, _, h => h.elim
  | _ :: _, [], _, h => h.elim
theorem All2.take : ∀ {xs : List α} {ys : List β} (n : Nat), All2 R xs ys → All2 R (xs.take n) (ys.take n)
  | [], [], n, _ => by simp [All2]
  | _ :: _, _ :: _, 0, _ => by simp [All2]
  | _ :: _, _ :: _, n + 1, h => ⟨h.1, All2.take n h.2⟩
  | [], _ :: _, _, h => h.elim
  | _ :: _, [], _, h => h.elim
theorem All2.drop : ∀ {xs : List α} {ys : List β} (n : Nat), All2 R xs ys → All2 R (xs.drop n) (ys.drop n)
  | [], [], n, _ => by simp [All2]
  | _ :: _, _ :: _, 0, h => h
  | _ :: _, _ :: _, n + 1, h => All2.drop n h.2
  | [], _ :: _, _, h => h.elim
  | _ :: _, [], _, h => h.elim
theorem All2.dropLast {xs : List α} {ys : List β} (h : All2 R xs ys) : All2 R xs.dropLast ys.dropLast := by
  rw [List.dropLast_eq_take, List.dropLast_eq_take, h.length]
  exact h.take _
theorem All2.reverse {xs : List α} {ys : List β} (h : All2 R xs ys) : All2 R xs.reverse ys.reverse := by
  induction xs generalizing ys with
  | nil => cases ys with
    | nil => exact trivial
    | cons => exact h.elim
  | cons a r ih => cases ys with
    | nil => exact h.elim
    | cons b q => rw [List.reverse_cons, List.reverse_cons]; exact (ih h.2).append ⟨h.1, trivial⟩
theorem All2.flat {xs : List α} {ys : List β} (h : All2 R xs ys) : ∀ k, All2 R (List.replicate k xs).flatten (List.replicate k ys).flatten
  | 0 => trivial
  | k + 1 => by rw [List.replicate_succ, List.replicate_succ, List.flatten_cons, List.flatten_cons]; exact h.append (h.flat k)
theorem All2.mapR {γ : Type} {f : γ → β} : ∀ {xs : List α} {ys : List γ}, All2 R xs (ys.map f) ↔ All2 (fun a c => R a (f c)) xs ys
  | [], [] => Iff.rfl
  | _ :: _, _ :: _ => and_congr Iff.rfl All2.mapR
  | [], _ :: _ => Iff.rfl
  | _ :: _, [] => Iff.rfl
theorem All2.mapL {γ : Type} {f : γ → α} : ∀ {xs : List γ} {ys : List β}, All2 R (xs.map f) ys ↔ All2 (fun c b => R (f c) b) xs ys
  | [], [] => Iff.rfl
  | _ :: _, _ :: _ => and_congr Iff.rfl All2.mapL
  | [], _ :: _ => Iff.rfl
  | _ :: _, [] => Iff.rfl
theorem All2.nil_l {xs : List α} (h : All2 R xs ([] : List β)) : xs = [] := by
  cases xs with
  | nil => rfl
  | cons => exact h.elim
theorem All2.cons_l {xs : List α} {b : β} {q : List β} (h : All2 R xs (b :: q)) : ∃ a r, xs = a :: r ∧ R a b ∧ All2 R r q := by
  cases xs with
  | nil => exact h.elim
  | cons a r => exact ⟨a, r, rfl, h.1, h.2⟩
end

/-! ### what a value is in the abstract heap -/
/-- the cells' addresses; the addresses of what is being built -/
structure Lv where
  l : List (Option Addr)
  h : List Addr
section
variable (K : PySem.W.Frag) (mg : Str → Option Value)
mutual
def RepP (L : Addr → Prop) (H : Hp) : V → P → Prop
  | v, .non => v = .non
  | v, .bl b => v = .bl b
  | v, .int i => v = .int i
  | v, .str x => v = .str x
  | v, .tup ps => ∃ a xs, v = .ref a ∧ SqT K H a xs ∧ (ps.length = 0 ∨ H a = some (.tup xs)) ∧ RepPs L H xs ps
  | v, .ctp ps => ∃ a xs, v = .ref a ∧ SqT K (fun _ => none) a xs ∧ RepPs L H xs ps
  | v, .lst ps => ∃ a xs, v = .ref a ∧ H a = some (.lst xs) ∧ ¬ L a ∧ RepPs L H xs ps
  | v, .dic ks ps => ∃ a es, v = .ref a ∧ H a = some (.dK es) ∧ ¬ L a ∧ es.map (·.1) = ks ∧ RepPs L H (es.map (·.2)) ps
  | v, .dit ks ps => ∃ a es, v = .ref a ∧ H a = some (.dT es) ∧ ¬ L a ∧ es.map (·.1) = ks ∧ RepPs L H (es.map (·.2)) ps
  | v, .obj c ks ps => ∃ a C dx fs, v = .ref a ∧ H a = some (.ins C dx fs) ∧ ¬ L a ∧ mg c = some (.ref C) ∧ fs.map (·.1) = ks ∧ RepPs L H (fs.map (·.2)) ps
  | v, .scr ns => ∃ a, v = .ref a ∧ ((Rd H a (.lst (ns.map V.int)) ∧ ¬ L a) ∨ SqL K (fun _ => none) a (ns.map V.int))
def RepPs (L : Addr → Prop) (H : Hp) : List V → List P → Prop
  | [], [] => True
  | v :: vs, p :: ps => RepP L H v p ∧ RepPs L H vs ps
  | _, _ => False
end
theorem repPs_iff {L : Addr → Prop} {H : Hp} : ∀ {vs : List V} {ps : List P}, RepPs K mg L H vs ps ↔ All2 (RepP K mg L H) vs ps
  | [], [] => by simp [RepPs, All2]
  | _ :: _, _ :: _ => by simp only [RepPs, All2]; exact and_congr Iff.rfl repPs_iff
  | [], _ :: _ => by simp [RepPs, All2]
  | _ :: _, [] => by simp [RepPs, All2]
def inS (S : Lv) (a : Addr) : Prop := some a ∈ S.l ∨ a ∈ S.h
/-- what a transition keeps -/
structure Step (S : Lv) (H : Hp) (S' : Lv) (H' : Hp) : Prop where
  len : S.l.length ≤ S'.l.length
  live : ∀ (n : Nat) (a : Addr), n < S.l.length → S'.l[n]? = some (some a) → S.l[n]? = some (some a)
  keep : ∀ a o, H a = some o → some a ∉ S.l → H' a = some o ∧ some a ∉ S'.l
  hid : S'.h = S.h
  tup : ∀ a xs, H a = some (.tup xs) → H' a = some (.tup xs)
  frz : ∀ a o u, H a = some (.frz o u) → H' a = some (.frz o u)
def RepV (S : Lv) (H : Hp) (v : V) : Vl → Prop
  | .p x => RepP K mg (inS S) H v x
  | .loc n => n < S.l.length ∧ ∀ a, S.l[n]? = some (some a) → v = .ref a
abbrev RepVs (S : Lv) (H : Hp) : List V → List Vl → Prop := All2 (RepV K mg S H)
def CellOk (S : Lv) (H : Hp) (a : Addr) : Cell → Prop
  | .dead => True
  | .lst vs => ∃ xs, H a = some (.lst xs) ∧ RepVs K mg S H xs vs
  | .dic ks vs => ∃ es, H a = some (.dK es) ∧ es.map (·.1) = ks ∧ RepVs K mg S H (es.map (·.2)) vs
  | .dit ks vs => ∃ es, H a = some (.dT es) ∧ es.map (·.1) = ks ∧ RepVs K mg S H (es.map (·.2)) vs
  | .obj c ks vs => ∃ C dx fs, H a = some (.ins C dx fs) ∧ mg c = some (.ref C) ∧ fs.map (·.1) = ks ∧ RepVs K mg S H (fs.map (·.2)) vs
def Cell.isDead : Cell → Bool
  | .dead => true
  | _ => false
structure StOk (S : Lv) (st : Sto) (H : Hp) : Prop where
  len : S.l.length = st.length
  inj : ∀ (n m : Nat) (a : Addr), S.l[n]? = some (some a) → S.l[m]? = some (some a) → n = m
  cell : ∀ (n : Nat) (c : Cell), st[n]? = some c → c.isDead = false → ∃ a, S.l[n]? = some (some a) ∧ CellOk K mg S H a c
  gone : ∀ (n : Nat) (a : Addr), S.l[n]? = some (some a) → ∃ c, st[n]? = some c ∧ c.isDead = false
  hid : ∀ a ∈ S.h, some a ∉ S.l ∧ ∃ o, H a = some o ∧ (∀ xs, o ≠ .tup xs) ∧ ∀ u x, o ≠ .frz u x
end
section
variable {K : PySem.W.Frag} {mg : Str → Option Value} {S S' S2 : Lv} {H H' H2 : Hp} {st st' : Sto}
theorem Step.refl : Step S H S H := ⟨Nat.le_refl _, fun _ _ _ h => h, fun _ _ h n => ⟨h, n⟩, rfl, fun _ _ h => h, fun _ _ _ h => h⟩
theorem Step.trans (a : Step S H S' H') (b : Step S' H' S2 H2) : Step S H S2 H2 :=
  ⟨Nat.le_trans a.len b.len, fun n x hn h => a.live n x hn (b.live n x (Nat.lt_of_lt_of_le hn a.len) h), fun x o h n => b.keep x o (a.keep x o h n).1 (a.keep x o h n).2, b.hid.trans a.hid,
    fun x xs h => b.tup x xs (a.tup x xs h), fun x o u h => b.frz x o u (a.frz x o u h)⟩
theorem Step.pure (s : Step S H S' H') {a : Addr} {o : HO} (h : H a = some o) (n : ¬ inS S a) : H' a = some o ∧ ¬ inS S' a :=
  ⟨(s.keep a o h fun z => n (.inl z)).1, fun z => z.elim (s.keep a o h fun z => n (.inl z)).2 fun z => n (.inr (by rw [← s.hid]; exact z))⟩
theorem rd_keep (s : Step S H S' H') {a : Addr} {xs : List V} (h : SqT K H a xs) : SqT K H' a xs := by
  rcases h with (h | ⟨o, h⟩) | h
  · exact .inl (.inl (s.tup _ _ h))
  · exact .inl (.inr ⟨o, s.frz _ _ _ h⟩)
  · exact .inr h
mutual
theorem RepP.step (s : Step S H S' H') : ∀ (p : P) (v : V), RepP K mg (inS S) H v p → RepP K mg (inS S') H' v p
  | .non, _, h => h
  | .bl _, _, h => h
  | .int _, _, h => h
  | .str _, _, h => h
  | .tup ps, _, h => by
    simp only [RepP] at h ⊢
    obtain ⟨a, xs, e, q, z, r⟩ := h
    exact ⟨a, xs, e, rd_keep s q, z.imp id (s.tup _ _), RepPs.step s ps xs r⟩
  | .ctp ps, _, h => by
    simp only [RepP] at h ⊢
    obtain ⟨a, xs, e, q, r⟩ := h
    exact ⟨a, xs, e, q, RepPs.step s ps xs r⟩
  | .lst ps, _, h => by
    simp only [RepP] at h ⊢
    obtain ⟨a, xs, e, q, n, r⟩ := h
    exact ⟨a, xs, e, (s.pure q n).1, (s.pure q n).2, RepPs.step s ps xs r⟩
  | .dic ks ps, _, h => by
    simp only [RepP] at h ⊢
    obtain ⟨a, xs, e, q, n, k, r⟩ := h
    exact ⟨a, xs, e, (s.pure q n).1, (s.pure q n).2, k, RepPs.step s ps _ r⟩
  | .dit ks ps, _, h => by
    simp only [RepP] at h ⊢
    obtain ⟨a, xs, e, q, n, k, r⟩ := h
    exact ⟨a, xs, e, (s.pure q n).1, (s.pure q n).2, k, RepPs.step s ps _ r⟩
  | .obj c ks ps, _, h => by
    simp only [RepP] at h ⊢
    obtain ⟨a, C, dx, fs, e, q, n, m, k, r⟩ := h
    exact ⟨a, C, dx, fs, e, (s.pure q n).1, (s.pure q n).2, m, k, RepPs.step s ps _ r⟩
  | .scr ns, _, h => by
    simp only [RepP] at h ⊢
    obtain ⟨a, e, q⟩ := h
    refine ⟨a, e, ?_⟩
    rcases q with ⟨q | ⟨o, q⟩, n⟩ | q
    · exact .inl ⟨.inl (s.pure q n).1, (s.pure q n).2⟩
    · exact .inl ⟨.inr ⟨o, s.frz _ _ _ q⟩, (s.pure q n).2⟩
    · exact .inr q
theorem RepPs.step (s : Step S H S' H') : ∀ (ps : List P) (vs : List V), RepPs K mg (inS S) H vs ps → RepPs K mg (inS S') H' vs ps
  | [], [], h => h
  | p :: ps, v :: vs, h => by
    simp only [RepPs] at h ⊢
    exact ⟨RepP.step s p v h.1, RepPs.step s ps vs h.2⟩
  | [], _ :: _, h => by simp [RepPs] at h
  | _ :: _, [], h => by simp [RepPs] at h
end
mutual
theorem RepP.bare {L : Addr → Prop} : ∀ (p : P) (v : V), RepP K mg L H v p → RepP K mg (fun _ => False) H v p
  | .non, _, h => h
  | .bl _, _, h => h
  | .int _, _, h => h
  | .str _, _, h => h
  | .tup ps, _, h => by
    simp only [RepP] at h ⊢
    obtain ⟨a, xs, e, q, z, r⟩ := h
    exact ⟨a, xs, e, q, z, RepPs.bare ps xs r⟩
  | .ctp ps, _, h => by
    simp only [RepP] at h ⊢
    obtain ⟨a, xs, e, q, r⟩ := h
    exact ⟨a, xs, e, q, RepPs.bare ps xs r⟩
  | .lst ps, _, h => by
    simp only [RepP] at h ⊢
    obtain ⟨a, xs, e, q, n, r⟩ := h
    exact ⟨a, xs, e, q, fun z => z, RepPs.bare ps xs r⟩
  | .dic ks ps, _, h => by
    simp only [RepP] at h ⊢
    obtain ⟨a, xs, e, q, n, k, r⟩ := h
    exact ⟨a, xs, e, q, fun z => z, k, RepPs.bare ps _ r⟩
  | .dit ks ps, _, h => by
    simp only [RepP] at h ⊢
    obtain ⟨a, xs, e, q, n, k, r⟩ := h
    exact ⟨a, xs, e, q, fun z => z, k, RepPs.bare ps _ r⟩
  | .obj c ks ps, _, h => by
    simp only [RepP] at h ⊢
    obtain ⟨a, C, dx, fs, e, q, n, m, k, r⟩ := h
    exact ⟨a, C, dx, fs, e, q, fun z => z, m, k, RepPs.bare ps _ r⟩
  | .scr ns, _, h => by
    simp only [RepP] at h ⊢
    obtain ⟨a, e, q⟩ := h
    exact ⟨a, e, q.imp (fun q => ⟨q.1, fun z => z⟩) id⟩
theorem RepPs.bare {L : Addr → Prop} : ∀ (ps : List P) (vs : List V), RepPs K mg L H vs ps → RepPs K mg (fun _ => False) H vs ps
  | [], [], h => h
  | p :: ps, v :: vs, h => by
    simp only [RepPs] at h ⊢
    exact ⟨RepP.bare p v h.1, RepPs.bare ps vs h.2⟩
  | [], _ :: _, h => by simp [RepPs] at h
  | _ :: _, [], h => by simp [RepPs] at h
end
theorem RepV.step (s : Step S H S' H') {v : V} : ∀ {x : Vl}, RepV K mg S H v x → RepV K mg S' H' v x
  | .p p, h => RepP.step s p v h
  | .loc n, h => ⟨Nat.lt_of_lt_of_le h.1 s.len, fun a e => h.2 a (s.live n a h.1 e)⟩
theorem RepVs.step (s : Step S H S' H') {vs : List V} {xs : List Vl} (h : RepVs K mg S H vs xs) : RepVs K mg S' H' vs xs := h.imp fun _ _ r => r.step s
def Slot (S : Lv) (H : Hp) (o : Option V) : Option Vl → Prop
  | none => True
  | some x => ∃ v, o = some v ∧ RepV K mg S H v x
abbrev EnvR (S : Lv) (H : Hp) : St → Env → Prop := All2 (Slot (K := K) (mg := mg) S H)
theorem EnvR.step (s : Step S H S' H') {σ : St} {env : Env} (h : EnvR (K := K) (mg := mg) S H σ env) : EnvR (K := K) (mg := mg) S' H' σ env := h.imp fun o x r => by
  cases x with
  | none => trivial
  | some x => obtain ⟨v, e, q⟩ := r; exact ⟨v, e, q.step s⟩

/-! ### the store's transitions -/
theorem StOk.at (k : StOk K mg S st H) {n : Nat} {c : Cell} (e : st[n]? = some c) (d : c.isDead = false) : ∃ a, S.l[n]? = some (some a) ∧ CellOk K mg S H a c := k.cell n c e d
theorem CellOk.step (s : Step S H S' H') {a : Addr} : ∀ {c : Cell}, (∀ o, H a = some o → H' a = some o) → CellOk K mg S H a c → CellOk K mg S' H' a c
  | .dead, _, _ => trivial
  | .lst _, k, ⟨xs, e, r⟩ => ⟨xs, k _ e, r.step s⟩
  | .dic _ _, k, ⟨es, e, z, r⟩ => ⟨es, k _ e, z, r.step s⟩
  | .dit _ _, k, ⟨es, e, z, r⟩ => ⟨es, k _ e, z, r.step s⟩
  | .obj _ _ _, k, ⟨C, dx, fs, e, m, z, r⟩ => ⟨C, dx, fs, k _ e, m, z, r.step s⟩
/-- a new object that is no cell -/
theorem Step.new {p : Addr} {o : HO} (hp : H p = none) (k : StOk K mg S st H) : Step S H S (upd H p o) := by
  have ne : ∀ {a : Addr} {u : HO}, H a = some u → a ≠ p := fun e => ne_of_none e hp
  exact ⟨Nat.le_refl _, fun _ _ _ h => h, fun a u h n => ⟨by rw [upd_ne (ne h)]; exact h, n⟩, rfl, fun a xs h => by rw [upd_ne (ne h)]; exact h, fun a u x h => by rw [upd_ne (ne h)]; exact h⟩
theorem CellOk.there {a : Addr} : ∀ {c : Cell}, c.isDead = false → CellOk K mg S H a c → ∃ o, H a = some o ∧ (∀ xs, o ≠ .tup xs) ∧ ∀ u x, o ≠ .frz u x
  | .dead, d, _ => by simp [Cell.isDead] at d
  | .lst _, _, ⟨xs, e, _⟩ => ⟨_, e, fun _ => by simp, fun _ _ => by simp⟩
  | .dic _ _, _, ⟨es, e, _⟩ => ⟨_, e, fun _ => by simp, fun _ _ => by simp⟩
  | .dit _ _, _, ⟨es, e, _⟩ => ⟨_, e, fun _ => by simp, fun _ _ => by simp⟩
  | .obj _ _ _, _, ⟨C, dx, fs, e, _⟩ => ⟨_, e, fun _ => by simp, fun _ _ => by simp⟩
theorem StOk.live_there (k : StOk K mg S st H) {a : Addr} (h : inS S a) : ∃ o, H a = some o ∧ (∀ xs, o ≠ .tup xs) ∧ ∀ u x, o ≠ .frz u x := by
  rcases h with h | h
  · obtain ⟨n, e⟩ := List.mem_iff_getElem?.mp h
    obtain ⟨c, ec, d⟩ := k.gone n a e
    obtain ⟨b, eb, ok⟩ := k.cell n c ec d
    rw [e] at eb
    cases eb
    exact ok.there d
  · exact (k.hid a h).2
theorem StOk.fresh (k : StOk K mg S st H) {p : Addr} (hp : H p = none) : ¬ inS S p := fun h => by
  obtain ⟨o, e, _⟩ := k.live_there h
  rw [hp] at e; cases e
theorem hid_keep (k : StOk K mg S st H) (s : Step S H S' H') : ∀ a ∈ S'.h, some a ∉ S'.l ∧ ∃ o, H' a = some o ∧ (∀ xs, o ≠ .tup xs) ∧ ∀ u x, o ≠ .frz u x := fun a ha => by
  rw [s.hid] at ha
  obtain ⟨n, o, e, t⟩ := k.hid a ha
  obtain ⟨e2, n2⟩ := s.keep a o e n
  exact ⟨n2, o, e2, t⟩
/-- the store behind a step that touches no cell -/
theorem StOk.step (k : StOk K mg S st H) (s : Step S H S H') (c : ∀ a o, some a ∈ S.l → H a = some o → H' a = some o) : StOk K mg S st H' :=
  ⟨k.len, k.inj, fun n x e d => by
    obtain ⟨a, ea, ok⟩ := k.cell n x e d
    exact ⟨a, ea, ok.step s fun o q => c a o (List.mem_of_getElem? ea) q⟩, k.gone, hid_keep k s⟩
theorem StOk.new {p : Addr} {o : HO} (k : StOk K mg S st H) (hp : H p = none) : StOk K mg S st (upd H p o) :=
  k.step (Step.new hp k) fun a u _ e => by rw [upd_ne (ne_of_none e hp)]; exact e
def Lv.add (S : Lv) (p : Addr) : Lv := ⟨S.l ++ [some p], S.h⟩
def Lv.kill (S : Lv) (n : Nat) : Lv := ⟨S.l.set n none, S.h⟩
/-- a new cell -/
theorem Step.cell {p : Addr} {o : HO} (hp : H p = none) (k : StOk K mg S st H) : Step S H (S.add p) (upd H p o) := by
  have ne : ∀ {a : Addr} {u : HO}, H a = some u → a ≠ p := fun e => ne_of_none e hp
  refine ⟨by simp [Lv.add], fun n a hn h => ?_, fun a u h n => ⟨by rw [upd_ne (ne h)]; exact h, fun z => ?_⟩, rfl, fun a xs h => by rw [upd_ne (ne h)]; exact h, fun a u x h => by rw [upd_ne (ne h)]; exact h⟩
  · unfold Lv.add at h
    rw [List.getElem?_append_left hn] at h; exact h
  · unfold Lv.add at z
    rcases List.mem_append.mp z with z | z
    · exact n z
    · simp at z; exact ne h z
theorem StOk.cell_new {p : Addr} {o : HO} {c : Cell} (k : StOk K mg S st H) (hp : H p = none) (hc : CellOk K mg (S.add p) (upd H p o) p c) (hd : c.isDead = false) : StOk K mg (S.add p) (st ++ [c]) (upd H p o) := by
  have s := Step.cell (o := o) hp k
  have nin : some p ∉ S.l := fun z => k.fresh hp (.inl z)
  have old : ∀ (n : Nat) (a : Addr), (S.l ++ [some p])[n]? = some (some a) → (n < S.l.length ∧ S.l[n]? = some (some a)) ∨ (n = S.l.length ∧ a = p) := fun n a e => by
    by_cases hn : n < S.l.length
    · rw [List.getElem?_append_left hn] at e; exact .inl ⟨hn, e⟩
    · rw [List.getElem?_append_right (by omega)] at e
      by_cases h0 : n - S.l.length = 0
      · rw [h0] at e; simp at e; exact .inr ⟨by omega, e.symm⟩
      · rw [List.getElem?_eq_none (by simp; omega)] at e; cases e
  refine ⟨by simp [k.len, Lv.add], fun n m a e1 e2 => ?_, fun n x e d => ?_, fun n a e => ?_, hid_keep k s⟩
  · rcases old n a e1 with ⟨h1, q1⟩ | ⟨h1, q1⟩ <;> rcases old m a e2 with ⟨h2, q2⟩ | ⟨h2, q2⟩
    · exact k.inj n m a q1 q2
    · subst q2; exact absurd (List.mem_of_getElem? q1) nin
    · subst q1; exact absurd (List.mem_of_getElem? q2) nin
    · omega
  · by_cases hn : n < st.length
    · rw [List.getElem?_append_left hn] at e
      obtain ⟨a, ea, ok⟩ := k.cell n x e d
      refine ⟨a, by unfold Lv.add; rw [List.getElem?_append_left (by rw [k.len]; exact hn)]; exact ea, ok.step s fun u q => by rw [upd_ne (ne_of_none q hp)]; exact q⟩
    · have hn2 : n = st.length := by
        by_cases h0 : n = st.length
        · exact h0
        · rw [List.getElem?_eq_none (by simp; omega)] at e; cases e
      subst hn2
      rw [List.getElem?_append_right (Nat.le_refl _)] at e
      simp at e; subst e
      exact ⟨p, by unfold Lv.add; rw [← k.len, List.getElem?_append_right (Nat.le_refl _)]; simp, hc⟩
  · rcases old n a e with ⟨h1, q1⟩ | ⟨h1, q1⟩
    · obtain ⟨x, ex, d⟩ := k.gone n a q1
      exact ⟨x, by rw [List.getElem?_append_left (by rw [← k.len]; exact h1)]; exact ex, d⟩
    · subst h1
      exact ⟨c, by rw [k.len, List.getElem?_append_right (Nat.le_refl _)]; simp, hd⟩
/-- a cell is written -/
theorem Step.write {n : Nat} {a : Addr} {u : HO} (k : StOk K mg S st H) (e : S.l[n]? = some (some a)) : Step S H S (upd H a u) := by
  have hin : some a ∈ S.l := List.mem_of_getElem? e
  obtain ⟨o, eo, nt, nf⟩ := k.live_there (.inl hin)
  refine ⟨Nat.le_refl _, fun _ _ _ h => h, fun b w h nb => ⟨?_, nb⟩, rfl, fun b xs h => ?_, fun b w x h => ?_⟩
  · rw [upd_ne (fun (z : b = a) => nb (by rw [z]; exact hin))]; exact h
  · rw [upd_ne]; exact h
    rintro rfl; rw [eo] at h; cases h; exact nt xs rfl
  · rw [upd_ne]; exact h
    rintro rfl; rw [eo] at h; cases h; exact nf w x rfl
theorem StOk.write {n : Nat} {a : Addr} {u : HO} {c : Cell} (k : StOk K mg S st H) (e : S.l[n]? = some (some a)) (hc : CellOk K mg S (upd H a u) a c) (hd : c.isDead = false) : StOk K mg S (st.set n c) (upd H a u) := by
  have s := Step.write (u := u) k e
  have hn : n < st.length := by rw [← k.len]; exact (List.getElem?_eq_some_iff.mp e).1
  refine ⟨by simp [k.len], k.inj, fun m x ex d => ?_, fun m b eb => ?_, hid_keep k s⟩
  · by_cases hm : n = m
    · subst hm
      rw [List.getElem?_set_self hn] at ex
      cases ex
      exact ⟨a, e, hc⟩
    · rw [List.getElem?_set_ne hm] at ex
      obtain ⟨b, eb, ok⟩ := k.cell m x ex d
      refine ⟨b, eb, ok.step s fun o q => ?_⟩
      rw [upd_ne]; exact q
      rintro rfl; exact hm (k.inj _ _ _ e eb)
  · by_cases hm : n = m
    · subst hm
      exact ⟨c, List.getElem?_set_self hn, hd⟩
    · obtain ⟨x, ex, d⟩ := k.gone m b eb
      exact ⟨x, by rw [List.getElem?_set_ne hm]; exact ex, d⟩
/-- a cell dies: its object is pure from now on -/
theorem Step.kill (S : Lv) (H : Hp) (n : Nat) : Step S H (S.kill n) H := by
  refine ⟨by simp [Lv.kill], fun m a hm h => ?_, fun a o h nb => ⟨h, fun z => ?_⟩, rfl, fun _ _ h => h, fun _ _ _ h => h⟩
  · unfold Lv.kill at h
    by_cases hn : n = m
    · subst hn; rw [List.getElem?_set_self hm] at h; cases h
    · rw [List.getElem?_set_ne hn] at h; exact h
  · unfold Lv.kill at z
    rcases List.mem_or_eq_of_mem_set z with z | z
    · exact nb z
    · cases z
theorem not_inS_kill (k : StOk K mg S st H) {n : Nat} {a : Addr} (e : S.l[n]? = some (some a)) : ¬ inS (S.kill n) a := fun z => by
  rcases z with z | z
  · obtain ⟨m, em⟩ := List.mem_iff_getElem?.mp z
    unfold Lv.kill at em
    by_cases hn : n = m
    · subst hn
      have hl : n < S.l.length := (List.getElem?_eq_some_iff.mp e).1
      rw [List.getElem?_set_self hl] at em; cases em
    · rw [List.getElem?_set_ne hn] at em
      exact hn (k.inj _ _ _ e em)
  · exact (k.hid a z).1 (List.mem_of_getElem? e)
theorem StOk.kill (k : StOk K mg S st H) (n : Nat) : StOk K mg (S.kill n) (st.set n .dead) H := by
  have s := Step.kill S H n
  have f : ∀ (i : Nat) (a : Addr), (S.l.set n none)[i]? = some (some a) → n ≠ i ∧ S.l[i]? = some (some a) := fun i a e => by
    by_cases hn : n = i
    · subst hn
      by_cases hl : n < S.l.length
      · rw [List.getElem?_set_self hl] at e; cases e
      · rw [List.getElem?_eq_none (by simp; omega)] at e; cases e
    · rw [List.getElem?_set_ne hn] at e; exact ⟨hn, e⟩
  refine ⟨by simp [k.len, Lv.kill], fun i j a e1 e2 => k.inj i j a (f i a e1).2 (f j a e2).2, fun m x ex d => ?_, fun m b eb => ?_, hid_keep k s⟩
  · by_cases hm : n = m
    · subst hm
      by_cases hl : n < st.length
      · rw [List.getElem?_set_self hl] at ex; cases ex; simp [Cell.isDead] at d
      · rw [List.getElem?_eq_none (by simp; omega)] at ex; cases ex
    · rw [List.getElem?_set_ne hm] at ex
      obtain ⟨b, eb, ok⟩ := k.cell m x ex d
      exact ⟨b, by unfold Lv.kill; rw [List.getElem?_set_ne hm]; exact eb, ok.step s fun _ q => q⟩
  · obtain ⟨hm, e⟩ := f m b eb
    obtain ⟨x, ex, d⟩ := k.gone m b e
    exact ⟨x, by rw [List.getElem?_set_ne hm]; exact ex, d⟩
/-! ### what is being built -/
def Lv.hide (S : Lv) (p : Addr) : Lv := ⟨S.l, p :: S.h⟩
mutual
theorem RepP.less {L L' : Addr → Prop} (f : ∀ a, L' a → L a) : ∀ (p : P) (v : V), RepP K mg L H v p → RepP K mg L' H v p
  | .non, _, h => h
  | .bl _, _, h => h
  | .int _, _, h => h
  | .str _, _, h => h
  | .tup ps, _, h => by
    simp only [RepP] at h ⊢
    obtain ⟨a, xs, e, q, z, r⟩ := h
    exact ⟨a, xs, e, q, z, RepPs.less f ps xs r⟩
  | .ctp ps, _, h => by
    simp only [RepP] at h ⊢
    obtain ⟨a, xs, e, q, r⟩ := h
    exact ⟨a, xs, e, q, RepPs.less f ps xs r⟩
  | .lst ps, _, h => by
    simp only [RepP] at h ⊢
    obtain ⟨a, xs, e, q, n, r⟩ := h
    exact ⟨a, xs, e, q, fun z => n (f a z), RepPs.less f ps xs r⟩
  | .dic ks ps, _, h => by
    simp only [RepP] at h ⊢
    obtain ⟨a, xs, e, q, n, k, r⟩ := h
    exact ⟨a, xs, e, q, fun z => n (f a z), k, RepPs.less f ps _ r⟩
  | .dit ks ps, _, h => by
    simp only [RepP] at h ⊢
    obtain ⟨a, xs, e, q, n, k, r⟩ := h
    exact ⟨a, xs, e, q, fun z => n (f a z), k, RepPs.less f ps _ r⟩
  | .obj c ks ps, _, h => by
    simp only [RepP] at h ⊢
    obtain ⟨a, C, dx, fs, e, q, n, m, k, r⟩ := h
    exact ⟨a, C, dx, fs, e, q, fun z => n (f a z), m, k, RepPs.less f ps _ r⟩
  | .scr ns, _, h => by
    simp only [RepP] at h ⊢
    obtain ⟨a, e, q⟩ := h
    exact ⟨a, e, q.imp (fun q => ⟨q.1, fun z => q.2 (f a z)⟩) id⟩
theorem RepPs.less {L L' : Addr → Prop} (f : ∀ a, L' a → L a) : ∀ (ps : List P) (vs : List V), RepPs K mg L H vs ps → RepPs K mg L' H vs ps
  | [], [], h => h
  | p :: ps, v :: vs, h => by
    simp only [RepPs] at h ⊢
    exact ⟨RepP.less f p v h.1, RepPs.less f ps vs h.2⟩
  | [], _ :: _, h => by simp [RepPs] at h
  | _ :: _, [], h => by simp [RepPs] at h
end
theorem RepV.shown {p : Addr} {v : V} : ∀ {x : Vl}, RepV K mg (S.hide p) H v x → RepV K mg S H v x
  | .p x, h => RepP.less (fun a z => z.imp id fun z => List.mem_cons_of_mem _ z) x v h
  | .loc n, h => h
theorem CellOk.shown {p a : Addr} : ∀ {c : Cell}, CellOk K mg (S.hide p) H a c → CellOk K mg S H a c
  | .dead, _ => trivial
  | .lst _, ⟨xs, e, r⟩ => ⟨xs, e, r.imp fun _ _ => RepV.shown⟩
  | .dic _ _, ⟨es, e, z, r⟩ => ⟨es, e, z, r.imp fun _ _ => RepV.shown⟩
  | .dit _ _, ⟨es, e, z, r⟩ => ⟨es, e, z, r.imp fun _ _ => RepV.shown⟩
  | .obj _ _ _, ⟨C, dx, fs, e, m, z, r⟩ => ⟨C, dx, fs, e, m, z, r.imp fun _ _ => RepV.shown⟩
theorem StOk.shown {p : Addr} (k : StOk K mg (S.hide p) st H) : StOk K mg S st H :=
  ⟨k.len, k.inj, fun n c e d => by obtain ⟨a, ea, ok⟩ := k.cell n c e d; exact ⟨a, ea, ok.shown⟩, k.gone, fun a ha => k.hid a (List.mem_cons_of_mem _ ha)⟩
mutual
/-- a fresh place hides nothing that is there: p was free in H -/
theorem RepP.hide {p : Addr} {o : HO} (hp : H p = none) : ∀ (x : P) (v : V), RepP K mg (inS S) H v x → RepP K mg (inS (S.hide p)) (upd H p o) v x
  | .non, _, h => h
  | .bl _, _, h => h
  | .int _, _, h => h
  | .str _, _, h => h
  | .tup ps, _, h => by
    simp only [RepP] at h ⊢
    obtain ⟨a, xs, e, q, z, r⟩ := h
    have g : ∀ {u : HO}, H a = some u → (upd H p o) a = some u := fun e => by rw [upd_ne (ne_of_none e hp)]; exact e
    refine ⟨a, xs, e, ?_, z.imp id g, RepPs.hide hp ps xs r⟩
    rcases q with (q | ⟨u, q⟩) | q
    · exact .inl (.inl (g q))
    · exact .inl (.inr ⟨u, g q⟩)
    · exact .inr q
  | .ctp ps, _, h => by
    simp only [RepP] at h ⊢
    obtain ⟨a, xs, e, q, r⟩ := h
    exact ⟨a, xs, e, q, RepPs.hide hp ps xs r⟩
  | .lst ps, _, h => by
    simp only [RepP] at h ⊢
    obtain ⟨a, xs, e, q, n, r⟩ := h
    have ne := ne_of_none q hp
    exact ⟨a, xs, e, by rw [upd_ne ne]; exact q, fun z => z.elim (fun z => n (.inl z)) fun z => (List.mem_cons.mp z).elim ne fun z => n (.inr z), RepPs.hide hp ps xs r⟩
  | .dic ks ps, _, h => by
    simp only [RepP] at h ⊢
    obtain ⟨a, xs, e, q, n, k, r⟩ := h
    have ne := ne_of_none q hp
    exact ⟨a, xs, e, by rw [upd_ne ne]; exact q, fun z => z.elim (fun z => n (.inl z)) fun z => (List.mem_cons.mp z).elim ne fun z => n (.inr z), k, RepPs.hide hp ps _ r⟩
  | .dit ks ps, _, h => by
    simp only [RepP] at h ⊢
    obtain ⟨a, xs, e, q, n, k, r⟩ := h
    have ne := ne_of_none q hp
    exact ⟨a, xs, e, by rw [upd_ne ne]; exact q, fun z => z.elim (fun z => n (.inl z)) fun z => (List.mem_cons.mp z).elim ne fun z => n (.inr z), k, RepPs.hide hp ps _ r⟩
  | .obj c ks ps, _, h => by
    simp only [RepP] at h ⊢
    obtain ⟨a, C, dx, fs, e, q, n, m, k, r⟩ := h
    have ne := ne_of_none q hp
    exact ⟨a, C, dx, fs, e, by rw [upd_ne ne]; exact q, fun z => z.elim (fun z => n (.inl z)) fun z => (List.mem_cons.mp z).elim ne fun z => n (.inr z), m, k, RepPs.hide hp ps _ r⟩
  | .scr ns, _, h => by
    simp only [RepP] at h ⊢
    obtain ⟨a, e, q⟩ := h
    refine ⟨a, e, ?_⟩
    have g : ∀ {u : HO}, H a = some u → (upd H p o) a = some u := fun e => by rw [upd_ne (ne_of_none e hp)]; exact e
    have m : ∀ {u : HO}, H a = some u → ¬ inS S a → ¬ inS (S.hide p) a := fun e n z => z.elim (fun z => n (.inl z)) fun z => (List.mem_cons.mp z).elim (ne_of_none e hp) fun z => n (.inr z)
    rcases q with ⟨q | ⟨u, q⟩, n⟩ | q
    · exact .inl ⟨.inl (g q), m q n⟩
    · exact .inl ⟨.inr ⟨u, g q⟩, m q n⟩
    · exact .inr q
theorem RepPs.hide {p : Addr} {o : HO} (hp : H p = none) : ∀ (xs : List P) (vs : List V), RepPs K mg (inS S) H vs xs → RepPs K mg (inS (S.hide p)) (upd H p o) vs xs
  | [], [], h => h
  | p :: ps, v :: vs, h => by
    simp only [RepPs] at h ⊢
    exact ⟨RepP.hide hp p v h.1, RepPs.hide hp ps vs h.2⟩
  | [], _ :: _, h => by simp [RepPs] at h
  | _ :: _, [], h => by simp [RepPs] at h
end
theorem RepV.hide {p : Addr} {o : HO} (hp : H p = none) {v : V} : ∀ {x : Vl}, RepV K mg S H v x → RepV K mg (S.hide p) (upd H p o) v x
  | .p x, h => RepP.hide hp x v h
  | .loc n, h => h
theorem RepVs.hide {p : Addr} {o : HO} (hp : H p = none) {vs : List V} {xs : List Vl} (h : RepVs K mg S H vs xs) : RepVs K mg (S.hide p) (upd H p o) vs xs := h.imp fun _ _ => RepV.hide hp
theorem EnvR.hide {p : Addr} {o : HO} (hp : H p = none) {σ : St} {env : Env} (h : EnvR (K := K) (mg := mg) S H σ env) : EnvR (K := K) (mg := mg) (S.hide p) (upd H p o) σ env := h.imp fun u x r => by
  cases x with
  | none => trivial
  | some x => obtain ⟨v, e, q⟩ := r; exact ⟨v, e, q.hide hp⟩
theorem EnvR.shown {p : Addr} {σ : St} {env : Env} (h : EnvR (K := K) (mg := mg) (S.hide p) H σ env) : EnvR (K := K) (mg := mg) S H σ env := h.imp fun u x r => by
  cases x with
  | none => trivial
  | some x => obtain ⟨v, e, q⟩ := r; exact ⟨v, e, q.shown⟩
theorem CellOk.hide {p a : Addr} {o : HO} (hp : H p = none) : ∀ {c : Cell}, CellOk K mg S H a c → CellOk K mg (S.hide p) (upd H p o) a c
  | .dead, _ => trivial
  | .lst _, ⟨xs, e, r⟩ => ⟨xs, by rw [upd_ne (ne_of_none e hp)]; exact e, RepVs.hide hp r⟩
  | .dic _ _, ⟨es, e, z, r⟩ => ⟨es, by rw [upd_ne (ne_of_none e hp)]; exact e, z, RepVs.hide hp r⟩
  | .dit _ _, ⟨es, e, z, r⟩ => ⟨es, by rw [upd_ne (ne_of_none e hp)]; exact e, z, RepVs.hide hp r⟩
  | .obj _ _ _, ⟨C, dx, fs, e, m, z, r⟩ => ⟨C, dx, fs, by rw [upd_ne (ne_of_none e hp)]; exact e, m, z, RepVs.hide hp r⟩
theorem StOk.hide {p : Addr} {o : HO} (k : StOk K mg S st H) (hp : H p = none) (ho : (∀ xs, o ≠ .tup xs) ∧ ∀ u x, o ≠ .frz u x) : StOk K mg (S.hide p) st (upd H p o) :=
  ⟨k.len, k.inj, fun n c e d => by obtain ⟨a, ea, ok⟩ := k.cell n c e d; exact ⟨a, ea, ok.hide hp⟩, k.gone, fun a ha => by
    rcases List.mem_cons.mp ha with e | ha
    · subst e; exact ⟨fun z => k.fresh hp (.inl z), o, upd_same, ho⟩
    · obtain ⟨n, u, e, t⟩ := k.hid a ha
      exact ⟨n, u, by rw [upd_ne (ne_of_none e hp)]; exact e, t⟩⟩
/-- what is being built is written -/
theorem Step.built {p : Addr} {o u : HO} (e : H p = some o) (ho : (∀ xs, o ≠ .tup xs) ∧ ∀ u x, o ≠ .frz u x) (hn : some p ∉ S.l) :
    ∀ (S0 : Lv) (H0 : Hp), Step S0 H0 S H → H0 p = none → Step S0 H0 S (upd H p u) := fun S0 H0 s h0 => by
  have ne : ∀ {a : Addr} {w : HO}, H0 a = some w → a ≠ p := fun e => ne_of_none e h0
  exact ⟨s.len, s.live, fun a w h n => ⟨by rw [upd_ne (ne h)]; exact (s.keep a w h n).1, (s.keep a w h n).2⟩, s.hid, fun a xs h => by rw [upd_ne (ne h)]; exact s.tup a xs h, fun a w x h => by rw [upd_ne (ne h)]; exact s.frz a w x h⟩
mutual
theorem RepP.built {p : Addr} {o u : HO} (e : H p = some o) (ho : (∀ xs, o ≠ .tup xs) ∧ ∀ u x, o ≠ .frz u x) (hp : inS S p) : ∀ (x : P) (v : V), RepP K mg (inS S) H v x → RepP K mg (inS S) (upd H p u) v x
  | .non, _, h => h
  | .bl _, _, h => h
  | .int _, _, h => h
  | .str _, _, h => h
  | .tup ps, _, h => by
    simp only [RepP] at h ⊢
    obtain ⟨a, xs, e1, q, z, r⟩ := h
    have g : H a = some (.tup xs) → (upd H p u) a = some (.tup xs) := fun q => by
      rw [upd_ne]; exact q
      rintro rfl; rw [e] at q; cases q; exact ho.1 _ rfl
    have g2 : ∀ {w x}, H a = some (.frz w x) → (upd H p u) a = some (.frz w x) := fun q => by
      rw [upd_ne]; exact q
      rintro rfl; rw [e] at q; cases q; exact ho.2 _ _ rfl
    refine ⟨a, xs, e1, ?_, z.imp id g, RepPs.built e ho hp ps xs r⟩
    rcases q with (q | ⟨w, q⟩) | q
    · exact .inl (.inl (g q))
    · exact .inl (.inr ⟨w, g2 q⟩)
    · exact .inr q
  | .ctp ps, _, h => by
    simp only [RepP] at h ⊢
    obtain ⟨a, xs, e1, q, r⟩ := h
    exact ⟨a, xs, e1, q, RepPs.built e ho hp ps xs r⟩
  | .lst ps, _, h => by
    simp only [RepP] at h ⊢
    obtain ⟨a, xs, e1, q, n, r⟩ := h
    exact ⟨a, xs, e1, by rw [upd_ne (fun z : a = p => n (z ▸ hp))]; exact q, n, RepPs.built e ho hp ps xs r⟩
  | .dic ks ps, _, h => by
    simp only [RepP] at h ⊢
    obtain ⟨a, xs, e1, q, n, k, r⟩ := h
    exact ⟨a, xs, e1, by rw [upd_ne (fun z : a = p => n (z ▸ hp))]; exact q, n, k, RepPs.built e ho hp ps _ r⟩
  | .dit ks ps, _, h => by
    simp only [RepP] at h ⊢
    obtain ⟨a, xs, e1, q, n, k, r⟩ := h
    exact ⟨a, xs, e1, by rw [upd_ne (fun z : a = p => n (z ▸ hp))]; exact q, n, k, RepPs.built e ho hp ps _ r⟩
  | .obj c ks ps, _, h => by
    simp only [RepP] at h ⊢
    obtain ⟨a, C, dx, fs, e1, q, n, m, k, r⟩ := h
    exact ⟨a, C, dx, fs, e1, by rw [upd_ne (fun z : a = p => n (z ▸ hp))]; exact q, n, m, k, RepPs.built e ho hp ps _ r⟩
  | .scr ns, _, h => by
    simp only [RepP] at h ⊢
    obtain ⟨a, e1, q⟩ := h
    refine ⟨a, e1, ?_⟩
    rcases q with ⟨q | ⟨w, q⟩, n⟩ | q
    · exact .inl ⟨.inl (by rw [upd_ne (fun z : a = p => n (z ▸ hp))]; exact q), n⟩
    · exact .inl ⟨.inr ⟨w, by rw [upd_ne (fun z : a = p => n (z ▸ hp))]; exact q⟩, n⟩
    · exact .inr q
theorem RepPs.built {p : Addr} {o u : HO} (e : H p = some o) (ho : (∀ xs, o ≠ .tup xs) ∧ ∀ u x, o ≠ .frz u x) (hp : inS S p) : ∀ (xs : List P) (vs : List V), RepPs K mg (inS S) H vs xs → RepPs K mg (inS S) (upd H p u) vs xs
  | [], [], h => h
  | x :: ps, v :: vs, h => by
    simp only [RepPs] at h ⊢
    exact ⟨RepP.built e ho hp x v h.1, RepPs.built e ho hp ps vs h.2⟩
  | [], _ :: _, h => by simp [RepPs] at h
  | _ :: _, [], h => by simp [RepPs] at h
end
theorem RepV.built {p : Addr} {o u : HO} (e : H p = some o) (ho : (∀ xs, o ≠ .tup xs) ∧ ∀ u x, o ≠ .frz u x) (hp : inS S p) {v : V} : ∀ {x : Vl}, RepV K mg S H v x → RepV K mg S (upd H p u) v x
  | .p x, h => RepP.built e ho hp x v h
  | .loc n, h => h
theorem EnvR.built {p : Addr} {o u : HO} (e : H p = some o) (ho : (∀ xs, o ≠ .tup xs) ∧ ∀ u x, o ≠ .frz u x) (hp : inS S p) {σ : St} {env : Env} (h : EnvR (K := K) (mg := mg) S H σ env) : EnvR (K := K) (mg := mg) S (upd H p u) σ env := h.imp fun w x r => by
  cases x with
  | none => trivial
  | some x => obtain ⟨v, e1, q⟩ := r; exact ⟨v, e1, q.built e ho hp⟩
theorem StOk.built {p : Addr} {o u : HO} (k : StOk K mg S st H) (e : H p = some o) (ho : (∀ xs, o ≠ .tup xs) ∧ ∀ u x, o ≠ .frz u x) (hu : (∀ xs, u ≠ .tup xs) ∧ ∀ w x, u ≠ .frz w x) (hp : p ∈ S.h) : StOk K mg S st (upd H p u) := by
  have hn := (k.hid p hp).1
  refine ⟨k.len, k.inj, fun n c ec d => ?_, k.gone, fun a ha => ?_⟩
  · obtain ⟨a, ea, ok⟩ := k.cell n c ec d
    have ne : a ≠ p := fun z => hn (by rw [← z]; exact List.mem_of_getElem? ea)
    have g : ∀ {w : HO}, H a = some w → (upd H p u) a = some w := fun q => by rw [upd_ne ne]; exact q
    refine ⟨a, ea, ?_⟩
    cases c with
    | dead => trivial
    | lst => obtain ⟨xs, e1, r⟩ := ok; exact ⟨xs, g e1, r.imp fun _ _ => RepV.built e ho (.inr hp)⟩
    | dic => obtain ⟨xs, e1, z, r⟩ := ok; exact ⟨xs, g e1, z, r.imp fun _ _ => RepV.built e ho (.inr hp)⟩
    | dit => obtain ⟨xs, e1, z, r⟩ := ok; exact ⟨xs, g e1, z, r.imp fun _ _ => RepV.built e ho (.inr hp)⟩
    | obj => obtain ⟨C, dx, fs, e1, m, z, r⟩ := ok; exact ⟨C, dx, fs, g e1, m, z, r.imp fun _ _ => RepV.built e ho (.inr hp)⟩
  · by_cases hap : a = p
    · subst hap; exact ⟨hn, u, upd_same, hu⟩
    · obtain ⟨n, w, e1, t⟩ := k.hid a ha
      exact ⟨n, w, by rw [upd_ne hap]; exact e1, t⟩
end
end Pz

set_option Elab.async false
set_option linter.all false
set_option maxRecDepth 100000
set_option maxHeartbeats 1000000
namespace Pz
open PySem L2
section
variable {K : PySem.W.Frag} {mg : Str → Option Value} {S S' S2 : Lv} {H H' H2 : Hp} {st st' : Sto}
theorem repPs_of {L : Addr → Prop} {vs : List V} {ps : List P} (h : All2 (RepP K mg L H) vs ps) : RepPs K mg L H vs ps := (repPs_iff K mg).mpr h
theorem of_repPs {L : Addr → Prop} {vs : List V} {ps : List P} (h : RepPs K mg L H vs ps) : All2 (RepP K mg L H) vs ps := (repPs_iff K mg).mp h
/-- pure items are values -/
theorem repVs_p {vs : List V} {ps : List P} (h : RepPs K mg (inS S) H vs ps) : RepVs K mg S H vs (ps.map .p) := All2.mapR.mpr (of_repPs h)
theorem loc_at (k : StOk K mg S st H) {w : V} {i : Nat} {c : Cell} (r : RepV K mg S H w (.loc i)) (e : st[i]? = some c) (d : c.isDead = false) :
    ∃ a, w = .ref a ∧ S.l[i]? = some (some a) ∧ CellOk K mg S H a c := by
  obtain ⟨a, ea, ok⟩ := k.cell i c e d
  exact ⟨a, r.2 a ea, ea, ok⟩
mutual
theorem peek_ok (k : StOk K mg S st H) : ∀ (n : Nat) (v : Vl) (w : V) (x : P), RepV K mg S H w v → peek st n v = some x → RepP K mg (fun _ => False) H w x
  | n, .p y, w, x, r, e => by
    have e' : y = x := by cases n <;> simpa [peek] using e
    subst e'
    exact RepP.bare y w r
  | 0, .loc i, _, _, _, e => by simp [peek] at e
  | n + 1, .loc i, w, x, r, e => by
    simp only [peek] at e
    split at e
    · rename_i xs ec
      obtain ⟨a, rfl, ea, vs, eh, rv⟩ := loc_at k r ec rfl
      obtain ⟨ps, ep, rfl⟩ := Option.map_eq_some_iff.mp e
      simp only [RepP]
      exact ⟨a, vs, rfl, eh, fun z => z, peeks_ok k n xs vs ps rv ep⟩
    · rename_i ks xs ec
      obtain ⟨a, rfl, ea, vs, eh, ek, rv⟩ := loc_at k r ec rfl
      obtain ⟨ps, ep, rfl⟩ := Option.map_eq_some_iff.mp e
      simp only [RepP]
      exact ⟨a, vs, rfl, eh, fun z => z, ek, peeks_ok k n xs _ ps rv ep⟩
    · rename_i ks xs ec
      obtain ⟨a, rfl, ea, vs, eh, ek, rv⟩ := loc_at k r ec rfl
      obtain ⟨ps, ep, rfl⟩ := Option.map_eq_some_iff.mp e
      simp only [RepP]
      exact ⟨a, vs, rfl, eh, fun z => z, ek, peeks_ok k n xs _ ps rv ep⟩
    · rename_i c ks xs ec
      obtain ⟨a, rfl, ea, C, dx, fs, eh, em, ek, rv⟩ := loc_at k r ec rfl
      obtain ⟨ps, ep, rfl⟩ := Option.map_eq_some_iff.mp e
      simp only [RepP]
      exact ⟨a, C, dx, fs, rfl, eh, fun z => z, em, ek, peeks_ok k n xs _ ps rv ep⟩
    · cases e
theorem peeks_ok (k : StOk K mg S st H) : ∀ (n : Nat) (vs : List Vl) (ws : List V) (xs : List P), RepVs K mg S H ws vs → peeks st n vs = some xs → RepPs K mg (fun _ => False) H ws xs
  | n, [], ws, xs, r, e => by
    have e' : [] = xs := by cases n <;> simpa [peeks] using e
    subst e'
    rw [r.nil_l]
    simp [RepPs]
  | n, v :: vs, ws, xs, r, e => by
    obtain ⟨w, ws', rfl, r1, r2⟩ := All2.cons_l r
    simp only [peeks] at e
    split at e
    · rename_i y ey
      obtain ⟨ps, ep, rfl⟩ := Option.map_eq_some_iff.mp e
      simp only [RepPs]
      exact ⟨peek_ok k n v w y r1 ey, peeks_ok k n vs ws' ps r2 ep⟩
    · cases e
end
mutual
theorem frz_ok : ∀ (n : Nat) (st : Sto) (S : Lv) (v : Vl) (w : V) (x : P) (st' : Sto), StOk K mg S st H → RepV K mg S H w v → frz n st v = some (x, st') →
    ∃ S', Step S H S' H ∧ StOk K mg S' st' H ∧ RepP K mg (inS S') H w x
  | n, st, S, .p y, w, x, st', k, r, e => by
    have e' : y = x ∧ st = st' := by cases n <;> simpa [frz] using e
    obtain ⟨rfl, rfl⟩ := e'
    exact ⟨S, Step.refl, k, r⟩
  | 0, _, _, .loc i, _, _, _, _, _, e => by simp [frz] at e
  | n + 1, st, S, .loc i, w, x, st', k, r, e => by
    simp only [frz] at e
    split at e
    · rename_i xs ec
      obtain ⟨a, rfl, ea, vs, eh, rv⟩ := loc_at k r ec rfl
      obtain ⟨q, ep, eq⟩ := Option.map_eq_some_iff.mp e
      cases eq
      obtain ⟨S', s', k', r'⟩ := frzs_ok n _ _ xs vs q.1 q.2 (k.kill i) (rv.step (Step.kill S H i)) ep
      refine ⟨S', (Step.kill S H i).trans s', k', ?_⟩
      simp only [RepP]
      exact ⟨a, vs, rfl, eh, (s'.pure eh (not_inS_kill k ea)).2, r'⟩
    · rename_i ks xs ec
      obtain ⟨a, rfl, ea, vs, eh, ek, rv⟩ := loc_at k r ec rfl
      obtain ⟨q, ep, eq⟩ := Option.map_eq_some_iff.mp e
      cases eq
      obtain ⟨S', s', k', r'⟩ := frzs_ok n _ _ xs _ q.1 q.2 (k.kill i) (rv.step (Step.kill S H i)) ep
      refine ⟨S', (Step.kill S H i).trans s', k', ?_⟩
      simp only [RepP]
      exact ⟨a, vs, rfl, eh, (s'.pure eh (not_inS_kill k ea)).2, ek, r'⟩
    · rename_i ks xs ec
      obtain ⟨a, rfl, ea, vs, eh, ek, rv⟩ := loc_at k r ec rfl
      obtain ⟨q, ep, eq⟩ := Option.map_eq_some_iff.mp e
      cases eq
      obtain ⟨S', s', k', r'⟩ := frzs_ok n _ _ xs _ q.1 q.2 (k.kill i) (rv.step (Step.kill S H i)) ep
      refine ⟨S', (Step.kill S H i).trans s', k', ?_⟩
      simp only [RepP]
      exact ⟨a, vs, rfl, eh, (s'.pure eh (not_inS_kill k ea)).2, ek, r'⟩
    · rename_i c ks xs ec
      obtain ⟨a, rfl, ea, C, dx, fs, eh, em, ek, rv⟩ := loc_at k r ec rfl
      obtain ⟨q, ep, eq⟩ := Option.map_eq_some_iff.mp e
      cases eq
      obtain ⟨S', s', k', r'⟩ := frzs_ok n _ _ xs _ q.1 q.2 (k.kill i) (rv.step (Step.kill S H i)) ep
      refine ⟨S', (Step.kill S H i).trans s', k', ?_⟩
      simp only [RepP]
      exact ⟨a, C, dx, fs, rfl, eh, (s'.pure eh (not_inS_kill k ea)).2, em, ek, r'⟩
    · cases e
theorem frzs_ok : ∀ (n : Nat) (st : Sto) (S : Lv) (vs : List Vl) (ws : List V) (xs : List P) (st' : Sto), StOk K mg S st H → RepVs K mg S H ws vs → frzs n st vs = some (xs, st') →
    ∃ S', Step S H S' H ∧ StOk K mg S' st' H ∧ RepPs K mg (inS S') H ws xs
  | n, st, S, [], ws, xs, st', k, r, e => by
    have e' : [] = xs ∧ st = st' := by cases n <;> simpa [frzs] using e
    obtain ⟨rfl, rfl⟩ := e'
    rw [r.nil_l]
    exact ⟨S, Step.refl, k, by simp [RepPs]⟩
  | n, st, S, v :: vs, ws, xs, st', k, r, e => by
    obtain ⟨w, ws', rfl, r1, r2⟩ := All2.cons_l r
    simp only [frzs] at e
    split at e
    · rename_i y s1 ey
      obtain ⟨q, ep, eq⟩ := Option.map_eq_some_iff.mp e
      cases eq
      obtain ⟨S1, t1, k1, p1⟩ := frz_ok n st S v w y s1 k r1 ey
      obtain ⟨S2, t2, k2, p2⟩ := frzs_ok n s1 S1 vs ws' q.1 q.2 k1 (RepVs.step t1 r2) ep
      refine ⟨S2, t1.trans t2, k2, ?_⟩
      simp only [RepPs]
      exact ⟨RepP.step t2 y w p1, p2⟩
    · cases e
end

/-! ### what comes out -/
/-- the outcome r of something that starts at S, H: Q of every value and heap that it may leave -/
def Out {α β : Type} (K : PySem.W.Frag) (mg : Str → Option Value) (rel : Lv → Hp → β → α → Prop) (r : Res α) (S : Lv) (H : Hp) (Q : β → Hp → Prop) : Prop :=
  match r with
  | .ok a st => ∀ S' H' b, Step S H S' H' → StOk K mg S' st H' → rel S' H' b a → Q b H'
  | _ => False
variable {α β γ δ : Type} {rel : Lv → Hp → β → α → Prop} {rel' : Lv → Hp → δ → γ → Prop}
theorem Out.step {r : Res α} {Q : β → Hp → Prop} (h : Out K mg rel r S H Q) (s : Step S H S' H') : Out K mg rel r S' H' Q := by
  cases r with
  | ok a st => exact fun S2 H2 b s2 k rb => h S2 H2 b (s.trans s2) k rb
  | err => exact h
  | bad => exact h
theorem Out.imp {r : Res α} {Q Q' : β → Hp → Prop} (h : Out K mg rel r S H Q) (f : ∀ b H', Q b H' → Q' b H') : Out K mg rel r S H Q' := by
  cases r with
  | ok a st => exact fun S2 H2 b s2 k rb => f _ _ (h S2 H2 b s2 k rb)
  | err => exact h
  | bad => exact h
/-- a bind, taken apart -/
theorem Out.bind {r : Res α} {k : α → Sto → Res γ} {Q : δ → Hp → Prop} (h : Out K mg rel' (r.bind k) S H Q) :
    Out K mg rel r S H fun b H1 => ∃ a st1 S1, Step S H S1 H1 ∧ StOk K mg S1 st1 H1 ∧ rel S1 H1 b a ∧ Out K mg rel' (k a st1) S1 H1 Q := by
  cases r with
  | ok a st => exact fun S2 H2 b s2 ok rb => ⟨a, st, S2, s2, ok, rb, h.step s2⟩
  | err => exact h
  | bad => exact h
theorem Out.ok {a : α} {b : β} {Q : β → Hp → Prop} (h : Out K mg rel (.ok a st) S H Q) (k : StOk K mg S st H) (r : rel S H b a) : Q b H := h S H b Step.refl k r
theorem Out.ofO {o : Option α} {Q : β → Hp → Prop} (h : Out K mg rel (ofO o st) S H Q) : ∃ a, o = some a ∧ Out K mg rel (.ok a st) S H Q := by
  cases o with
  | some a => exact ⟨a, rfl, h⟩
  | none => exact h.elim
abbrev OutV (K : PySem.W.Frag) (mg : Str → Option Value) (r : Res Vl) (S : Lv) (H : Hp) (Q : V → Hp → Prop) : Prop := Out K mg (RepV K mg) r S H Q
abbrev relB : Lv → Hp → Bool → Bool → Prop := fun _ _ b a => b = a
abbrev OutB (K : PySem.W.Frag) (mg : Str → Option Value) (r : Res Bool) (S : Lv) (H : Hp) (Q : Bool → Hp → Prop) : Prop := Out K mg relB r S H Q
abbrev OutA (K : PySem.W.Frag) (mg : Str → Option Value) (r : Res (List Vl)) (S : Lv) (H : Hp) (Q : List V → Hp → Prop) : Prop := Out K mg (RepVs K mg) r S H Q

/-! ### new objects -/
theorem out_pureL {vs : List Vl} {ws : List V} {k : List P → Sto → Res γ} {Q : δ → Hp → Prop} (ok : StOk K mg S st H) (r : RepVs K mg S H ws vs) (h : Out K mg rel' ((pureL vs st).bind k) S H Q) :
    ∃ ps st1 S1, Step S H S1 H ∧ StOk K mg S1 st1 H ∧ RepPs K mg (inS S1) H ws ps ∧ Out K mg rel' (k ps st1) S1 H Q := by
  unfold pureL at h
  split at h
  · rename_i xs s1 e
    obtain ⟨S1, t, k1, p⟩ := frzs_ok deep st S vs ws xs s1 ok r e
    exact ⟨xs, s1, S1, t, k1, p, Out.step (r := k xs s1) h t⟩
  · exact h.elim
theorem out_pure1 {v : Vl} {w : V} {k : P → Sto → Res γ} {Q : δ → Hp → Prop} (ok : StOk K mg S st H) (r : RepV K mg S H w v) (h : Out K mg rel' ((pure1 v st).bind k) S H Q) :
    ∃ p st1 S1, Step S H S1 H ∧ StOk K mg S1 st1 H ∧ RepP K mg (inS S1) H w p ∧ Out K mg rel' (k p st1) S1 H Q := by
  unfold pure1 at h
  split at h
  · rename_i xs s1 e
    obtain ⟨S1, t, k1, p⟩ := frz_ok deep st S v w xs s1 ok r e
    exact ⟨xs, s1, S1, t, k1, p, Out.step (r := k xs s1) h t⟩
  · exact h.elim
/-- a new list of ws, at any free place -/
theorem out_newL {mu : Bool} {vs : List Vl} {ws : List V} {Q : V → Hp → Prop} (ok : StOk K mg S st H) (r : RepVs K mg S H ws vs) (h : OutV K mg (newL mu vs st) S H Q) :
    ws.length ≤ sizeLine ∧ ∀ p, H p = none → Q (.ref p) (upd H p (.lst ws)) := by
  unfold newL at h
  split at h
  · rename_i hz
    refine ⟨by rw [r.length]; exact hz, fun p hp => ?_⟩
    cases mu with
    | true =>
      have s := Step.cell (o := .lst ws) hp ok
      refine h (S.add p) _ (.ref p) s ?_ ?_
      · exact ok.cell_new hp ⟨ws, upd_same, r.step s⟩ rfl
      · refine ⟨by rw [← ok.len]; simp [Lv.add], fun a e => ?_⟩
        unfold Lv.add at e
        rw [← ok.len, List.getElem?_append_right (Nat.le_refl _)] at e
        simp at e; rw [e]
    | false =>
      obtain ⟨ps, st1, S1, t, k1, p1, h1⟩ := out_pureL ok r h
      have hp1 : ¬ inS S1 p := k1.fresh hp
      have s := Step.new (o := .lst ws) hp k1
      refine h1 S1 _ (.ref p) s (k1.new hp) ?_
      show RepP K mg (inS S1) _ _ _
      simp only [RepP]
      exact ⟨p, ws, rfl, upd_same, hp1, RepPs.step s ps ws p1⟩
  · exact h.elim
theorem out_newT {vs : List Vl} {ws : List V} {Q : V → Hp → Prop} (ok : StOk K mg S st H) (r : RepVs K mg S H ws vs) (h : OutV K mg (newT vs st) S H Q) :
    ws.length ≤ sizeLine ∧ ∀ p, H p = none → Q (.ref p) (upd H p (.tup ws)) := by
  unfold newT at h
  split at h
  · rename_i hz
    refine ⟨by rw [r.length]; exact hz, fun p hp => ?_⟩
    obtain ⟨ps, st1, S1, t, k1, p1, h1⟩ := out_pureL ok r h
    have s := Step.new (o := .tup ws) hp k1
    refine h1 S1 _ (.ref p) s (k1.new hp) ?_
    show RepP K mg (inS S1) _ _ _
    simp only [RepP]
    exact ⟨p, ws, rfl, SqT.of upd_same, .inr upd_same, RepPs.step s ps ws p1⟩
  · exact h.elim
end
end Pz

set_option Elab.async false
set_option linter.all false
set_option maxRecDepth 100000
set_option maxHeartbeats 1000000
namespace Pz
open PySem L2
/-! ### readings -/
def tev (K : PySem.W.Frag) (mg : Str → Option Value) (r : CE) : TE := fun σ H Q => ∃ S st env, StOk K mg S st H ∧ EnvR (K := K) (mg := mg) S H σ env ∧ OutV K mg (r env st) S H Q
def tevB (K : PySem.W.Frag) (mg : Str → Option Value) (r : CB) : TT := fun σ H Q => ∃ S st env, StOk K mg S st H ∧ EnvR (K := K) (mg := mg) S H σ env ∧ OutB K mg (r env st) S H Q
def tevA (K : PySem.W.Frag) (mg : Str → Option Value) (r : CA) : TA := fun σ H Q => ∃ S st env, StOk K mg S st H ∧ EnvR (K := K) (mg := mg) S H σ env ∧ OutA K mg (r env st) S H Q
theorem PE.weak {X : Cx} {e : Expr} {t t' : TE} (h : PE X e t) (f : ∀ σ H Q, t' σ H Q → t σ H Q) : PE X e t' := ⟨fun pins s σ H Q I q => h.run pins s σ H Q I (f _ _ _ q)⟩
theorem PT.weak {X : Cx} {e : Expr} {t t' : TT} (h : PT X e t) (f : ∀ σ H Q, t' σ H Q → t σ H Q) : PT X e t' := ⟨fun pins s σ H Q I q => h.run pins s σ H Q I (f _ _ _ q)⟩
theorem PA.weak {X : Cx} {e : List Expr} {t t' : TA} (h : PA X e t) (f : ∀ σ H Q, t' σ H Q → t σ H Q) : PA X e t' := ⟨fun pos pins s σ H Q I q => h.run pos pins s σ H Q I (f _ _ _ q)⟩
abbrev PEv (X : Cx) (e : Expr) (c : CE) : Prop := PE X e (tev X.K X.mg c)
abbrev PTv (X : Cx) (e : Expr) (c : CB) : Prop := PT X e (tevB X.K X.mg c)
abbrev PAv (X : Cx) (e : List Expr) (c : CA) : Prop := PA X e (tevA X.K X.mg c)
section
variable {K : PySem.W.Frag} {mg : Str → Option Value} {S S' S2 : Lv} {H H' H2 : Hp} {st st' : Sto}
/-- a value operation's reading -/
def rV1 (K : PySem.W.Frag) (mg : Str → Option Value) (g : Vl → Sto → Res Vl) : V → Hp → VK → Prop := fun x H Q => ∃ S st a, StOk K mg S st H ∧ RepV K mg S H x a ∧ OutV K mg (g a st) S H Q
def rV2 (K : PySem.W.Frag) (mg : Str → Option Value) (g : Vl → Vl → Sto → Res Vl) : R2 := fun x y H Q => ∃ S st a b, StOk K mg S st H ∧ RepV K mg S H x a ∧ RepV K mg S H y b ∧ OutV K mg (g a b st) S H Q
def rVs (K : PySem.W.Frag) (mg : Str → Option Value) (g : List Vl → Sto → Res Vl) : List V → Hp → VK → Prop := fun xs H Q => ∃ S st as, StOk K mg S st H ∧ RepVs K mg S H xs as ∧ OutV K mg (g as st) S H Q
theorem tev1 {a : CE} {g : Vl → Sto → Res Vl} {σ : L2.St} {Q : VK} (h : tev K mg (fun env st => (a env st).bind g) σ H Q) : tUn (rV1 K mg g) (tev K mg a) σ H Q := by
  obtain ⟨S, st, env, k, er, h⟩ := h
  refine ⟨S, st, env, k, er, (Out.bind (rel := RepV K mg) h).imp fun x H1 ⟨a1, st1, S1, s1, k1, r1, h1⟩ => ?_⟩
  exact ⟨S1, st1, a1, k1, r1, h1⟩
theorem tev2 {a b : CE} {g : Vl → Vl → Sto → Res Vl} {σ : L2.St} {Q : VK} (h : tev K mg (fun env st => (a env st).bind fun x s1 => (b env s1).bind fun y s2 => g x y s2) σ H Q) : tOp (rV2 K mg g) (tev K mg a) (tev K mg b) σ H Q := by
  obtain ⟨S, st, env, k, er, h⟩ := h
  refine ⟨S, st, env, k, er, (Out.bind (rel := RepV K mg) h).imp fun x H1 ⟨a1, st1, S1, s1, k1, r1, h1⟩ => ?_⟩
  refine ⟨S1, st1, env, k1, er.step s1, (Out.bind (rel := RepV K mg) h1).imp fun y H2 ⟨b1, st2, S2, s2, k2, r2, h2⟩ => ?_⟩
  exact ⟨S2, st2, a1, b1, k2, r1.step s2, r2, h2⟩
theorem tevA1 {a : CA} {g : List Vl → Sto → Res Vl} {σ : L2.St} {Q : VK} (h : tev K mg (fun env st => (a env st).bind g) σ H Q) : tevA K mg a σ H fun xs H1 => rVs K mg g xs H1 Q := by
  obtain ⟨S, st, env, k, er, h⟩ := h
  refine ⟨S, st, env, k, er, (Out.bind (rel := RepVs K mg) h).imp fun x H1 ⟨a1, st1, S1, s1, k1, r1, h1⟩ => ?_⟩
  exact ⟨S1, st1, a1, k1, r1, h1⟩
/-! ### values of some kind -/
theorem rep_int {x : V} {i : Int} (r : RepV K mg S H x (.p (.int i))) : x = .int i := by
  have h : RepP K mg (inS S) H x (.int i) := r
  simpa only [RepP] using h
theorem rep_bl {x : V} {i : Bool} (r : RepV K mg S H x (.p (.bl i))) : x = .bl i := by
  have h : RepP K mg (inS S) H x (.bl i) := r
  simpa only [RepP] using h
theorem rep_str {x : V} {i : Str} (r : RepV K mg S H x (.p (.str i))) : x = .str i := by
  have h : RepP K mg (inS S) H x (.str i) := r
  simpa only [RepP] using h
theorem rep_non {x : V} (r : RepV K mg S H x (.p .non)) : x = .non := by
  have h : RepP K mg (inS S) H x .non := r
  simpa only [RepP] using h
theorem rep_tup {x : V} {ps : List P} (r : RepV K mg S H x (.p (.tup ps))) : ∃ a xs, x = .ref a ∧ SqT K H a xs ∧ (ps.length = 0 ∨ H a = some (.tup xs)) ∧ RepPs K mg (inS S) H xs ps := by
  have h : RepP K mg (inS S) H x (.tup ps) := r
  simpa only [RepP] using h
theorem sqt_k {a : Addr} {xs : List V} (h : SqT K (fun _ => none) a xs) (H : Hp) : SqT K H a xs := by
  rcases h with (h | ⟨o, h⟩) | h
  · cases h
  · cases h
  · exact .inr h
theorem rep_ctp {x : V} {ps : List P} (r : RepV K mg S H x (.p (.ctp ps))) : ∃ a xs, x = .ref a ∧ SqT K H a xs ∧ RepPs K mg (inS S) H xs ps := by
  have h : RepP K mg (inS S) H x (.ctp ps) := r
  simp only [RepP] at h
  obtain ⟨a, xs, e, q, r⟩ := h
  exact ⟨a, xs, e, sqt_k q H, r⟩
theorem rep_lst {x : V} {ps : List P} (r : RepV K mg S H x (.p (.lst ps))) : ∃ a xs, x = .ref a ∧ H a = some (.lst xs) ∧ ¬ inS S a ∧ RepPs K mg (inS S) H xs ps := by
  have h : RepP K mg (inS S) H x (.lst ps) := r
  simpa only [RepP] using h
theorem sql_k {a : Addr} {xs : List V} (h : SqL K (fun _ => none) a xs) (H : Hp) : SqL K H a xs := by
  rcases h with (h | ⟨o, h⟩) | h
  · cases h
  · cases h
  · exact .inr h
theorem rep_scr {x : V} {ns : List Int} (r : RepV K mg S H x (.p (.scr ns))) : ∃ a, x = .ref a ∧ SqL K H a (ns.map V.int) := by
  have h : RepP K mg (inS S) H x (.scr ns) := r
  simp only [RepP] at h
  obtain ⟨a, e, q⟩ := h
  exact ⟨a, e, q.elim (fun q => .inl q.1) fun q => sql_k q H⟩
theorem mkInt (S : Lv) (H : Hp) (i : Int) : RepV K mg S H (.int i) (.p (.int i)) := by show RepP K mg _ _ _ _; simp only [RepP]
theorem mkBl (S : Lv) (H : Hp) (i : Bool) : RepV K mg S H (.bl i) (.p (.bl i)) := by show RepP K mg _ _ _ _; simp only [RepP]
theorem mkStr (S : Lv) (H : Hp) (i : Str) : RepV K mg S H (.str i) (.p (.str i)) := by show RepP K mg _ _ _ _; simp only [RepP]
theorem mkNon (S : Lv) (H : Hp) : RepV K mg S H .non (.p .non) := by show RepP K mg _ _ _ _; simp only [RepP]
theorem mkTup {S : Lv} {H : Hp} {a : Addr} {xs : List V} {ps : List P} (h : SqT K H a xs) (z : ps.length = 0 ∨ H a = some (.tup xs)) (r : RepPs K mg (inS S) H xs ps) : RepV K mg S H (.ref a) (.p (.tup ps)) := by
  show RepP K mg _ _ _ _; simp only [RepP]; exact ⟨a, xs, rfl, h, z, r⟩
theorem repPs_ints : ∀ {ns : List Int} {L : Addr → Prop}, RepPs K mg L H (ns.map V.int) (ns.map .int)
  | [], _ => by simp [RepPs]
  | i :: r, _ => by simp only [List.map_cons, RepPs]; exact ⟨by simp only [RepP], repPs_ints⟩
theorem listOf_ok (k : StOk K mg S st H) {v : Vl} {w : V} {xs : List Vl} (r : RepV K mg S H w v) (e : listOf v st = some xs) : ∃ a vs, w = .ref a ∧ H a = some (.lst vs) ∧ RepVs K mg S H vs xs := by
  unfold listOf at e
  split at e
  · rename_i ps
    cases e
    obtain ⟨a, vs, rfl, eh, _, rp⟩ := rep_lst r
    exact ⟨a, vs, rfl, eh, repVs_p rp⟩
  · split at e
    · rename_i i ys ec
      cases e
      obtain ⟨a, rfl, ea, vs, eh, rv⟩ := loc_at k r ec rfl
      exact ⟨a, vs, rfl, eh, rv⟩
    · cases e
  · cases e
theorem itemsOf_ok (k : StOk K mg S st H) {v : Vl} {w : V} {xs : List Vl} (r : RepV K mg S H w v) (e : itemsOf v st = some xs) : ∃ a vs, w = .ref a ∧ (SqL K H a vs ∨ SqT K H a vs) ∧ RepVs K mg S H vs xs := by
  unfold itemsOf at e
  split at e
  · rename_i ps
    cases e
    obtain ⟨a, vs, rfl, eh, _, rp⟩ := rep_lst r
    exact ⟨a, vs, rfl, .inl (SqL.of eh), repVs_p rp⟩
  · rename_i ps
    cases e
    obtain ⟨a, vs, rfl, eh, _, rp⟩ := rep_tup r
    exact ⟨a, vs, rfl, .inr eh, repVs_p rp⟩
  · rename_i ns
    cases e
    obtain ⟨a, rfl, q⟩ := rep_scr r
    refine ⟨a, _, rfl, .inl q, ?_⟩
    have h := repVs_p (S := S) (H := H) (K := K) (mg := mg) (repPs_ints (ns := ns) (L := inS S))
    rwa [List.map_map] at h
  · rename_i ps
    cases e
    obtain ⟨a, vs, rfl, eh, rp⟩ := rep_ctp r
    exact ⟨a, vs, rfl, .inr eh, repVs_p rp⟩
  · split at e
    · rename_i i ys ec
      cases e
      obtain ⟨a, rfl, ea, vs, eh, rv⟩ := loc_at k r ec rfl
      exact ⟨a, vs, rfl, .inl (SqL.of eh), rv⟩
    · cases e
  · cases e
end
end Pz

set_option Elab.async false
set_option linter.all false
set_option maxRecDepth 100000
set_option maxHeartbeats 1000000
namespace Pz
open PySem L2
section
variable {X : Cx} {S : Lv} {H : Hp} {st : Sto}
theorem newL_q {mu : Bool} {vs : List Vl} {ws : List V} {Q : VK} (ok : StOk X.K X.mg S st H) (r : RepVs X.K X.mg S H ws vs) (h : OutV X.K X.mg (newL mu vs st) S H Q) :
    ws.length ≤ sizeLine ∧ ∀ p, H p = none → Q (.ref p) (upd H p (.lst ws)) := out_newL ok r h
theorem op_bin {op : Operator} {mu : Bool} : OpR X (binaryOp op) (rV2 X.K X.mg (binV op mu)) := by
  intro pins s σ H x y v u Q I rx ry ⟨S, st, a, b, k, ra, rb, h⟩
  unfold binV at h
  split at h
  · rename_i i j
    obtain rfl := rep_int ra
    obtain rfl := rep_int rb
    obtain ⟨w, e, q⟩ := Out.ofO h
    obtain ⟨z, e2, rfl⟩ := Option.map_eq_some_iff.mp e
    have q' := q.ok k (mkInt S H z)
    unfold intOp at e2
    cases op with
    | Add => cases e2; exact op_add pins s σ H _ _ v u Q I rx ry ⟨_, _, rfl, rfl, q'⟩
    | Sub => cases e2; exact op_sub pins s σ H _ _ v u Q I rx ry ⟨_, _, rfl, rfl, q'⟩
    | Mult =>
      simp only at e2
      split at e2
      · rename_i hc; cases e2; exact op_mul pins s σ H _ _ v u Q I rx ry ⟨_, _, rfl, rfl, hc, q'⟩
      · cases e2
    | Mod =>
      simp only at e2
      split at e2
      · rename_i hc; cases e2; exact op_modN pins s σ H _ _ v u Q I rx ry ⟨_, _, rfl, rfl, hc, q'⟩
      · cases e2
    | FloorDiv =>
      simp only at e2
      split at e2
      · rename_i hc; cases e2; exact op_fdivN pins s σ H _ _ v u Q I rx ry ⟨_, _, rfl, rfl, hc, q'⟩
      · cases e2
    | Pow =>
      simp only at e2
      split at e2
      · rename_i hc; cases e2; exact op_pow pins s σ H _ _ v u Q I rx ry ⟨_, _, rfl, rfl, hc, q'⟩
      · cases e2
    | _ => cases e2
  · rename_i x1 y1
    obtain rfl := rep_str ra
    obtain rfl := rep_str rb
    split at h
    · obtain ⟨w, e, q⟩ := Out.ofO h
      obtain ⟨z, e2, rfl⟩ := Option.map_eq_some_iff.mp e
      unfold strCat at e2
      split at e2
      · rename_i hc
        cases e2
        exact op_add_str pins s σ H _ _ v u Q I rx ry ⟨_, _, rfl, rfl, hc, q.ok k (mkStr S H _)⟩
      · cases e2
    · exact h.elim
  · rename_i xs ys
    obtain ⟨a, us, rfl, ha, za, ea⟩ := rep_tup ra
    obtain ⟨b, ws, rfl, hb, zb, eb⟩ := rep_tup rb
    split at h
    · split at h
      · rename_i hz
        have la := (of_repPs ea).length
        have lb := (of_repPs eb).length
        refine op_catA pins s σ H _ _ v u Q I rx ry ⟨a, b, us, ws, rfl, rfl, ha, hb, by omega, fun e0 => ?_, fun _ e1 => ?_, fun _ _ p hp => ?_⟩
        · subst e0
          have : xs = [] := List.eq_nil_of_length_eq_zero (by simpa using la.symm)
          subst this
          exact Out.ok h k (mkTup hb zb eb)
        · subst e1
          have : ys = [] := List.eq_nil_of_length_eq_zero (by simpa using lb.symm)
          subst this
          rw [List.append_nil] at h
          exact Out.ok h k (mkTup ha za ea)
        · have sp := Step.new (o := .tup (us ++ ws)) hp k
          refine h S _ _ sp (k.new hp) (mkTup (SqT.of upd_same) (.inr upd_same) (repPs_of ((of_repPs (RepPs.step sp _ _ ea)).append (of_repPs (RepPs.step sp _ _ eb)))))
      · exact h.elim
    · exact h.elim
  · rename_i xs i
    obtain ⟨a, us, rfl, ha, za, ea⟩ := rep_tup ra
    obtain rfl := rep_int rb
    split at h
    · split at h
      · rename_i hz
        obtain ⟨z1, z2, z3, z4⟩ := hz
        have la := (of_repPs ea).length
        refine op_repT pins s σ H _ _ v u Q I rx ry ⟨a, i, us, rfl, rfl, ha, fun z => z1 (by rw [← la, z]; rfl), z2, z3, by omega, fun p hp => ?_⟩
        have sp := Step.new (o := .tup (List.replicate i.toNat us).flatten) hp k
        exact h S _ _ sp (k.new hp) (mkTup (SqT.of upd_same) (.inr upd_same) (repPs_of ((of_repPs (RepPs.step sp _ _ ea)).flat _)))
      · exact h.elim
    · exact h.elim
  · rename_i i _ _
    obtain rfl := rep_int rb
    split at h
    · split at h
      · rename_i xs e
        obtain ⟨p, vs, rfl, eh, rv⟩ := listOf_ok k ra e
        split at h
        · rename_i hz
          obtain ⟨z1, z2, z3⟩ := hz
          obtain ⟨_, hq⟩ := newL_q k (rv.flat i.toNat) h
          exact op_rep pins s σ H _ _ v u Q I rx ry ⟨p, i, vs, rfl, rfl, eh, z2, z3, by rw [rv.length]; exact z1, hq⟩
        · exact h.elim
      · exact h.elim
    · exact h.elim
  · split at h
    · split at h
      · rename_i xs ys e1 e2
        obtain ⟨p, vs, rfl, eh, rv⟩ := listOf_ok k ra e1
        obtain ⟨q, ws, rfl, eq, rw'⟩ := listOf_ok k rb e2
        obtain ⟨hz, hq⟩ := newL_q k (All2.append rv rw') h
        rw [List.length_append] at hz
        exact op_cat pins s σ H _ _ v u Q I rx ry ⟨p, q, vs, ws, rfl, rfl, eh, eq, hz, hq⟩
      · exact h.elim
    · exact h.elim
/-! ### truth -/
theorem truP_ok {K : PySem.W.Frag} {mg : Str → Option Value} (k : StOk K mg S st H) {v : Vl} {w : V} {b : Bool} (r : RepV K mg S H w v) (e : truP v st = some b) : TruV K w H b := by
  unfold truP at e
  split at e
  · cases e; rw [rep_non r]; exact rfl
  · cases e; rw [rep_bl r]; exact rfl
  · cases e; rw [rep_int r]; exact rfl
  · rw [rep_str r]
    split at e
    · rename_i hz; cases e; exact ⟨hz, rfl⟩
    · cases e
  · obtain ⟨xs, e1, rfl⟩ := Option.map_eq_some_iff.mp e
    obtain ⟨a, vs, rfl, q, rv⟩ := itemsOf_ok k r e1
    have hb : (!xs.isEmpty) = !vs.isEmpty := by
      have := rv.length
      cases vs <;> cases xs <;> simp_all
    rw [hb]
    rcases q with q | q
    · exact .inl ⟨vs, q, rfl⟩
    · exact .inr (.inl ⟨vs, q, rfl⟩)
/-! ### == -/
mutual
theorem dp_of {K : PySem.W.Frag} {mg : Str → Option Value} {L : Addr → Prop} : ∀ (x : P) (v : V) (d : PyData), RepP K mg L H v x → dataP x = some d → Dp K H v d
  | .non, v, d, r, e => by simp only [RepP] at r; simp only [dataP, Option.some.injEq] at e; subst r e; exact .non
  | .bl b, v, d, r, e => by simp only [RepP] at r; simp only [dataP, Option.some.injEq] at e; subst r e; exact .bl b
  | .int b, v, d, r, e => by simp only [RepP] at r; simp only [dataP, Option.some.injEq] at e; subst r e; exact .int b
  | .str b, v, d, r, e => by simp only [RepP] at r; simp only [dataP, Option.some.injEq] at e; subst r e; exact .str b
  | .tup xs, v, d, r, e => by
    simp only [RepP] at r
    simp only [dataP] at e
    obtain ⟨a, us, rfl, q, _, rr⟩ := r
    obtain ⟨ds, e1, rfl⟩ := Option.map_eq_some_iff.mp e
    exact .tup q (dps_of xs us ds rr e1)
  | .lst xs, v, d, r, e => by
    simp only [RepP] at r
    simp only [dataP] at e
    obtain ⟨a, us, rfl, q, _, rr⟩ := r
    obtain ⟨ds, e1, rfl⟩ := Option.map_eq_some_iff.mp e
    exact .lst (SqL.of q) (dps_of xs us ds rr e1)
  | .dic _ _, _, _, _, e => by simp [dataP] at e
  | .dit _ _, _, _, _, e => by simp [dataP] at e
  | .obj _ _ _, _, _, _, e => by simp [dataP] at e
  | .scr _, _, _, _, e => by simp [dataP] at e
  | .ctp _, _, _, _, e => by simp [dataP] at e
theorem dps_of {K : PySem.W.Frag} {mg : Str → Option Value} {L : Addr → Prop} : ∀ (xs : List P) (vs : List V) (ds : List PyData), RepPs K mg L H vs xs → dataPs xs = some ds → DpAll K H vs ds
  | [], [], ds, _, e => by simp only [dataPs, Option.some.injEq] at e; subst e; exact .nil
  | x :: xs, v :: vs, ds, r, e => by
    simp only [RepPs] at r
    simp only [dataPs] at e
    split at e
    · rename_i d ed
      obtain ⟨ds', e1, rfl⟩ := Option.map_eq_some_iff.mp e
      exact .cons (dp_of x v d r.1 ed) (dps_of xs vs ds' r.2 e1)
    · cases e
  | [], _ :: _, _, r, _ => by simp [RepPs] at r
  | _ :: _, [], _, r, _ => by simp [RepPs] at r
end
theorem eqD_ok {K : PySem.W.Frag} {mg : Str → Option Value} {L : Addr → Prop} {x y : P} {v w : V} {b : Bool} (rx : RepP K mg L H v x) (ry : RepP K mg L H w y) (e : eqD x y = some b) :
    ∃ d d', Dp K H v d ∧ Dp K H w d' ∧ SeqAt.shaped d = true ∧ SeqAt.shaped d' = true ∧ b = PyData.eqv d d' := by
  unfold eqD at e
  split at e
  · rename_i d d' e1 e2
    split at e
    · rename_i hs
      cases e
      rw [Bool.and_eq_true] at hs
      exact ⟨d, d', dp_of x v d rx e1, dp_of y w d' ry e2, hs.1, hs.2, rfl⟩
    · cases e
  · cases e
theorem dpAll_iff {K : PySem.W.Frag} : ∀ {vs : List V} {ds : List PyData}, DpAll K H vs ds → All2 (Dp K H) vs ds
  | _, _, .nil => trivial
  | _, _, .cons a r => ⟨a, dpAll_iff r⟩
end
end Pz

set_option Elab.async false
set_option linter.all false
set_option maxRecDepth 100000
set_option maxHeartbeats 1000000
namespace Pz
open PySem L2
section
variable {K : PySem.W.Frag} {mg : Str → Option Value} {S : Lv} {H : Hp} {st : Sto}
/-! ### dicts -/
def DctR (K : PySem.W.Frag) (mg : Str → Option Value) (S : Lv) (H : Hp) (a : Addr) : Dct → Prop
  | .k ks vs => ∃ es, H a = some (.dK es) ∧ es.map (·.1) = ks ∧ RepVs K mg S H (es.map (·.2)) vs
  | .t ks vs => ∃ es, H a = some (.dT es) ∧ es.map (·.1) = ks ∧ RepVs K mg S H (es.map (·.2)) vs
theorem dctOf_ok (k : StOk K mg S st H) {v : Vl} {w : V} {d : Dct} (r : RepV K mg S H w v) (e : dctOf v st = some d) : ∃ a, w = .ref a ∧ DctR K mg S H a d := by
  unfold dctOf at e
  split at e
  · rename_i ks vs
    cases e
    have h : RepP K mg (inS S) H w (.dic ks vs) := r
    simp only [RepP] at h
    obtain ⟨a, es, rfl, eh, _, ek, rr⟩ := h
    exact ⟨a, rfl, es, eh, ek, repVs_p rr⟩
  · rename_i ks vs
    cases e
    have h : RepP K mg (inS S) H w (.dit ks vs) := r
    simp only [RepP] at h
    obtain ⟨a, es, rfl, eh, _, ek, rr⟩ := h
    exact ⟨a, rfl, es, eh, ek, repVs_p rr⟩
  · split at e
    · rename_i i ks vs ec
      cases e
      obtain ⟨a, rfl, ea, es, eh, ek, rv⟩ := loc_at k r ec rfl
      exact ⟨a, rfl, es, eh, ek, rv⟩
    · rename_i i ks vs ec
      cases e
      obtain ⟨a, rfl, ea, es, eh, ek, rv⟩ := loc_at k r ec rfl
      exact ⟨a, rfl, es, eh, ek, rv⟩
    · cases e
  · cases e
def RelOV (K : PySem.W.Frag) (mg : Str → Option Value) (S : Lv) (H : Hp) : Option V → Option Vl → Prop
  | some v, some x => RepV K mg S H v x
  | none, none => True
  | _, _ => False
theorem lookK_ok {κ : Type} [DecidableEq κ] (k : κ) : ∀ {es : List (κ × V)} {vs : List Vl}, RepVs K mg S H (es.map (·.2)) vs → RelOV K mg S H (valV es k) (lookK k (es.map (·.1)) vs)
  | [], [], _ => trivial
  | p :: es, v :: vs, h => by
    simp only [List.map_cons, lookK]
    by_cases e : p.1 = k
    · rw [valV_pos e, if_pos e]; exact h.1
    · rw [valV_neg e, if_neg e]; exact lookK_ok k h.2
  | [], _ :: _, h => h.elim
  | _ :: _, [], h => h.elim
theorem keyP_ok {L : Addr → Prop} {x : P} {v : V} {k : Key} (r : RepP K mg L H v x) (e : keyP x = some k) : v = kV k := by
  cases x with
  | int i => simp only [keyP, Option.some.injEq] at e; subst e; simp only [RepP] at r; exact r
  | str i => simp only [keyP, Option.some.injEq] at e; subst e; simp only [RepP] at r; exact r
  | _ => simp [keyP] at e
theorem keysP_ok {L : Addr → Prop} : ∀ {xs : List P} {vs : List V} {ks : List Key}, RepPs K mg L H vs xs → keysP xs = some ks → vs = ks.map kV
  | [], [], ks, _, e => by simp only [keysP, Option.some.injEq] at e; subst e; rfl
  | x :: xs, v :: vs, ks, r, e => by
    simp only [RepPs] at r
    simp only [keysP] at e
    split at e
    · rename_i k ek
      obtain ⟨ks', e1, rfl⟩ := Option.map_eq_some_iff.mp e
      rw [List.map_cons, keyP_ok r.1 ek, keysP_ok r.2 e1]
    · cases e
  | [], _ :: _, _, r, _ => by simp [RepPs] at r
  | _ :: _, [], _, r, _ => by simp [RepPs] at r
/-- the dict at a, asked by y -/
theorem dGet_ok {a : Addr} {d : Dct} {x : P} {y : V} {o : Option Vl} (hd : DctR K mg S H a d) (r : RepP K mg (inS S) H y x) (e : dGet d x = some o) : ∃ u, DGet H a y u ∧ RelOV K mg S H u o := by
  unfold dGet at e
  split at e
  · obtain ⟨k, ek, rfl⟩ := Option.map_eq_some_iff.mp e
    obtain ⟨es, eh, rfl, rr⟩ := hd
    obtain rfl := keyP_ok r ek
    exact ⟨_, DGet.k eh, lookK_ok k rr⟩
  · rename_i ks vs x xs
    obtain ⟨k, ek, rfl⟩ := Option.map_eq_some_iff.mp e
    obtain ⟨es, eh, rfl, rr⟩ := hd
    simp only [RepP] at r
    obtain ⟨b, ws, rfl, q, z, rw'⟩ := r
    have ew := keysP_ok rw' ek
    subst ew
    rcases z with z | z
    · simp at z
    · exact ⟨_, DGet.t eh z, lookK_ok k rr⟩
  · cases e
theorem relOV_isSome {u : Option V} {o : Option Vl} (h : RelOV K mg S H u o) : u.isSome = o.isSome := by
  cases u <;> cases o <;> first | rfl | exact h.elim
end
section
variable {X : Cx} {S : Lv} {H : Hp} {st : Sto}
theorem repV_p {K : PySem.W.Frag} {mg : Str → Option Value} {v : V} {x : P} (h : RepV K mg S H v (.p x)) : RepP K mg (inS S) H v x := h
/-! ### comparisons -/
def rC (K : PySem.W.Frag) (mg : Str → Option Value) (op : CmpOp) : R2 := fun x y H Q => ∃ S st a b c, StOk K mg S st H ∧ RepV K mg S H x a ∧ RepV K mg S H y b ∧ cmpV op a b st = some c ∧ Q (.bl c) H
theorem isN_ok (hu : X.A.units + 65 < cLine) {x : V} {p : P} {b : P} {c : Bool} {y : V} {pins : List (Addr × Obj)} {s : Shared} {σ : L2.St} {v u : Value} {Q : VK} (neg : Bool) (I : Inv X pins σ H s) (rx : RelV x v) (ry : RelV y u)
    (r : RepP X.K X.mg (inS S) H x p) (r2 : RepP X.K X.mg (inS S) H y b) (e : isP p b = some c) (q : Q (.bl (if neg then !c else c)) H) :
    wpAny (model X.prog X.w) X.A (compareOp (if neg then .IsNot else .Is) v u) (EP X pins σ Q) X.xe s := by
  cases b with
  | non =>
    simp only [RepP] at r2
    subst r2
    simp only [isP, Option.some.injEq] at e
    have hc : decide (x = .non) = c := by
      rw [← e]
      cases p <;> simp only [RepP] at r <;> first
        | (subst r; rfl)
        | (obtain ⟨_, _, rfl, _⟩ := r; rfl)
        | (obtain ⟨_, rfl, _⟩ := r; rfl)
        | (obtain ⟨_, _, _, _, rfl, _⟩ := r; rfl)
    cases neg with
    | true => exact op_notN pins s σ H x _ v u Q I rx ry ⟨rfl, by rw [hc]; exact q⟩
    | false => exact op_isN pins s σ H x _ v u Q I rx ry ⟨rfl, by rw [hc]; exact q⟩
  | bl d =>
    simp only [RepP] at r2
    subst r2
    cases p with
    | bl e1 =>
      simp only [RepP] at r
      subst r
      simp only [isP, Option.some.injEq] at e
      have hc : decide (e1 = d) = c := by rw [← e]; cases e1 <;> cases d <;> rfl
      cases neg with
      | true => exact op_notBl pins s σ H _ _ v u Q I rx ry ⟨_, _, rfl, rfl, by rw [hc]; exact q⟩
      | false => exact op_isBl pins s σ H _ _ v u Q I rx ry ⟨_, _, rfl, rfl, by rw [hc]; exact q⟩
    | _ => simp [isP] at e
  | _ => simp [isP] at e
theorem locNon_ok (hu : X.A.units + 65 < cLine) {x : V} {y : V} {pins : List (Addr × Obj)} {s : Shared} {σ : L2.St} {v u : Value} {Q : VK} (neg : Bool) (I : Inv X pins σ H s) (rx : RelV x v) (ry : RelV y u)
    (hx : ∃ a, x = .ref a) (r2 : RepV X.K X.mg S H y (.p .non)) (q : Q (.bl neg) H) :
    wpAny (model X.prog X.w) X.A (compareOp (if neg then .IsNot else .Is) v u) (EP X pins σ Q) X.xe s := by
  obtain ⟨a, rfl⟩ := hx
  obtain rfl := rep_non r2
  cases neg with
  | true => exact op_notN pins s σ H _ _ v u Q I rx ry ⟨rfl, q⟩
  | false => exact op_isN pins s σ H _ _ v u Q I rx ry ⟨rfl, q⟩
theorem alive_ref {K : PySem.W.Frag} {mg : Str → Option Value} (k : StOk K mg S st H) {x : V} {n : Nat} (r : RepV K mg S H x (.loc n)) (e : alive st n = true) : ∃ a, x = .ref a := by
  unfold alive at e
  split at e
  · cases e
  · rename_i c hc ec
    obtain ⟨a, rfl, _⟩ := loc_at k r ec (by cases c <;> first | rfl | exact absurd rfl (by assumption))
    exact ⟨a, rfl⟩
  · cases e
theorem op_eqq (hu : X.A.units + 65 < cLine) (neg : Bool) {pins : List (Addr × Obj)} {s : Shared} {σ : L2.St} {x y : V} {v u : Value} {Q : VK} {a b : Vl} {c : Bool} (I : Inv X pins σ H s) (rx : RelV x v) (ry : RelV y u)
    (k : StOk X.K X.mg S st H) (ra : RepV X.K X.mg S H x a) (rb : RepV X.K X.mg S H y b) {p q : P} (ea : pk a st = some p) (eb : pk b st = some q) (e : eqD p q = some c) (h : Q (.bl (if neg then !c else c)) H) :
    wpAny (model X.prog X.w) X.A (compareOp (if neg then .NotEq else .Eq) v u) (EP X pins σ Q) X.xe s := by
  obtain ⟨d, d', h1, h2, h3, h4, rfl⟩ := eqD_ok (peek_ok k _ a x p ra ea) (peek_ok k _ b y q rb eb) e
  cases neg with
  | true => exact op_neD (by omega) pins s σ H x y v u Q I rx ry ⟨d, d', h1, h2, h3, h4, h⟩
  | false => exact op_eqD (by omega) pins s σ H x y v u Q I rx ry ⟨d, d', h1, h2, h3, h4, h⟩
theorem dps_all {K : PySem.W.Frag} : ∀ {vs : List V} {ds : List PyData}, DpAll K H vs ds → DpAll K H vs ds := fun h => h
theorem room_shaped {d : PyData} {A : Around} {n : Nat} (h : SeqAt.shaped d = true) (hu : A.units + 65 < cLine) : A.units + 1 + min n d.depth < cLine := by
  have h1 := SeqAt.depth_of_shaped h
  have h2 : min n d.depth ≤ d.depth := Nat.min_le_right _ _
  omega
theorem op_inq (hu : X.A.units + 65 < cLine) (neg : Bool) {pins : List (Addr × Obj)} {s : Shared} {σ : L2.St} {x y : V} {v u : Value} {Q : VK} {b : Vl} {c : Bool} (I : Inv X pins σ H s) (rx : RelV x v) (ry : RelV y u)
    (k : StOk X.K X.mg S st H) {p : P} (ra : RepP X.K X.mg (inS S) H x p) (rb : RepV X.K X.mg S H y b) {ys : List Vl} {zs : List P} (ei : itemsOf b st = some ys) (ep : peeks st deep ys = some zs) (e : inP p zs = some c) (h : Q (.bl (if neg then !c else c)) H) :
    wpAny (model X.prog X.w) X.A (compareOp (if neg then .NotIn else .In) v u) (EP X pins σ Q) X.xe s := by
  obtain ⟨a, vs, rfl, hq, rv⟩ := itemsOf_ok k rb ei
  unfold inP at e
  split at e
  · rename_i d ds e1 e2
    split at e
    · rename_i hs
      cases e
      rw [Bool.and_eq_true] at hs
      have dx := dp_of p x d ra e1
      have dy := dps_of zs vs ds (peeks_ok k _ ys vs zs rv ep) e2
      obtain ⟨as, r1⟩ := Dp.reads I d x v dx rx
      have hroom : X.A.units + 1 + min (PyData.depthAll ds) d.depth < cLine := room_shaped hs.1 hu
      rcases hq with hq | hq
      · obtain ⟨bs, r2⟩ := Dp.reads I (.list ds) (.ref a) u (.lst hq dy) ry
        cases neg with
        | true => exact SeqAt.notIn_list_reads r2 r1 hs.2 (SeqAt.canLay_of_shaped hs.1) hroom ⟨.bl _, H, I, rfl, h⟩
        | false => exact SeqAt.in_list_reads r2 r1 hs.2 (SeqAt.canLay_of_shaped hs.1) hroom ⟨.bl _, H, I, rfl, h⟩
      · obtain ⟨bs, r2⟩ := Dp.reads I (.tuple ds) (.ref a) u (.tup hq dy) ry
        cases neg with
        | true => exact SeqAt.notIn_tuple_reads r2 r1 hs.2 (SeqAt.canLay_of_shaped hs.1) hroom ⟨.bl _, H, I, rfl, h⟩
        | false => exact SeqAt.in_tuple_reads r2 r1 hs.2 (SeqAt.canLay_of_shaped hs.1) hroom ⟨.bl _, H, I, rfl, h⟩
    · cases e
  · cases e
theorem op_ind (hu : X.A.units + 65 < cLine) (neg : Bool) {pins : List (Addr × Obj)} {s : Shared} {σ : L2.St} {x y : V} {v u : Value} {Q : VK} {b : Vl} {o : Option Vl} (I : Inv X pins σ H s) (rx : RelV x v) (ry : RelV y u)
    (k : StOk X.K X.mg S st H) {p : P} (ra : RepP X.K X.mg (inS S) H x p) (rb : RepV X.K X.mg S H y b) {d : Dct} (ed : dctOf b st = some d) (eg : dGet d p = some o) (h : Q (.bl (if neg then !o.isSome else o.isSome)) H) :
    wpAny (model X.prog X.w) X.A (compareOp (if neg then .NotIn else .In) v u) (EP X pins σ Q) X.xe s := by
  obtain ⟨a, rfl, hd⟩ := dctOf_ok k rb ed
  obtain ⟨u', g, ro⟩ := dGet_ok hd ra eg
  cases (show u = Value.ref a from ry)
  rw [← relOV_isSome ro] at h
  cases neg with
  | true => exact d_notIn (by omega) I g rx fun s' I' => ⟨.bl _, H, I', rfl, h⟩
  | false => exact d_in (by omega) I g rx fun s' I' => ⟨.bl _, H, I', rfl, h⟩
theorem op_cmp (hu : X.A.units + 65 < cLine) {op : CmpOp} : OpR X (compareOp op) (rC X.K X.mg op) := by
  intro pins s σ H x y v u Q I rx ry ⟨S, st, a, b, c, k, ra, rb, e, q⟩
  have hInt : ∀ {i j : Int}, a = .p (.int i) → b = .p (.int j) → intCmp op i j = some c → wpAny (model X.prog X.w) X.A (compareOp op v u) (EP X pins σ Q) X.xe s := fun {i j} h1 h2 h3 => by
    subst h1 h2
    obtain rfl := rep_int ra
    obtain rfl := rep_int rb
    unfold intCmp at h3
    cases op with
    | Lt => cases h3; exact op_lt pins s σ H _ _ v u Q I rx ry ⟨_, _, rfl, rfl, q⟩
    | LtE => cases h3; exact op_le pins s σ H _ _ v u Q I rx ry ⟨_, _, rfl, rfl, q⟩
    | Gt => cases h3; exact op_gt pins s σ H _ _ v u Q I rx ry ⟨_, _, rfl, rfl, q⟩
    | GtE => cases h3; exact op_ge pins s σ H _ _ v u Q I rx ry ⟨_, _, rfl, rfl, q⟩
    | Eq => cases h3; exact op_eq pins s σ H _ _ v u Q I rx ry ⟨rfl, by simpa using q⟩
    | NotEq => cases h3; exact op_ne pins s σ H _ _ v u Q I rx ry ⟨rfl, by simpa using q⟩
    | _ => cases h3
  cases op with
  | Eq =>
    simp only [cmpV] at e
    split at e
    · rename_i p1 q1 e1 e2
      exact op_eqq hu false I rx ry k ra rb e1 e2 e q
    · cases e
  | NotEq =>
    simp only [cmpV] at e
    split at e
    · rename_i p1 q1 e1 e2
      obtain ⟨c', e3, rfl⟩ := Option.map_eq_some_iff.mp e
      exact op_eqq hu true I rx ry k ra rb e1 e2 e3 q
    · cases e
  | Is =>
    simp only [cmpV] at e
    split at e
    · exact isN_ok hu false I rx ry (repV_p ra) (repV_p rb) e q
    · split at e
      · rename_i n ha
        cases e
        exact locNon_ok hu false I rx ry (alive_ref k ra ha) rb q
      · cases e
    · cases e
  | IsNot =>
    simp only [cmpV] at e
    split at e
    · obtain ⟨c', e3, rfl⟩ := Option.map_eq_some_iff.mp e
      exact isN_ok hu true I rx ry (repV_p ra) (repV_p rb) e3 q
    · split at e
      · rename_i n ha
        cases e
        exact locNon_ok hu true I rx ry (alive_ref k ra ha) rb q
      · cases e
    · cases e
  | In =>
    simp only [cmpV] at e
    split at e
    · rename_i p1
      split at e
      · rename_i d ed
        obtain ⟨o, e3, rfl⟩ := Option.map_eq_some_iff.mp e
        exact op_ind hu false I rx ry k (repV_p ra) rb ed e3 q
      · split at e
        · rename_i ys ey
          split at e
          · rename_i zs ez
            exact op_inq hu false I rx ry k (repV_p ra) rb ey ez e q
          · cases e
        · cases e
    · cases e
  | NotIn =>
    simp only [cmpV] at e
    split at e
    · rename_i p1
      split at e
      · rename_i d ed
        obtain ⟨o, e3, rfl⟩ := Option.map_eq_some_iff.mp e
        exact op_ind hu true I rx ry k (repV_p ra) rb ed e3 q
      · split at e
        · rename_i ys ey
          split at e
          · rename_i zs ez
            obtain ⟨c', e3, rfl⟩ := Option.map_eq_some_iff.mp e
            exact op_inq hu true I rx ry k (repV_p ra) rb ey ez e3 q
          · cases e
        · cases e
    · cases e
  | Lt =>
    simp only [cmpV] at e
    split at e
    · exact hInt rfl rfl e
    · rename_i p1 q1 hn
      unfold ltP at e
      split at e
      · rename_i i j
        cases e
        obtain rfl := rep_str ra
        obtain rfl := rep_str rb
        exact op_lt_str pins s σ H _ _ v u Q I rx ry ⟨_, _, rfl, rfl, q⟩
      · cases e
    · cases e
  | LtE =>
    simp only [cmpV] at e
    split at e
    · exact hInt rfl rfl e
    · cases e
    · cases e
  | Gt =>
    simp only [cmpV] at e
    split at e
    · exact hInt rfl rfl e
    · cases e
    · cases e
  | GtE =>
    simp only [cmpV] at e
    split at e
    · exact hInt rfl rfl e
    · cases e
    · cases e
end
end Pz

set_option Elab.async false
set_option linter.all false
set_option maxRecDepth 100000
set_option maxHeartbeats 1000000
namespace Pz
open PySem L2
section
variable {X : Cx} {S : Lv} {H : Hp} {st : Sto}
/-! ### subscripts -/
theorem atI_all {K : PySem.W.Frag} {mg : Str → Option Value} {vs : List V} {xs : List Vl} {i : Int} {x : Vl} (h : RepVs K mg S H vs xs) (e : atI xs i = some x) : ∃ v, atI vs i = some v ∧ RepV K mg S H v x := by
  unfold atI at e ⊢
  rw [h.length]
  cases q : ixN xs.length i with
  | none => rw [q] at e; cases e
  | some j =>
    rw [q] at e
    exact All2.get h e
theorem keyD_some {d : Dct} {x : P} {o : Option Vl} {y : Vl} (e : (dGet d x).bind id = some y) : dGet d x = some (some y) := by
  cases h : dGet d x with
  | none => rw [h] at e; cases e
  | some u => rw [h] at e; cases u <;> simp_all
theorem ix_q (hu : X.A.units + 65 < cLine) : IxR X (rV2 X.K X.mg fun a b st => ofO (ixV a b st) st) := by
  intro value slice pins s σ H x y v u Q I rx ry ⟨S, st, a, b, k, ra, rb, h⟩ hs
  obtain ⟨w, e, q⟩ := Out.ofO h
  unfold ixV at e
  split at e
  · rename_i d ed
    split at e
    · rename_i p
      obtain ⟨aa, rfl, hd⟩ := dctOf_ok k ra ed
      obtain ⟨u', g, ro⟩ := dGet_ok hd (repV_p rb) (keyD_some (o := none) e)
      cases u' with
      | none => exact ro.elim
      | some z =>
        cases (show v = Value.ref aa from rx)
        exact PyProof.Rows.tail_any (dict_typeIs I g) PySem.F.slot_dict_getitem.lookup (d_getItem (by omega) I g ry fun w' s' I' r' => ⟨z, H, I', r', q.ok k ro⟩) hs
    · cases e
  · split at e
    · split at e
      · rename_i hz
        obtain ⟨c, ec, rfl⟩ := Option.map_eq_some_iff.mp e
        obtain rfl := rep_str ra
        obtain rfl := rep_int rb
        exact ix_str value slice pins s σ H _ _ v u Q I rx ry ⟨_, _, c, rfl, rfl, hz, ec, q.ok k (mkStr S H _)⟩ hs
      · cases e
    · rename_i i _
      obtain rfl := rep_int rb
      obtain ⟨xs, ei, ea⟩ := Option.bind_eq_some_iff.mp e
      obtain ⟨aa, vs, rfl, hq, rv⟩ := itemsOf_ok k ra ei
      obtain ⟨z, ez, rz⟩ := atI_all rv ea
      rcases hq with hq | hq
      · exact ix_list value slice pins s σ H _ _ v u Q I rx ry ⟨aa, vs, i, z, rfl, rfl, hq, ez, q.ok k rz⟩ hs
      · exact ix_tup value slice pins s σ H _ _ v u Q I rx ry ⟨aa, vs, i, z, rfl, rfl, hq, ez, q.ok k rz⟩ hs
    · cases e
/-! ### slices -/
theorem cut_all {α β : Type} {R : α → β → Prop} {vs : List α} {xs : List β} (h : All2 R vs xs) (lo hi : Option Int) : All2 R (cutL vs lo hi) (cutL xs lo hi) := by
  unfold cutL
  rw [h.length]
  exact (h.drop _).take _
theorem cut_len {α : Type} (xs : List α) (lo hi : Option Int) : (cutL xs lo hi).length ≤ xs.length := by
  unfold cutL
  rw [List.length_take, List.length_drop]; omega
theorem cut_map {α β : Type} (f : α → β) (xs : List α) (lo hi : Option Int) : cutL (xs.map f) lo hi = (cutL xs lo hi).map f := by
  unfold cutL; simp [List.map_take, List.map_drop]
theorem cut_whole {α : Type} (xs : List α) {lo hi : Option Int} (h : HT.sIx xs.length 0 lo = 0 ∧ HT.sIx xs.length xs.length hi = xs.length) : cutL xs lo hi = xs := by
  unfold cutL; rw [h.1, h.2]; simp
def rSl (K : PySem.W.Frag) (mg : Str → Option Value) (mu : Bool) : V → Option Int → Option Int → Hp → VK → Prop := fun x lo hi H Q => ∃ S st a, StOk K mg S st H ∧ RepV K mg S H x a ∧ OutV K mg (slV mu a lo hi st) S H Q
theorem sl_q {mu : Bool} : SlR X (rSl X.K X.mg mu) := by
  intro pins s σ H x v vl vu lo hi sl Q I rx hs pl pu ⟨S, st, a, k, ra, h⟩
  unfold slV at h
  split at h
  · rename_i xs
    obtain ⟨b, us, rfl, hb, zb, eb⟩ := rep_tup ra
    have hl := (of_repPs eb).length
    refine sl_tupA pins s σ H _ v vl vu lo hi sl Q I rx hs pl pu ⟨b, us, rfl, hb, fun hw => ?_, fun _ p hp => ?_⟩
    · rw [cut_whole xs (by rw [← hl]; exact hw)] at h
      exact Out.ok h k (mkTup hb zb eb)
    · have sp := Step.new (o := .tup (cutV us lo hi)) hp k
      exact h S _ _ sp (k.new hp) (mkTup (SqT.of upd_same) (.inr upd_same) (repPs_of (cut_all (of_repPs (RepPs.step sp _ _ eb)) lo hi)))
  · rename_i ns
    obtain ⟨b, rfl, hb⟩ := rep_scr ra
    have hr : RepVs X.K X.mg S H (cutL (ns.map V.int) lo hi) ((cutL ns lo hi).map fun i => .p (.int i)) := by
      rw [cut_map]
      have h0 := repVs_p (S := S) (H := H) (K := X.K) (mg := X.mg) (repPs_ints (ns := cutL ns lo hi) (L := inS S))
      rwa [List.map_map] at h0
    exact sl_list pins s σ H _ v vl vu lo hi sl Q I rx hs pl pu ⟨b, _, rfl, hb, (newL_q k hr h).2⟩
  · split at h
    · rename_i xs e
      obtain ⟨b, us, rfl, hb, rv⟩ := listOf_ok k ra e
      exact sl_list pins s σ H _ v vl vu lo hi sl Q I rx hs pl pu ⟨b, us, rfl, SqL.of hb, (newL_q k (cut_all rv lo hi) h).2⟩
    · exact h.elim
/-! ### built-ins -/
theorem intsP_ok {K : PySem.W.Frag} {mg : Str → Option Value} {L : Addr → Prop} : ∀ {xs : List P} {vs : List V} {ns : List Int}, RepPs K mg L H vs xs → intsP xs = some ns → vs = ns.map V.int
  | [], [], ns, _, e => by simp only [intsP, Option.some.injEq] at e; subst e; rfl
  | x :: xs, v :: vs, ns, r, e => by
    simp only [RepPs] at r
    cases x with
    | int i =>
      simp only [intsP] at e
      obtain ⟨ns', e1, rfl⟩ := Option.map_eq_some_iff.mp e
      have h1 := r.1
      simp only [RepP] at h1
      rw [h1, intsP_ok r.2 e1]; rfl
    | _ => simp [intsP] at e
  | [], _ :: _, _, r, _ => by simp [RepPs] at r
  | _ :: _, [], _, r, _ => by simp [RepPs] at r
theorem blsP_ok {K : PySem.W.Frag} {mg : Str → Option Value} {L : Addr → Prop} : ∀ {xs : List P} {vs : List V} {ns : List Bool}, RepPs K mg L H vs xs → blsP xs = some ns → vs = ns.map V.bl
  | [], [], ns, _, e => by simp only [blsP, Option.some.injEq] at e; subst e; rfl
  | x :: xs, v :: vs, ns, r, e => by
    simp only [RepPs] at r
    cases x with
    | bl i =>
      simp only [blsP] at e
      obtain ⟨ns', e1, rfl⟩ := Option.map_eq_some_iff.mp e
      have h1 := r.1
      simp only [RepP] at h1
      rw [h1, blsP_ok r.2 e1]; rfl
    | _ => simp [blsP] at e
  | [], _ :: _, _, r, _ => by simp [RepPs] at r
  | _ :: _, [], _, r, _ => by simp [RepPs] at r
theorem listInts_ok {K : PySem.W.Frag} {mg : Str → Option Value} (k : StOk K mg S st H) {v : Vl} {w : V} {ns : List Int} (r : RepV K mg S H w v) (e : listInts v st = some ns) : ∃ a, w = .ref a ∧ H a = some (.lst (ns.map V.int)) := by
  unfold listInts at e
  split at e
  · rename_i xs e1
    split at e
    · rename_i ps e2
      obtain ⟨a, vs, rfl, hq, rv⟩ := listOf_ok k r e1
      have := intsP_ok (peeks_ok k _ xs vs ps rv e2) e
      subst this
      exact ⟨a, rfl, hq⟩
    · cases e
  · cases e
theorem maxI_ok : ∀ {l : List Int} {m : Int}, maxI l = some m → m ∈ l ∧ ∀ y ∈ l, y ≤ m
  | [i], m, e => by simp only [maxI, Option.some.injEq] at e; subst e; simp
  | i :: j :: r, m, e => by
    simp only [maxI] at e
    obtain ⟨m', e1, rfl⟩ := Option.map_eq_some_iff.mp e
    obtain ⟨h1, h2⟩ := maxI_ok (l := j :: r) (m := m') e1
    split
    · rename_i hc
      exact ⟨List.mem_cons_of_mem _ h1, fun y hy => (List.mem_cons.mp hy).elim (fun z => by omega) (h2 y)⟩
    · rename_i hc
      refine ⟨List.mem_cons_self, fun y hy => (List.mem_cons.mp hy).elim (fun z => by omega) fun z => ?_⟩
      have := h2 y z; omega
theorem minI_ok : ∀ {l : List Int} {m : Int}, minI l = some m → m ∈ l ∧ ∀ y ∈ l, m ≤ y
  | [i], m, e => by simp only [minI, Option.some.injEq] at e; subst e; simp
  | i :: j :: r, m, e => by
    simp only [minI] at e
    obtain ⟨m', e1, rfl⟩ := Option.map_eq_some_iff.mp e
    obtain ⟨h1, h2⟩ := minI_ok (l := j :: r) (m := m') e1
    split
    · rename_i hc
      exact ⟨List.mem_cons_of_mem _ h1, fun y hy => (List.mem_cons.mp hy).elim (fun z => by omega) (h2 y)⟩
    · rename_i hc
      refine ⟨List.mem_cons_self, fun y hy => (List.mem_cons.mp hy).elim (fun z => by omega) fun z => ?_⟩
      have := h2 y z; omega
theorem rep1 {K : PySem.W.Frag} {mg : Str → Option Value} {xs : List V} {v : Vl} (h : RepVs K mg S H xs [v]) : ∃ x, xs = [x] ∧ RepV K mg S H x v := by
  obtain ⟨x, r, rfl, h1, h2⟩ := All2.cons_l h
  rw [h2.nil_l]; exact ⟨x, rfl, h1⟩
theorem rep2 {K : PySem.W.Frag} {mg : Str → Option Value} {xs : List V} {v w : Vl} (h : RepVs K mg S H xs [v, w]) : ∃ x y, xs = [x, y] ∧ RepV K mg S H x v ∧ RepV K mg S H y w := by
  obtain ⟨x, r, rfl, h1, h2⟩ := All2.cons_l h
  obtain ⟨y, rfl, h3⟩ := rep1 h2
  exact ⟨x, y, rfl, h1, h3⟩
theorem mm_uniq {l : List Int} {m m' : Int} (h1 : m ∈ l) (h2 : ∀ y ∈ l, y ≤ m) (h3 : m' ∈ l) (h4 : ∀ y ∈ l, y ≤ m') : m' = m := by
  have := h2 _ h3; have := h4 _ h1; omega
theorem mn_uniq {l : List Int} {m m' : Int} (h1 : m ∈ l) (h2 : ∀ y ∈ l, m ≤ y) (h3 : m' ∈ l) (h4 : ∀ y ∈ l, m' ≤ y) : m' = m := by
  have := h2 _ h3; have := h4 _ h1; omega
theorem sort_uniq : ∀ {l m : List Int}, l.Perm m → l.Pairwise (· ≤ ·) → m.Pairwise (· ≤ ·) → l = m := fun h h1 h2 =>
  h.eq_of_pairwise (fun a b _ _ h1 h2 => by omega) h1 h2
theorem sortI_perm (l : List Int) : (sortI l).Perm l := List.mergeSort_perm l _
theorem sortI_pair (l : List Int) : (sortI l).Pairwise (· ≤ ·) := by
  have h := List.pairwise_mergeSort (le := fun a b : Int => decide (a ≤ b)) (by intro a b c; simp; omega) (by intro a b; simp; omega) l
  exact h.imp fun h => by simpa using h
theorem reprP_ok (hu : X.A.units + 70 < cLine) (hg : X.A.guards = some []) {L : Addr → Prop} {p : P} {t : Str} {x : V} {v : Value} {pins : List (Addr × Obj)} {s : Shared} {σ : L2.St} {Q : VK} (I : Inv X pins σ H s) (rx : RelV x v)
    (r : RepP X.K X.mg L H x p) (e : reprP p = some t) (q : Q (.str t) H) : wpAny (model X.prog X.w) X.A (call (.builtin "repr") [v]) (EP X pins σ Q) X.xe s := by
  unfold reprP at e
  split at e
  · rename_i d ed
    split at e
    · rename_i hs
      cases e
      obtain ⟨h1, h2, h3, h4⟩ := hs
      have dx := dp_of p x d r ed
      have fin : ∀ h' u tk, (∀ b o, s.heap.get? b = some o → h'.get? b = some o) → EP X pins σ Q (.str d.shown u) { s with heap := h', toks := tk } := fun h' u tk kk => ⟨.str d.shown, H, I.kept kk, ⟨u, rfl⟩, q⟩
      cases x with
      | non => cases dx; cases (show v = Value.none from rx); exact PySem.P.repr_of_none (by simpa only [PyData.shown] using fin s.heap s.toks _ (fun _ _ e => e))
      | bl b => cases dx; cases (show v = Value.bool b from rx); exact PySem.P.repr_of_bool (by simpa only [PyData.shown] using fin s.heap s.toks _ (fun _ _ e => e))
      | int i =>
        cases dx
        obtain ⟨t, rfl⟩ := (show ∃ t, v = Value.int i t from rx)
        exact PySem.P.repr_of_int (by simpa [PyData.showable] using h1) (by simpa only [PyData.shown] using fin s.heap s.toks _ (fun _ _ e => e))
      | str z =>
        cases dx
        obtain ⟨t, rfl⟩ := (show ∃ t, v = Value.str z t from rx)
        exact PySem.P.repr_of_str (by simpa only [PyData.shown] using fin s.heap s.toks _ (fun _ _ e => e)) (by simpa only [PyData.shown] using h4)
      | ref a =>
        cases (show v = Value.ref a from rx)
        obtain ⟨as, rd⟩ := Dp.reads I d (.ref a) (.ref a) dx rfl
        exact repr_of_reads' rd h1 (fun z => by rw [PyData.hasDict_of_canLay d h2] at z; cases z) hg (by omega) (fun _ _ e => e) fin h4
      | _ => cases dx
    · cases e
  · cases e
end
end Pz

set_option Elab.async false
set_option linter.all false
set_option maxRecDepth 100000
set_option maxHeartbeats 1000000
namespace Pz
open PySem L2
section
variable {X : Cx} {S : Lv} {H : Hp} {st : Sto}
/-! ### built-ins, called -/
def Bi.val : Bi → Value
  | .len => .builtin "len" | .int => .type "int" | .list => .type "list" | .tuple => .type "tuple" | .max => .builtin "max" | .min => .builtin "min"
  | .sum => .builtin "sum" | .all => .builtin "all" | .any => .builtin "any" | .sorted => .builtin "sorted" | .repr => .builtin "repr" | .str => .type "str"
  | .bool => .type "bool" | .abs => .builtin "abs"
theorem lenV_ok (k : StOk X.K X.mg S st H) {v : Vl} {w : V} {n : Nat} (r : RepV X.K X.mg S H w v) (e : lenV v st = some n) {pins : List (Addr × Obj)} {s : Shared} {σ : L2.St} {u : Value} {Q : VK} (I : Inv X pins σ H s) (rw' : RelV w u) (q : Q (.int n) H) :
    wpAny (model X.prog X.w) X.A (call (.builtin "len") [u]) (EP X pins σ Q) X.xe s := by
  unfold lenV at e
  split at e
  · rename_i x
    split at e
    · rename_i hz
      cases e
      obtain rfl := rep_str r
      exact call_len_str pins s σ H _ _ Q I (.cons rw' .nil) ⟨x, rfl, hz, q⟩
    · cases e
  · split at e
    · rename_i xs ei
      cases e
      obtain ⟨a, vs, rfl, hq, rv⟩ := itemsOf_ok k r ei
      exact call_len_seq pins s σ H _ _ Q I (.cons rw' .nil) ⟨a, vs, rfl, hq, by rw [rv.length]; exact q⟩
    · split at e
      · rename_i ks vs ed
        cases e
        obtain ⟨a, rfl, es, eh, ek, _⟩ := dctOf_ok k r ed
        cases (show u = Value.ref a from rw')
        exact d_len I (.inl eh) fun t s' I' => ⟨.int es.length, H, I', ⟨t, rfl⟩, by
          have : es.length = ks.length := by rw [← ek, List.length_map]
          rw [this]; exact q⟩
      · cases e
theorem bi_q (hc : X.calm = true) (hu : X.A.units + 70 < cLine) (hg : X.A.guards = some []) {b : Bi} {mu : Bool} : CallR X b.val (rVs X.K X.mg (biV b mu)) := by
  intro pins s σ H xs us Q I rs ⟨S, st, as, k, ra, h⟩
  unfold biV at h
  split at h
  · obtain ⟨x, rfl, r1⟩ := rep1 ra
    obtain ⟨u, rfl, ru⟩ := vals1 rs
    obtain ⟨w, e, q⟩ := Out.ofO h
    obtain ⟨n, e1, rfl⟩ := Option.map_eq_some_iff.mp e
    exact lenV_ok k r1 e1 I ru (q.ok k (mkInt S H _))
  · obtain ⟨x, rfl, r1⟩ := rep1 ra
    obtain rfl := rep_int r1
    exact call_int1 pins s σ H _ _ Q I rs (.inl ⟨_, rfl, Out.ok h k (mkInt S H _)⟩)
  · obtain ⟨x, rfl, r1⟩ := rep1 ra
    obtain rfl := rep_bl r1
    exact call_int1 pins s σ H _ _ Q I rs (.inr ⟨_, rfl, Out.ok h k (mkInt S H _)⟩)
  · obtain ⟨x, rfl, r1⟩ := rep1 ra
    split at h
    · rename_i ys e
      obtain ⟨a, vs, rfl, hq, rv⟩ := itemsOf_ok k r1 e
      exact call_list_of pins s σ H _ _ Q I rs ⟨a, vs, rfl, hq, (newL_q k rv h).2⟩
    · exact h.elim
  · obtain ⟨x, rfl, r1⟩ := rep1 ra
    obtain ⟨a, vs, rfl, hq, z, rr⟩ := rep_tup r1
    exact call_tuple_of pins s σ H _ _ Q I rs ⟨a, vs, rfl, .inr ⟨hq, Out.ok h k (mkTup hq z rr)⟩⟩
  · obtain ⟨x, rfl, r1⟩ := rep1 ra
    split at h
    · rename_i ys e
      obtain ⟨a, vs, rfl, hq, rv⟩ := listOf_ok k r1 e
      exact call_tuple_of pins s σ H _ _ Q I rs ⟨a, vs, rfl, .inl ⟨SqL.of hq, (out_newT k rv h).2⟩⟩
    · exact h.elim
  · obtain ⟨x, y, rfl, r1, r2⟩ := rep2 ra
    obtain rfl := rep_int r1
    obtain rfl := rep_int r2
    exact call_max2 hc pins s σ H _ _ Q I rs ⟨_, _, rfl, Out.ok h k (mkInt S H _)⟩
  · obtain ⟨x, y, rfl, r1, r2⟩ := rep2 ra
    obtain rfl := rep_int r1
    obtain rfl := rep_int r2
    exact call_min2 hc pins s σ H _ _ Q I rs ⟨_, _, rfl, Out.ok h k (mkInt S H _)⟩
  · obtain ⟨x, rfl, r1⟩ := rep1 ra
    obtain ⟨w, e, q⟩ := Out.ofO h
    obtain ⟨m, e1, rfl⟩ := Option.map_eq_some_iff.mp e
    obtain ⟨l, e2, e3⟩ := Option.bind_eq_some_iff.mp e1
    obtain ⟨a, rfl, hq⟩ := listInts_ok k r1 e2
    obtain ⟨h1, h2⟩ := maxI_ok e3
    exact cr_max hc pins s σ H _ _ Q I rs ⟨a, l, rfl, SqL.of hq, List.length_pos_of_mem h1, fun m' h3 h4 => by rw [mm_uniq h1 h2 h3 h4]; exact q.ok k (mkInt S H _)⟩
  · obtain ⟨x, rfl, r1⟩ := rep1 ra
    obtain ⟨w, e, q⟩ := Out.ofO h
    obtain ⟨m, e1, rfl⟩ := Option.map_eq_some_iff.mp e
    obtain ⟨l, e2, e3⟩ := Option.bind_eq_some_iff.mp e1
    obtain ⟨a, rfl, hq⟩ := listInts_ok k r1 e2
    obtain ⟨h1, h2⟩ := minI_ok e3
    exact cr_min hc pins s σ H _ _ Q I rs ⟨a, l, rfl, SqL.of hq, List.length_pos_of_mem h1, fun m' h3 h4 => by rw [mn_uniq h1 h2 h3 h4]; exact q.ok k (mkInt S H _)⟩
  · obtain ⟨x, rfl, r1⟩ := rep1 ra
    obtain ⟨w, e, q⟩ := Out.ofO h
    obtain ⟨l, e2, rfl⟩ := Option.map_eq_some_iff.mp e
    obtain ⟨a, rfl, hq⟩ := listInts_ok k r1 e2
    exact cr_sum hc pins s σ H _ _ Q I rs ⟨a, l, rfl, SqL.of hq, q.ok k (mkInt S H _)⟩
  · obtain ⟨x, rfl, r1⟩ := rep1 ra
    split at h
    · rename_i ys e
      obtain ⟨w, e1, q⟩ := Out.ofO h
      obtain ⟨l, e2, rfl⟩ := Option.map_eq_some_iff.mp e1
      obtain ⟨ps, e3, e4⟩ := Option.bind_eq_some_iff.mp e2
      obtain ⟨a, vs, rfl, hq, rv⟩ := listOf_ok k r1 e
      have := blsP_ok (peeks_ok k _ ys vs ps rv e3) e4
      subst this
      exact cr_all hc pins s σ H _ _ Q I rs ⟨a, l, rfl, SqL.of hq, q.ok k (mkBl S H _)⟩
    · exact h.elim
  · obtain ⟨x, rfl, r1⟩ := rep1 ra
    split at h
    · rename_i ys e
      obtain ⟨w, e1, q⟩ := Out.ofO h
      obtain ⟨l, e2, rfl⟩ := Option.map_eq_some_iff.mp e1
      obtain ⟨ps, e3, e4⟩ := Option.bind_eq_some_iff.mp e2
      obtain ⟨a, vs, rfl, hq, rv⟩ := listOf_ok k r1 e
      have := blsP_ok (peeks_ok k _ ys vs ps rv e3) e4
      subst this
      exact cr_any hc pins s σ H _ _ Q I rs ⟨a, l, rfl, SqL.of hq, q.ok k (mkBl S H _)⟩
    · exact h.elim
  · obtain ⟨x, rfl, r1⟩ := rep1 ra
    split at h
    · rename_i l e
      obtain ⟨a, rfl, hq⟩ := listInts_ok k r1 e
      have hr : RepVs X.K X.mg S H ((sortI l).map V.int) ((sortI l).map fun i => .p (.int i)) := by
        have h0 := repVs_p (S := S) (H := H) (K := X.K) (mg := X.mg) (repPs_ints (ns := sortI l) (L := inS S))
        rwa [List.map_map] at h0
      refine cr_sortedI pins s σ H _ _ Q I rs ⟨a, l, rfl, SqL.of hq, fun ns' p hp hs hn => ?_⟩
      rw [sort_uniq (hp.trans (sortI_perm l).symm) hs (sortI_pair l)]
      exact (newL_q k hr h).2 p hn
    · exact h.elim
  · obtain ⟨x, rfl, r1⟩ := rep1 ra
    obtain ⟨u, rfl, ru⟩ := vals1 rs
    split at h
    · rename_i p e
      obtain ⟨w, e1, q⟩ := Out.ofO h
      obtain ⟨t, e2, rfl⟩ := Option.map_eq_some_iff.mp e1
      exact reprP_ok hu hg I ru (peek_ok k _ _ _ _ r1 e) e2 (q.ok k (mkStr S H _))
    · exact h.elim
  · obtain ⟨x, rfl, r1⟩ := rep1 ra
    obtain rfl := rep_int r1
    obtain ⟨w, e1, q⟩ := Out.ofO h
    obtain ⟨t, e2, rfl⟩ := Option.map_eq_some_iff.mp e1
    unfold reprI at e2
    split at e2
    · rename_i hz
      cases e2
      exact call_str_int pins s σ H _ _ Q I rs ⟨_, rfl, hz, q.ok k (mkStr S H _)⟩
    · cases e2
  · obtain ⟨x, rfl, r1⟩ := rep1 ra
    obtain rfl := rep_int r1
    exact call_abs pins s σ H _ _ Q I rs ⟨_, rfl, Out.ok h k (mkInt S H _)⟩
  · obtain ⟨x, rfl, r1⟩ := rep1 ra
    obtain rfl := rep_bl r1
    exact call_bool1 pins s σ H _ _ Q I rs (.inr ⟨_, rfl, Out.ok h k (mkBl S H _)⟩)
  · obtain ⟨x, rfl, r1⟩ := rep1 ra
    obtain rfl := rep_int r1
    exact call_bool1 pins s σ H _ _ Q I rs (.inl ⟨_, rfl, Out.ok h k (mkBl S H _)⟩)
  · exact h.elim
/-! ### isinstance -/
def Ty.val : Ty → Value
  | .int => .type "int" | .bool => .type "bool" | .str => .type "str" | .tuple => .type "tuple" | .list => .type "list" | .dict => .type "dict"
def tyName : Ty → String
  | .int => "int" | .bool => "bool" | .str => "str" | .tuple => "tuple" | .list => "list" | .dict => "dict"
end
end Pz

set_option Elab.async false
set_option linter.all false
set_option maxRecDepth 100000
set_option maxHeartbeats 1000000
namespace Pz
open PySem L2
section
variable {X : Cx} {S : Lv} {H : Hp} {st : Sto}
/-! ### isinstance -/
theorem kit_all : ∀ (t : Ty) (a : String), a ∈ ["NoneType", "bool", "int", "str", "list", "tuple", "dict"] →
    kitB a (tyName t) = some (if a = tyName t then true else decide (a = "bool" ∧ tyName t = "int")) := by
  intro t a h
  cases t <;> (simp only [List.mem_cons, List.not_mem_nil, or_false] at h; rcases h with h | h | h | h | h | h | h <;> subst h <;> decide +kernel)
theorem tyIs_ok {K : PySem.W.Frag} {mg : Str → Option Value} (k : StOk K mg S st H) {t : Ty} {v : Vl} {x : V} {c : Bool} (r : RepV K mg S H x v) (e : tyIs t v st = some c) :
    ∃ T : Value, TyX K H x T ∧ PySem.W.kitOne K T (.type (tyName t)) = some c := by
  unfold tyIs at e
  split at e
  · rw [rep_non r]; exact ⟨_, .base .non, kit_ty (by rw [kit_all t _ (by simp), ← e]; cases t <;> decide)⟩
  · rw [rep_bl r]; exact ⟨_, .base (.bl _), kit_ty (by rw [kit_all t _ (by simp), ← e]; cases t <;> decide)⟩
  · rw [rep_int r]; exact ⟨_, .base (.int _), kit_ty (by rw [kit_all t _ (by simp), ← e]; cases t <;> decide)⟩
  · rw [rep_str r]; exact ⟨_, .base (.str _), kit_ty (by rw [kit_all t _ (by simp), ← e]; cases t <;> decide)⟩
  · obtain ⟨a, xs, rfl, hq, z, _⟩ := rep_tup r
    have ht : TyX K H (.ref a) (.type "tuple") := by
      rcases hq with (hq | ⟨o, hq⟩) | ⟨o, _, _, hk, hc, _⟩
      · exact .base (.tup hq)
      · exact .fTuple hq
      · exact .kTuple hk hc
    exact ⟨_, ht, kit_ty (by rw [kit_all t _ (by simp), ← e]; cases t <;> decide)⟩
  · obtain ⟨a, xs, rfl, hq, z, _⟩ := rep_lst r
    exact ⟨_, .base (.lst hq), kit_ty (by rw [kit_all t _ (by simp), ← e]; cases t <;> decide)⟩
  · rename_i ks vs
    have h : RepP K mg (inS S) H x (.dic ks vs) := r
    simp only [RepP] at h
    obtain ⟨a, es, rfl, eh, _⟩ := h
    exact ⟨_, .base (.dK eh), kit_ty (by rw [kit_all t _ (by simp), ← e]; cases t <;> decide)⟩
  · rename_i ks vs
    have h : RepP K mg (inS S) H x (.dit ks vs) := r
    simp only [RepP] at h
    obtain ⟨a, es, rfl, eh, _⟩ := h
    exact ⟨_, .base (.dT eh), kit_ty (by rw [kit_all t _ (by simp), ← e]; cases t <;> decide)⟩
  · cases e
  · cases e
  · cases e
  · split at e
    · rename_i n xs ec
      obtain ⟨a, rfl, ea, vs, eh, rv⟩ := loc_at k r ec rfl
      exact ⟨_, .base (.lst eh), kit_ty (by rw [kit_all t _ (by simp), ← e]; cases t <;> decide)⟩
    · rename_i n ks xs ec
      obtain ⟨a, rfl, ea, vs, eh, ek, rv⟩ := loc_at k r ec rfl
      exact ⟨_, .base (.dK eh), kit_ty (by rw [kit_all t _ (by simp), ← e]; cases t <;> decide)⟩
    · rename_i n ks xs ec
      obtain ⟨a, rfl, ea, vs, eh, ek, rv⟩ := loc_at k r ec rfl
      exact ⟨_, .base (.dT eh), kit_ty (by rw [kit_all t _ (by simp), ← e]; cases t <;> decide)⟩
    · cases e
    · cases e
/-! ### methods -/
def Me.id : Me → String
  | .append => "list.append" | .pop => "list.pop" | .extend => "list.extend" | .join => "str.join" | .split => "str.split" | .index => "list.index" | .get => "dict.get" | .setdefault => "dict.setdefault"
def rMe (K : PySem.W.Frag) (mg : Str → Option Value) (m : Me) (mu : Bool) : V → List V → Hp → VK → Prop := fun x xs H Q => ∃ S st a as, StOk K mg S st H ∧ RepV K mg S H x a ∧ RepVs K mg S H xs as ∧ OutV K mg (meV m mu a as st) S H Q
/-- a cell's list is rewritten -/
theorem out_lset {K : PySem.W.Frag} {mg : Str → Option Value} (k : StOk K mg S st H) {n : Nat} {a : Addr} {xs : List Vl} {vs : List V} {y : Vl} {w : V} {Q : VK} (ea : S.l[n]? = some (some a)) (rv : RepVs K mg S H vs xs) (rw' : RepV K mg S H w y)
    (h : OutV K mg (.ok y (st.set n (.lst xs))) S H Q) : Q w (upd H a (.lst vs)) := by
  have sp := Step.write (u := .lst vs) k ea
  exact h S _ w sp (k.write ea ⟨vs, upd_same, RepVs.step sp rv⟩ rfl) (rw'.step sp)
theorem rv_one {K : PySem.W.Frag} {mg : Str → Option Value} {x : V} {v : Vl} (h : RepV K mg S H x v) : RepVs K mg S H [x] [v] := ⟨h, trivial⟩
theorem me_append {mu : Bool} : MtM X "list.append" (rMe X.K X.mg .append mu) := by
  intro pins s σ H x xs v us Q I rx rs ⟨S, st, a, as, k, ra, rs', h⟩
  have h : OutV X.K X.mg (meApp a as st) S H Q := h
  unfold meApp at h
  split at h
  · rename_i n y
    obtain ⟨w, rfl, r1⟩ := rep1 rs'
    split at h
    · rename_i ys ec
      split at h
      · rename_i hz
        obtain ⟨a, rfl, ea, vs, eh, rv⟩ := loc_at k ra ec rfl
        exact mt_append pins s σ H _ _ v us Q I rx rs ⟨a, vs, w, rfl, rfl, eh, by rw [rv.length]; exact hz, out_lset k ea (All2.append rv (rv_one r1)) (mkNon S H) h⟩
      · exact h.elim
    · exact h.elim
  · exact h.elim
theorem me_pop {mu : Bool} : MtM X "list.pop" (rMe X.K X.mg .pop mu) := by
  intro pins s σ H x xs v us Q I rx rs ⟨S, st, a, as, k, ra, rs', h⟩
  have h : OutV X.K X.mg (mePop a as st) S H Q := h
  unfold mePop at h
  split at h
  · rename_i n
    have e0 : xs = [] := rs'.nil_l
    subst e0
    split at h
    · rename_i ys ec
      split at h
      · rename_i y ey
        obtain ⟨a, rfl, ea, vs, eh, rv⟩ := loc_at k ra ec rfl
        obtain ⟨w, ew, rw'⟩ := All2.get rv (i := ys.length - 1) ey
        exact mt_pop pins s σ H _ _ v us Q I rx rs ⟨a, vs, w, rfl, rfl, eh, by rw [rv.length]; exact ew, out_lset k ea (All2.dropLast rv) rw' h⟩
      · exact h.elim
    · exact h.elim
  · exact h.elim
theorem me_extend {mu : Bool} : MtM X "list.extend" (rMe X.K X.mg .extend mu) := by
  intro pins s σ H x xs v us Q I rx rs ⟨S, st, a, as, k, ra, rs', h⟩
  have h : OutV X.K X.mg (meExt a as st) S H Q := h
  unfold meExt at h
  split at h
  · rename_i n y
    obtain ⟨w, rfl, r1⟩ := rep1 rs'
    split at h
    · rename_i ys ec
      split at h
      · rename_i zs ez
        split at h
        · rename_i hz
          obtain ⟨a, rfl, ea, vs, eh, rv⟩ := loc_at k ra ec rfl
          obtain ⟨b, ws, rfl, eb, rw'⟩ := listOf_ok k r1 ez
          exact mt_extend pins s σ H _ _ v us Q I rx rs ⟨a, b, vs, ws, rfl, rfl, eh, eb, by rw [rv.length, rw'.length]; exact hz, out_lset k ea (All2.append rv rw') (mkNon S H) h⟩
        · exact h.elim
      · exact h.elim
    · exact h.elim
  · exact h.elim
/-! ### stores -/
def rPutV (K : PySem.W.Frag) (mg : Str → Option Value) : V → V → V → Hp → (Hp → Prop) → Prop := fun o i v H Q => ∃ S st a b c st', StOk K mg S st H ∧ RepV K mg S H o a ∧ RepV K mg S H i b ∧ RepV K mg S H v c ∧ setV a b c st = some st' ∧
  ∀ H', Step S H S H' → StOk K mg S st' H' → Q H'
theorem putK_ok {K : PySem.W.Frag} {mg : Str → Option Value} {κ : Type} [DecidableEq κ] {k : κ} {v : V} {x : Vl} (r : RepV K mg S H v x) {es : List (κ × V)} {vs : List Vl} (h : RepVs K mg S H (es.map (·.2)) vs) :
    (putK es k v).map (·.1) = (putL k x (es.map (·.1)) vs).1 ∧ RepVs K mg S H ((putK es k v).map (·.2)) (putL k x (es.map (·.1)) vs).2 := by
  have hk : (es.any fun kv => decide (kv.1 = k)) = true ↔ k ∈ es.map (·.1) := by
    rw [List.any_eq_true, List.mem_map]
    exact ⟨fun ⟨p, h1, h2⟩ => ⟨p, h1, of_decide_eq_true h2⟩, fun ⟨p, h1, h2⟩ => ⟨p, h1, decide_eq_true h2⟩⟩
  unfold putK putL
  by_cases hm : k ∈ es.map (·.1)
  · rw [if_pos (hk.mpr hm), if_pos hm]
    refine ⟨?_, ?_⟩
    · rw [List.map_map]
      refine List.map_congr_left fun p _ => ?_
      show (if p.1 = k then (p.1, v) else p).1 = p.1
      split <;> rfl
    · clear hm hk
      show RepVs K mg S H (List.map (·.2) (es.map fun kv => if kv.1 = k then (kv.1, v) else kv)) (List.zipWith (fun a w => if a = k then x else w) (es.map (·.1)) vs)
      induction es generalizing vs with
      | nil => cases vs with
        | nil => trivial
        | cons => exact h.elim
      | cons p es ih => cases vs with
        | nil => exact h.elim
        | cons y vs =>
          simp only [List.map_cons, List.zipWith_cons_cons]
          refine ⟨?_, ih h.2⟩
          by_cases e : p.1 = k
          · rw [if_pos e, if_pos e]; exact r
          · rw [if_neg e, if_neg e]; exact h.1
  · rw [if_neg (fun z => hm (hk.mp z)), if_neg hm]
    refine ⟨by simp, ?_⟩
    rw [List.map_append]
    exact All2.append h ⟨r, trivial⟩
theorem put_q (hu : X.A.units + 65 < cLine) : PSet X (rPutV X.K X.mg) := by
  intro pins s σ H o i v ov iv u Q I ro ri rv ⟨S, st, a, b, c, st', k, ra, rb, rc, e, q⟩
  unfold setV at e
  split at e
  · rename_i n
    split at e
    · rename_i xs j0 ec
      obtain ⟨j, ej, rfl⟩ := Option.map_eq_some_iff.mp e
      obtain ⟨aa, rfl, ea, vs, eh, rvs⟩ := loc_at k ra ec rfl
      obtain rfl := rep_int rb
      have sp := Step.write (u := .lst (vs.set j v)) k ea
      exact set_list pins s σ H _ _ v ov iv u Q I ro ri rv ⟨aa, vs, _, j, rfl, rfl, eh, by rw [rvs.length]; exact ej, q _ sp (k.write ea ⟨_, upd_same, RepVs.step sp (rvs.set rc j)⟩ rfl)⟩
    · rename_i ks vs p ec
      split at e
      · rename_i key ek
        split at e
        · rename_i hz
          cases e
          obtain ⟨aa, rfl, ea, es, eh, ek2, rvs⟩ := loc_at k ra ec rfl
          have e3 := keyP_ok (repV_p rb) ek
          subst e3
          cases (show ov = Value.ref aa from ro)
          obtain ⟨p1, p2⟩ := putK_ok (k := key) rc rvs
          have sp := Step.write (u := .dK (putK es key v)) k ea
          have hlen : es.length < sizeLine := by rw [show es.length = ks.length by rw [← ek2, List.length_map]]; exact hz.1
          refine d_setItem (by omega) I (DPut.k eh hlen) ri rv fun s' I' => ⟨_, I', q _ sp (k.write ea ⟨_, upd_same, ?_, ?_⟩ rfl)⟩
          · rw [← ek2]; exact p1
          · rw [← ek2]; exact RepVs.step sp p2
        · cases e
      · cases e
    · cases e
  · cases e
end
end Pz

set_option Elab.async false
set_option linter.all false
set_option maxRecDepth 100000
set_option maxHeartbeats 1000000
namespace Pz
open PySem L2
/-! ### contexts -/
structure Cok (X : Cx) (sx : Sx) : Prop where
  calm : X.calm = true
  nx : X.xe = fun _ _ => False
  nm : X.N = sx.N
  nd : sx.N.Nodup
  sc : X.env.scope = sx.sc
  fn : ∀ x, sx.canSt x = true → X.fn x = true ∨ X.env.scope.names.lookup x = some .local
  hu : X.A.units + 70 < cLine
  hg : X.A.guards = some []
def bltNames : List Str := ["len", "int", "list", "tuple", "max", "min", "sum", "all", "any", "sorted", "repr", "str", "bool", "abs", "range", "isinstance", "dict"]
/-- a def's promise: what the evaluator's caller gives -/
def spE (K : PySem.W.Frag) (mg : Str → Option Value) (call : Caller) (d : Df) : List V → Hp → VK → Prop := fun vs H Q => vs.length = d.ps.length ∧ ∃ S st as, StOk K mg S st H ∧ RepVs K mg S H vs as ∧ OutV K mg (call d.name as st) S H Q
/-- a def keeps it, wherever nothing guarded runs -/
structure FnG (P : Program) (w : World) (K : PySem.W.Frag) (mg : Str → Option Value) (base : Heap) (k : Nat) (f : Addr) (fd : FuncData) (ps : List Str) (sp : List V → Hp → VK → Prop) : Prop where
  run : ∀ (A : Around) (outer : List PySem.Env) (s : Shared) (H : Hp) (args : Args) (us : List Value) (vs : List V) (Q : VK), Room k A → A.guards = some [] → Env0 P w K mg base A outer s H → BindsTo s fd args (ps.zip us) → Vals vs us → sp vs H Q →
    codeAny (model P w) A (.call (.ref f) args) (CR CX0 outer P w H s Q E0) s
structure Gok (X : Cx) (G : Gl) (call : Caller) (k : Nat) : Prop where
  blt : ∀ x ∈ bltNames, X.mg x = none
  const : ∀ x p, G.consts.lookup x = some p → ∃ u v, X.mg x = some u ∧ RelV v u ∧ ∀ L H, RepP X.K X.mg L H v p
  defs : ∀ x d, G.def? x = some d → ∃ f fd, X.mg x = some (.ref f) ∧ PySem.W.keepIn X.K (.ref f) = true ∧ FnG X.prog X.w X.K X.mg X.base k f fd d.ps (spE X.K X.mg call d) ∧
    Binds X.K fd d.ps [] ∧ ∀ n ks ix, (n, ks) ∈ d.pats → kwIx d.ps n ks = some ix → ∀ (s : Shared) (us ws : List Value), X.K.In s.heap → us.length = n → ws.length = ks.length →
      ∃ zs, (ix.mapM fun i => (us ++ ws)[i]?) = some zs ∧ BindsTo s fd ⟨us, ks.zip ws⟩ (d.ps.zip zs)
  room : Room k X.A
  len : ∀ x d as st, G.def? x = some d → as.length ≠ d.ps.length → call x as st = .bad
section
variable {X : Cx} {sx : Sx} {G : Gl} {call : Caller} {k : Nat}
theorem ixOf {N : List Str} {x : Str} {i : Nat} (h : N.idxOf? x = some i) : N[i]? = some x := by
  unfold List.idxOf? at h
  obtain ⟨hl, h1, _⟩ := List.findIdx?_eq_some_iff_getElem.mp h
  rw [List.getElem?_eq_getElem hl]
  exact congrArg some (beq_iff_eq.mp h1)
theorem vis_of (c : Cok X sx) {x : Str} (h : visB sx.sc x = true) : Vis X.env.scope x := by
  unfold visB at h
  rw [← c.sc] at h
  unfold Vis
  split at h <;> simp_all
theorem loc_of (c : Cok X sx) {x : Str} (h : sx.canSt x = true) : L2.Loc X.env.scope x := by
  unfold Sx.canSt at h
  rw [Bool.and_eq_true] at h
  have h := h.1
  unfold locB at h
  rw [← c.sc] at h
  unfold L2.Loc
  split at h <;> simp_all
theorem gl_of (c : Cok X sx) {x : Str} (h : glbB sx.sc x = true) : L2.Gl X x := by
  unfold glbB at h
  rw [← c.sc, Bool.and_eq_true] at h
  replace h := h.2
  unfold L2.Gl
  show X.env.scope.names.lookup x = some .globalImplicit
  split at h <;> simp_all
theorem glb_ne {sc : Scope} {x : Str} (h : glbB sc x = true) : (x == ("__debug__" : Str)) = false := by
  unfold glbB at h
  rw [Bool.and_eq_true] at h
  exact beq_eq_false_iff_ne.mpr (of_decide_eq_true h.1)
theorem tev_bad {e : Expr} {t : TE} : (∀ σ H Q, ¬ t σ H Q) → PE X e t := fun f => ⟨fun pins s σ H Q I h => (f _ _ _ h).elim⟩
theorem tevB_bad {e : Expr} {t : TT} : (∀ σ H Q, ¬ t σ H Q) → PT X e t := fun f => ⟨fun pins s σ H Q I h => (f _ _ _ h).elim⟩
theorem not_bad {σ : L2.St} {H : Hp} {Q : VK} : ¬ tev X.K X.mg cBad σ H Q := fun ⟨_, _, _, _, _, h⟩ => h
theorem not_badB {a : CE} (h : a = cBad) {σ : L2.St} {H : Hp} {Q : Bool → Hp → Prop} : ¬ tevB X.K X.mg (bTru a) σ H Q := fun ⟨_, _, _, _, _, q⟩ => by subst h; exact q
theorem bad_e {e : Expr} : PEv X e cBad := tev_bad fun _ _ _ => not_bad
theorem bad_t {e : Expr} : PTv X e (bTru cBad) := tevB_bad fun _ _ _ => not_badB rfl
/-! ### names, constants -/
theorem ev_name (c : Cok X sx) {x : Str} {p : Pos} {i : Nat} (hv : visB sx.sc x = true) (hi : sx.N.idxOf? x = some i) (h1 : ¬ (x = "__debug__" ∨ x = "__classdict__")) : PEv X (.Name x p) (cName i) := by
  have hx : X.N[i]? = some x := by rw [c.nm]; exact ixOf hi
  refine PE.weak (pe_var hx (vis_of c hv) (beq_eq_false_iff_ne.mpr fun z => h1 (.inl z)) (beq_eq_false_iff_ne.mpr fun z => h1 (.inr z))) fun σ H Q h => ?_
  obtain ⟨S, st, env, k, er, h⟩ := h
  unfold cName at h
  split at h
  · rename_i v ev
    obtain ⟨o, eo, q⟩ := All2.get er ev
    obtain ⟨w, rfl, r⟩ := q
    exact ⟨w, eo, Out.ok h k r⟩
  · exact h.elim
theorem ev_const {e : Expr} {v : V} {p : P} (h : PE X e (tC v)) (r : ∀ S H, RepV X.K X.mg S H v (.p p)) : PEv X e (cP p) := by
  refine PE.weak h fun σ H Q h => ?_
  obtain ⟨S, st, env, k, er, h⟩ := h
  exact Out.ok h k (r S H)
/-! ### lists of arguments -/
theorem star_no {e : Expr} {es : List Expr} {env : PySem.Env} (h : isStar e = false) : starEach (e :: es) env = (false, eval e env) :: starEach es env := by
  cases e <;> first | rfl | simp [isStar] at h
theorem star_any {pos : Pos} {env : PySem.Env} : ∀ {es : List Expr}, (∀ e ∈ es, isStar e = false) → (backTo pos (starEach es env)).any (·.1) = false
  | [], _ => rfl
  | e :: es, h => by
    rw [star_no (h e List.mem_cons_self)]
    show (false || (backTo pos (starEach es env)).any (·.1)) = false
    rw [star_any fun e' he => h e' (List.mem_cons_of_mem _ he)]; rfl
theorem ev_args {ev : Expr → CE} (f : ∀ e, PEv X e (ev e)) : ∀ es, PAv X es (argsW ev es)
  | [] => PA.weak pa_nil fun σ H Q h => by
    obtain ⟨S, st, env, k, er, h⟩ := h
    exact Out.ok h k trivial
  | e :: es => by
    unfold argsW
    split
    · exact ⟨fun _ _ _ _ _ _ _ h => by obtain ⟨_, _, _, _, _, h⟩ := h; exact h.elim⟩
    · rename_i hs
      refine PA.weak (pa_cons (f e) (ev_args f es) (star_no (by simpa using hs))) fun σ H Q h => ?_
      obtain ⟨S, st, env, k, er, h⟩ := h
      refine ⟨S, st, env, k, er, (Out.bind (rel := RepV X.K X.mg) h).imp fun x H1 ⟨a1, st1, S1, s1, k1, r1, h1⟩ => ?_⟩
      refine ⟨S1, st1, env, k1, er.step s1, (Out.bind (rel := RepVs X.K X.mg) h1).imp fun xs H2 ⟨as, st2, S2, s2, k2, r2, h2⟩ => ?_⟩
      exact Out.ok h2 k2 ⟨r1.step s2, r2⟩
theorem args_plain {ev : Expr → CE} {σ : L2.St} {H : Hp} {Q : List V → Hp → Prop} : ∀ {es : List Expr}, tevA X.K X.mg (argsW ev es) σ H Q → ∀ e ∈ es, isStar e = false := by
  intro es h
  obtain ⟨S, st, env, k, er, h⟩ := h
  have : ∀ (es : List Expr) (st : Sto) (S : Lv) (H : Hp) (Q : List V → Hp → Prop), OutA X.K X.mg (argsW ev es env st) S H Q → ∀ e ∈ es, isStar e = false := by
    intro es
    induction es with
    | nil => intro _ _ _ _ _ e he; cases he
    | cons a r ih =>
      intro st S H Q h e he
      unfold argsW at h
      split at h
      · exact h.elim
      · rename_i hs
        rcases List.mem_cons.mp he with rfl | he
        · simpa using hs
        · unfold aCons at h
          cases q : ev a env st with
          | ok x s1 =>
            rw [q] at h
            have h' : OutA X.K X.mg ((argsW ev r env s1).bind fun xs s2 => .ok (x :: xs) s2) S H Q := h
            cases q2 : argsW ev r env s1 with
            | ok xs s2 => exact ih s1 S H (fun _ _ => True) (by rw [q2]; exact fun _ _ _ _ _ _ => trivial) e he
            | err => rw [q2] at h'; exact h'.elim
            | bad => rw [q2] at h'; exact h'.elim
          | err => rw [q] at h; exact h.elim
          | bad => rw [q] at h; exact h.elim
  exact this es st S H Q h
/-! ### tests by the value -/
theorem ev_test {e : Expr} {a : CE} (h : PEv X e a) (he : ∀ whole, isTrue e X.env whole = (do let v ← whole; standAt e.pos; holding [v] (truthy v))) : PTv X e (bTru a) := by
  refine PT.weak (pt_truth h he) fun σ H Q h => ?_
  obtain ⟨S, st, env, k, er, h⟩ := h
  refine ⟨S, st, env, k, er, (Out.bind (rel := RepV X.K X.mg) h).imp fun x H1 ⟨a1, st1, S1, s1, k1, r1, h1⟩ => ?_⟩
  obtain ⟨b, e1, q⟩ := Out.ofO h1
  exact ⟨b, truP_ok k1 r1 e1, q.ok k1 rfl⟩
end
end Pz

set_option Elab.async false
set_option linter.all false
set_option maxRecDepth 100000
set_option maxHeartbeats 1000000
namespace Pz
open PySem L2
section
variable {K : PySem.W.Frag} {mg : Str → Option Value} {S S' S2 : Lv} {H H' H2 : Hp} {st st' : Sto} {α β γ δ : Type} {rel : Lv → Hp → β → α → Prop} {rel' : Lv → Hp → δ → γ → Prop}
theorem Res.bind_assoc {r : Res α} {f : α → Sto → Res β} {g : β → Sto → Res γ} : (r.bind f).bind g = r.bind fun a s => (f a s).bind g := by cases r <;> rfl
theorem Out.bindE {r : Res α} {k : α → Sto → Res γ} {Q : δ → Hp → Prop} (h : Out K mg rel' (r.bind k) S H Q) :
    Out K mg rel r S H fun b H1 => ∃ a st1 S1, r = .ok a st1 ∧ Step S H S1 H1 ∧ StOk K mg S1 st1 H1 ∧ rel S1 H1 b a ∧ Out K mg rel' (k a st1) S1 H1 Q := by
  cases r with
  | ok a st => exact fun S2 H2 b s2 ok rb => ⟨a, st, S2, rfl, s2, ok, rb, h.step s2⟩
  | err => exact h
  | bad => exact h
/-! ### tests of compound expressions -/
theorem bTru_and (a b : CE) : bTru (cAnd a b) = bAnd (bTru a) (bTru b) := by
  funext env st
  unfold bTru cAnd bAnd
  rw [Res.bind_assoc, Res.bind_assoc]
  congr 1
  funext x s1
  cases h : truP x s1 with
  | none => rfl
  | some c => cases c with
    | true => rfl
    | false => show ofO (truP x s1) s1 = Res.ok false s1; rw [h]; rfl
theorem bTru_or (a b : CE) : bTru (cOr a b) = bOr (bTru a) (bTru b) := by
  funext env st
  unfold bTru cOr bOr
  rw [Res.bind_assoc, Res.bind_assoc]
  congr 1
  funext x s1
  cases h : truP x s1 with
  | none => rfl
  | some c => cases c with
    | false => rfl
    | true => show ofO (truP x s1) s1 = Res.ok true s1; rw [h]; rfl
theorem bTru_not (a : CE) : bTru (cNot a) = bNot (bTru a) := by
  funext env st
  unfold bTru cNot bNot
  rw [Res.bind_assoc, Res.bind_assoc]
  congr 1
  funext x s1
  cases h : truP x s1 with
  | none => rfl
  | some c => rfl
theorem bTru_if (t : CB) (a b : CE) : bTru (cIf t a b) = bIf t (bTru a) (bTru b) := by
  funext env st
  unfold bTru cIf bIf
  rw [Res.bind_assoc]
  congr 1
  funext c s1
  cases c <;> rfl
theorem test_and {a b : CB} {σ : L2.St} {Q : Bool → Hp → Prop} (h : tevB K mg (bAnd a b) σ H Q) : tAnd (tevB K mg a) (tevB K mg b) σ H Q := by
  obtain ⟨S, st, env, k, er, h⟩ := h
  refine ⟨S, st, env, k, er, (Out.bind (rel := relB) h).imp fun c H1 ⟨c1, st1, S1, s1, k1, r1, h1⟩ => ?_⟩
  cases r1
  cases c with
  | true => exact iteT ⟨S1, st1, env, k1, er.step s1, h1⟩
  | false => exact iteF (Out.ok h1 k1 rfl)
theorem test_or {a b : CB} {σ : L2.St} {Q : Bool → Hp → Prop} (h : tevB K mg (bOr a b) σ H Q) : tOr (tevB K mg a) (tevB K mg b) σ H Q := by
  obtain ⟨S, st, env, k, er, h⟩ := h
  refine ⟨S, st, env, k, er, (Out.bind (rel := relB) h).imp fun c H1 ⟨c1, st1, S1, s1, k1, r1, h1⟩ => ?_⟩
  cases r1
  cases c with
  | false => exact iteF ⟨S1, st1, env, k1, er.step s1, h1⟩
  | true => exact iteT (Out.ok h1 k1 rfl)
theorem test_not {a : CB} {σ : L2.St} {Q : Bool → Hp → Prop} (h : tevB K mg (bNot a) σ H Q) : tNot (tevB K mg a) σ H Q := by
  obtain ⟨S, st, env, k, er, h⟩ := h
  refine ⟨S, st, env, k, er, (Out.bind (rel := relB) h).imp fun c H1 ⟨c1, st1, S1, s1, k1, r1, h1⟩ => ?_⟩
  cases r1
  exact Out.ok h1 k1 rfl
theorem val_and {a b : CE} {σ : L2.St} {Q : VK} (h : tev K mg (cAnd a b) σ H Q) : tAndT K (tev K mg a) (tev K mg b) σ H Q := by
  obtain ⟨S, st, env, k, er, h⟩ := h
  refine ⟨S, st, env, k, er, (Out.bind (rel := RepV K mg) h).imp fun x H1 ⟨a1, st1, S1, s1, k1, r1, h1⟩ => ?_⟩
  split at h1
  · rename_i e; exact ⟨true, truP_ok k1 r1 e, iteT ⟨S1, st1, env, k1, er.step s1, h1⟩⟩
  · rename_i e; exact ⟨false, truP_ok k1 r1 e, iteF (Out.ok h1 k1 r1)⟩
  · exact h1.elim
theorem val_or {a b : CE} {σ : L2.St} {Q : VK} (h : tev K mg (cOr a b) σ H Q) : tOrT K (tev K mg a) (tev K mg b) σ H Q := by
  obtain ⟨S, st, env, k, er, h⟩ := h
  refine ⟨S, st, env, k, er, (Out.bind (rel := RepV K mg) h).imp fun x H1 ⟨a1, st1, S1, s1, k1, r1, h1⟩ => ?_⟩
  split at h1
  · rename_i e; exact ⟨true, truP_ok k1 r1 e, iteT (Out.ok h1 k1 r1)⟩
  · rename_i e; exact ⟨false, truP_ok k1 r1 e, iteF ⟨S1, st1, env, k1, er.step s1, h1⟩⟩
  · exact h1.elim
theorem val_not {a : CE} {σ : L2.St} {Q : VK} (h : tev K mg (cNot a) σ H Q) : tNotT K (tev K mg a) σ H Q := by
  obtain ⟨S, st, env, k, er, h⟩ := h
  refine ⟨S, st, env, k, er, (Out.bind (rel := RepV K mg) h).imp fun x H1 ⟨a1, st1, S1, s1, k1, r1, h1⟩ => ?_⟩
  obtain ⟨w, e, q⟩ := Out.ofO h1
  obtain ⟨c, e1, rfl⟩ := Option.map_eq_some_iff.mp e
  exact ⟨c, truP_ok k1 r1 e1, q.ok k1 (mkBl S1 H1 _)⟩
theorem val_if {t : CB} {a b : CE} {σ : L2.St} {Q : VK} (h : tev K mg (cIf t a b) σ H Q) : tIf (tevB K mg t) (tev K mg a) (tev K mg b) σ H Q := by
  obtain ⟨S, st, env, k, er, h⟩ := h
  refine ⟨S, st, env, k, er, (Out.bind (rel := relB) h).imp fun c H1 ⟨c1, st1, S1, s1, k1, r1, h1⟩ => ?_⟩
  cases r1
  cases c with
  | true => exact iteT ⟨S1, st1, env, k1, er.step s1, h1⟩
  | false => exact iteF ⟨S1, st1, env, k1, er.step s1, h1⟩
/-! ### comparisons -/
theorem val_cmp {op : CmpOp} {a b : CE} {σ : L2.St} {Q : VK} (h : tev K mg (cCmp op a b) σ H Q) : tOp (rC K mg op) (tev K mg a) (tev K mg b) σ H Q := by
  obtain ⟨S, st, env, k, er, h⟩ := h
  refine ⟨S, st, env, k, er, (Out.bind (rel := RepV K mg) h).imp fun x H1 ⟨a1, st1, S1, s1, k1, r1, h1⟩ => ?_⟩
  refine ⟨S1, st1, env, k1, er.step s1, (Out.bind (rel := RepV K mg) h1).imp fun y H2 ⟨b1, st2, S2, s2, k2, r2, h2⟩ => ?_⟩
  obtain ⟨w, e, q⟩ := Out.ofO h2
  obtain ⟨c, e1, rfl⟩ := Option.map_eq_some_iff.mp e
  exact ⟨S2, st2, a1, b1, c, k2, r1.step s2, r2, e1, q.ok k2 (mkBl S2 H2 c)⟩
theorem val_chn {o1 o2 : CmpOp} {a b c : CE} {σ : L2.St} {Q : VK} (h : tev K mg (cChn o1 o2 a b c) σ H Q) : tChain (rC K mg o1) (rC K mg o2) (tev K mg a) (tev K mg b) (tev K mg c) σ H Q := by
  obtain ⟨S, st, env, k, er, h⟩ := h
  refine ⟨S, st, env, k, er, (Out.bind (rel := RepV K mg) h).imp fun x H1 ⟨a1, st1, S1, s1, k1, r1, h1⟩ => ?_⟩
  refine ⟨S1, st1, env, k1, er.step s1, (Out.bind (rel := RepV K mg) h1).imp fun y H2 ⟨b1, st2, S2, s2, k2, r2, h2⟩ => ?_⟩
  split at h2
  · rename_i e
    refine ⟨S2, st2, a1, b1, true, k2, r1.step s2, r2, e, true, rfl, iteT ?_⟩
    refine ⟨S2, st2, env, k2, (er.step s1).step s2, (Out.bind (rel := RepV K mg) h2).imp fun z H3 ⟨c1, st3, S3, s3, k3, r3, h3⟩ => ?_⟩
    obtain ⟨w, e2, q⟩ := Out.ofO h3
    obtain ⟨d, e3, rfl⟩ := Option.map_eq_some_iff.mp e2
    exact ⟨S3, st3, b1, c1, d, k3, r2.step s3, r3, e3, q.ok k3 (mkBl S3 H3 d)⟩
  · rename_i e
    exact ⟨S2, st2, a1, b1, false, k2, r1.step s2, r2, e, false, rfl, iteF (Out.ok h2 k2 (mkBl S2 H2 false))⟩
  · exact h2.elim
/-- an expression whose value is always True or False -/
def IsBl (a : CE) : Prop := ∀ env st v s1, a env st = .ok v s1 → ∃ c, v = .p (.bl c)
theorem ofO_bl {o : Option Bool} {st s1 : Sto} {v : Vl} (h : ofO (o.map fun c => Vl.p (.bl c)) st = .ok v s1) : ∃ c, v = .p (.bl c) := by
  cases o with
  | none => cases h
  | some c => cases h; exact ⟨c, rfl⟩
theorem Res.bind_ok {α β : Type} {r : Res α} {f : α → Sto → Res β} {b : β} {s : Sto} (h : r.bind f = .ok b s) : ∃ a s1, r = .ok a s1 ∧ f a s1 = .ok b s := by
  cases r with
  | ok a s1 => exact ⟨a, s1, rfl, h⟩
  | err => cases h
  | bad => cases h
theorem isBl_cmp {op : CmpOp} {a b : CE} : IsBl (cCmp op a b) := fun env st v s1 h => by
  obtain ⟨x, t1, _, h1⟩ := Res.bind_ok h
  obtain ⟨y, t2, _, h2⟩ := Res.bind_ok h1
  exact ofO_bl h2
theorem isBl_chn {o1 o2 : CmpOp} {a b c : CE} : IsBl (cChn o1 o2 a b c) := fun env st v s1 h => by
  obtain ⟨x, t1, _, h1⟩ := Res.bind_ok h
  obtain ⟨y, t2, _, h2⟩ := Res.bind_ok h1
  split at h2
  · obtain ⟨z, t3, _, h3⟩ := Res.bind_ok h2
    exact ofO_bl h3
  · cases h2; exact ⟨false, rfl⟩
  · cases h2
theorem test_bl {a : CE} (hb : IsBl a) {σ : L2.St} {Q : Bool → Hp → Prop} (h : tevB K mg (bTru a) σ H Q) : tev K mg a σ H fun x H1 => ∃ c, x = .bl c ∧ Q c H1 := by
  obtain ⟨S, st, env, k, er, h⟩ := h
  refine ⟨S, st, env, k, er, (Out.bindE (rel := RepV K mg) h).imp fun x H1 ⟨a1, st1, S1, e1, s1, k1, r1, h1⟩ => ?_⟩
  obtain ⟨c, rfl⟩ := hb _ _ _ _ e1
  obtain ⟨d, e, q⟩ := Out.ofO h1
  have e' : some c = some d := e
  cases e'
  exact ⟨c, rep_bl r1, q.ok k1 rfl⟩
end
section
variable {X : Cx} {sx : Sx}
theorem PC_cmp (hu : X.A.units + 65 < cLine) {op : CmpOp} {a b : Expr} {p : Pos} {ca cb : CE} (ha : PEv X a ca) (hb : PEv X b cb) (hm : behindInMarks op b = false) :
    PEv X (.Compare a [op] [b] p) (cCmp op ca cb) ∧ PTv X (.Compare a [op] [b] p) (bTru (cCmp op ca cb)) :=
  ⟨PE.weak (pe_cmpR (op_cmp hu) ha hb hm) fun _ _ _ h => val_cmp h, PT.weak (pt_cmpR (op_cmp hu) ha hb hm) fun _ _ _ h => val_cmp (test_bl isBl_cmp h)⟩
theorem PC_chn (hu : X.A.units + 65 < cLine) {o1 o2 : CmpOp} {a b c : Expr} {p : Pos} {ca cb cc : CE} (ha : PEv X a ca) (hb : PEv X b cb) (hc : PEv X c cc) (hm : lastMarks [o1, o2] [b, c] = false) :
    PEv X (.Compare a [o1, o2] [b, c] p) (cChn o1 o2 ca cb cc) ∧ PTv X (.Compare a [o1, o2] [b, c] p) (bTru (cChn o1 o2 ca cb cc)) :=
  ⟨PE.weak (pe_chain (op_cmp hu) (op_cmp hu) ha hb hc hm) fun _ _ _ h => val_chn h, PT.weak (pt_chain (op_cmp hu) (op_cmp hu) ha hb hc hm) fun _ _ _ h => val_chn (test_bl isBl_chn h)⟩
end
end Pz

set_option Elab.async false
set_option linter.all false
set_option maxRecDepth 100000
set_option maxHeartbeats 1000000
namespace Pz
open PySem L2
/-! ### targets -/
def Off (is : List Nat) (σ τ : L2.St) : Prop := τ.length = σ.length ∧ ∀ (j : Nat), j ∉ is → τ[j]? = σ[j]?
def relT (K : PySem.W.Frag) (mg : Str → Option Value) (is : List Nat) (σ : L2.St) : Lv → Hp → L2.St → Env → Prop := fun S H τ env => EnvR (K := K) (mg := mg) S H τ env ∧ Off is σ τ
def ttg (K : PySem.W.Frag) (mg : Str → Option Value) (c : CT) (is : List Nat) : TG := fun v σ H Q => ∃ S st env x, StOk K mg S st H ∧ EnvR (K := K) (mg := mg) S H σ env ∧ RepV K mg S H v x ∧ Out K mg (relT K mg is σ) (c x env st) S H Q
theorem PG.weak {X : Cx} {e : Expr} {t t' : TG} (h : PG X e t) (f : ∀ v σ H Q, t' v σ H Q → t v σ H Q) : PG X e t' := ⟨fun pins s σ H v u Q I r q => h.run pins s σ H v u Q I r (f _ _ _ _ q)⟩
section
variable {X : Cx} {sx : Sx}
theorem targNm_ok (c : Cok X sx) {e : Expr} {i : Nat} (h : targNm sx e = some i) : ∃ x p, e = .Name x p ∧ X.N[i]? = some x ∧ PG X e (gName i) := by
  unfold targNm at h
  split at h
  · rename_i x p
    split at h
    · rename_i hs
      refine ⟨x, p, rfl, by rw [c.nm]; exact ixOf h, ?_⟩
      exact pg_name (by rw [c.nm]; exact c.nd) (by rw [c.nm]; exact ixOf h) (loc_of c hs) (c.fn x hs)
    · cases h
  · cases h
theorem Off.set {is : List Nat} {σ τ : L2.St} (h : Off is σ τ) {i : Nat} (hi : i ∈ is) (v : Option V) : Off is σ (τ.set i v) := ⟨by rw [List.length_set]; exact h.1, fun j hj => by
  rw [List.getElem?_set_ne (fun e => hj (by rw [← e]; exact hi))]
  exact h.2 j hj⟩
theorem Off.refl (is : List Nat) (σ : L2.St) : Off is σ σ := ⟨rfl, fun _ _ => rfl⟩
theorem env_set {K : PySem.W.Frag} {mg : Str → Option Value} {S : Lv} {H : Hp} {σ : L2.St} {env : Env} {v : V} {x : Vl} {i : Nat} (er : EnvR (K := K) (mg := mg) S H σ env) (r : RepV K mg S H v x) : EnvR (K := K) (mg := mg) S H (σ.set i (some v)) (env.set i (some x)) :=
  All2.set (show Slot (K := K) (mg := mg) S H (some v) (some x) from ⟨v, rfl, r⟩) i er
theorem tg_name {i : Nat} {e : Expr} (h : PG X e (gName i)) : PG X e (ttg X.K X.mg (tNm i) [i]) := by
  refine PG.weak h fun v σ H Q h => ?_
  obtain ⟨S, st, env, x, k, er, r, h⟩ := h
  exact h S H (σ.set i (some v)) Step.refl k ⟨env_set er r, (Off.refl _ _).set (List.mem_singleton.mpr rfl) _⟩
def gNames : List Nat → TGs
  | [] => gNil
  | i :: r => gCons (gName i) (gNames r)
theorem gNames_ok {K : PySem.W.Frag} {mg : Str → Option Value} {S : Lv} {st : Sto} {H : Hp} (k : StOk K mg S st H) {is0 : List Nat} {σ0 : L2.St} {Q : L2.St → Hp → Prop} : ∀ (is : List Nat) (xs : List V) (vs : List Vl) (σ : L2.St) (env : Env), (∀ i ∈ is, i ∈ is0) → Off is0 σ0 σ →
    EnvR (K := K) (mg := mg) S H σ env → RepVs K mg S H xs vs → Out K mg (relT K mg is0 σ0) (tGo (is.map tNm) vs env st) S H Q → gNames is xs σ H Q
  | [], xs, [], σ, env, _, o, er, r, h => by
    rw [r.nil_l]
    exact ⟨rfl, h S H σ Step.refl k ⟨er, o⟩⟩
  | [], _, _ :: _, _, _, _, _, _, _, h => h.elim
  | _ :: _, _, [], _, _, _, _, _, _, h => h.elim
  | i :: is, xs, v :: vs, σ, env, hi, o, er, r, h => by
    obtain ⟨x, r2, rfl, h1, h2⟩ := All2.cons_l r
    exact ⟨x, r2, rfl, gNames_ok k is r2 vs (σ.set i (some x)) (env.set i (some v)) (fun j hj => hi j (List.mem_cons_of_mem _ hj)) (o.set (hi i List.mem_cons_self) _) (env_set er h1) h2 h⟩
theorem names_map {env : PySem.Env} : ∀ {es : List Expr}, (∀ e ∈ es, ∃ x p, e = .Name x p) → (assignEach es env).length = es.length ∧ (assignEach es env).findIdx? (·.1) = none
  | [], _ => ⟨rfl, rfl⟩
  | e :: es, h => by
    obtain ⟨x, p, rfl⟩ := h e List.mem_cons_self
    obtain ⟨h1, h2⟩ := names_map (env := env) (es := es) fun e he => h e (List.mem_cons_of_mem _ he)
    refine ⟨by show (assignEach es env).length + 1 = _; rw [h1]; rfl, ?_⟩
    show List.findIdx? (·.1) ((false, assign (.Name x p) env) :: assignEach es env) = none
    rw [List.findIdx?_cons]
    simp [h2]
theorem names_pgs (c : Cok X sx) : ∀ {es : List Expr} {is : List Nat}, es.mapM (targNm sx) = some is → PGs X es (gNames is) ∧ (∀ e ∈ es, ∃ x p, e = .Name x p) ∧ is.length = es.length
  | [], is, h => by
    simp only [List.mapM_nil, Option.pure_def, Option.some.injEq] at h
    subst h
    exact ⟨pgs_nil, fun e he => absurd he (by simp), rfl⟩
  | e :: es, is, h => by
    rw [List.mapM_cons] at h
    cases h1 : targNm sx e with
    | none => rw [h1] at h; cases h
    | some i =>
      rw [h1] at h
      cases h2 : es.mapM (targNm sx) with
      | none => rw [h2] at h; cases h
      | some r =>
        rw [h2] at h
        cases h
        obtain ⟨p1, p2, p3⟩ := names_pgs c h2
        obtain ⟨x, p, rfl, hx, hg⟩ := targNm_ok c h1
        exact ⟨pgs_cons hg p1 rfl, fun e he => (List.mem_cons.mp he).elim (fun z => ⟨x, p, z⟩) (p2 e), by simp [p3]⟩
theorem targ_ok (c : Cok X sx) {e : Expr} {t : CT × List Nat} (h : targW sx e = some t) : PG X e (ttg X.K X.mg t.1 t.2) := by
  unfold targW at h
  split at h
  · obtain ⟨i, h1, rfl⟩ := Option.map_eq_some_iff.mp h
    obtain ⟨x, p, _, _, hg⟩ := targNm_ok c h1
    exact tg_name hg
  · rename_i es kk p
    obtain ⟨is, h1, rfl⟩ := Option.map_eq_some_iff.mp h
    obtain ⟨p1, p2, p3⟩ := names_pgs c h1
    obtain ⟨n1, n2⟩ := names_map (env := X.env) p2
    refine PG.weak (pg_tup c.calm p1 n1 n2) fun v σ H Q h => ?_
    obtain ⟨S, st, env, x, k, er, r, h⟩ := h
    have h : Out X.K X.mg (relT X.K X.mg is σ) (tTup (is.map tNm) x env st) S H Q := h
    by_cases hx : ∃ ps, x = .p (.tup ps)
    · obtain ⟨ps, rfl⟩ := hx
      have h : Out X.K X.mg (relT X.K X.mg is σ) (tGo (is.map tNm) (ps.map .p) env st) S H Q := h
      obtain ⟨a, xs, rfl, hq, _, rr⟩ := rep_tup r
      have hl := (of_repPs rr).length
      refine ⟨a, xs, rfl, hq, ?_, gNames_ok k is xs (ps.map .p) σ env (fun _ h => h) (Off.refl _ _) er (repVs_p rr) h⟩
      have : ∀ (js : List Nat) (vs : List Vl) (env : Env) (is : List Nat), Out X.K X.mg (relT X.K X.mg is σ) (tGo (js.map tNm) vs env st) S H Q → vs.length = js.length := by
        intro js
        induction js with
        | nil => intro vs env is h; cases vs with
          | nil => rfl
          | cons => exact h.elim
        | cons j js ih => intro vs env is h; cases vs with
          | nil => exact h.elim
          | cons v vs => rw [List.length_cons, List.length_cons, ih vs _ is h]
      have := this is (ps.map .p) env is h
      rw [List.length_map] at this
      omega
    · refine False.elim ?_
      unfold tTup at h
      cases x with
      | loc n => exact h
      | p x => cases x <;> first | exact hx ⟨_, rfl⟩ | exact h
  · cases h
end
/-! ### what is walked -/
section
variable {K : PySem.W.Frag} {mg : Str → Option Value} {S : Lv} {H : Hp} {st : Sto}
/-- J gives the items of q, where the values stand for what they stood for -/
def GoOk (K : PySem.W.Frag) (mg : Str → Option Value) (S : Lv) (st : Sto) (H : Hp) (J : It) : Itr → Prop
  | .it ps => (∀ i, i < ps.length → J.go i H) ∧ J.stop ps.length H ∧ ∀ i x H', i < ps.length → J.yld i H x H' →
      Step S H S H' ∧ StOk K mg S st H' ∧ (∀ a o, H a = some o → H' a = some o) ∧ ∃ p, ps[i]? = some p ∧ RepP K mg (inS S) H' x p
  | .loc n => ∀ ys, st[n]? = some (.lst ys) → (∀ i, i < ys.length → J.go i H) ∧ (∀ i, ys.length ≤ i → J.stop i H) ∧ ∀ i x H', i < ys.length → J.yld i H x H' → H' = H ∧ ∃ y, ys[i]? = some y ∧ RepV K mg S H x y
def relJ (K : PySem.W.Frag) (mg : Str → Option Value) : Lv → Hp → It → Itr → Prop := fun S H J q => ∃ vs xs, RepVs K mg S H vs xs ∧ ∀ S2 st2 H2, StOk K mg S2 st2 H2 → RepVs K mg S2 H2 vs xs → GoOk K mg S2 st2 H2 J q
def iev (K : PySem.W.Frag) (mg : Str → Option Value) (r : CI) : TI := fun σ H R => ∃ S st env, StOk K mg S st H ∧ EnvR (K := K) (mg := mg) S H σ env ∧ Out K mg (relJ K mg) (r env st) S H R
theorem goOk_same {J : It} {ps : List P} (k : StOk K mg S st H) (h1 : ∀ i, i < ps.length → J.go i H) (h2 : J.stop ps.length H) (h3 : ∀ i x H', i < ps.length → J.yld i H x H' → H' = H ∧ ∃ p, ps[i]? = some p ∧ RepP K mg (inS S) H x p) : GoOk K mg S st H J (.it ps) :=
  ⟨h1, h2, fun i x H' hi y => by
    obtain ⟨rfl, q⟩ := h3 i x H' hi y
    exact ⟨Step.refl, k, fun _ _ h => h, q⟩⟩
theorem go_list {a : Addr} {us : List V} {ps : List P} (k : StOk K mg S st H) (hq : SqL K H a us) (r : RepPs K mg (inS S) H us ps) : GoOk K mg S st H (Itl K a) (.it ps) := by
  have hl := (of_repPs r).length
  have W := walk_list (K := K) (a := a) (xs := us)
  refine goOk_same k (fun i hi => W.goes i H (by omega) hq) (by rw [← hl]; exact W.stops H hq) fun i x H' hi y => ?_
  obtain ⟨e, ex⟩ := W.yields i H x H' (by omega) hq y
  obtain ⟨p, ep, rp⟩ := All2.getL (of_repPs r) ex
  exact ⟨e, p, ep, rp⟩
theorem go_tup {a : Addr} {us : List V} {ps : List P} (k : StOk K mg S st H) (hq : SqT K H a us) (r : RepPs K mg (inS S) H us ps) : GoOk K mg S st H (Itt K a) (.it ps) := by
  have hl := (of_repPs r).length
  have W := walk_tup (K := K) (a := a) (xs := us)
  refine goOk_same k (fun i hi => W.goes i H (by omega) hq) (by rw [← hl]; exact W.stops H hq) fun i x H' hi y => ?_
  obtain ⟨e, ex⟩ := W.yields i H x H' (by omega) hq y
  obtain ⟨p, ep, rp⟩ := All2.getL (of_repPs r) ex
  exact ⟨e, p, ep, rp⟩
theorem rg_get {lo : Int} {n i : Nat} (h : i < n) : (rgP lo n)[i]? = some (.int (lo + (i : Nat))) := by
  unfold rgP
  rw [List.getElem?_map, List.getElem?_range h]; rfl
theorem rg_len {lo : Int} {n : Nat} : (rgP lo n).length = n := by unfold rgP; simp
theorem go_rg {lo : Int} {n : Nat} (k : StOk K mg S st H) : GoOk K mg S st H (L2.Itr lo n) (.it (rgP lo n)) := by
  refine goOk_same k (fun i hi => by rw [rg_len] at hi; exact hi) (by rw [rg_len]; exact Nat.le_refl n) fun i x H' hi y => ?_
  rw [rg_len] at hi
  obtain ⟨e, ex⟩ := y
  exact ⟨e, _, rg_get hi, by subst ex; simp only [RepP]⟩
end
section
variable {X : Cx} {sx : Sx} {tg : Expr}
theorem PI.weak {X : Cx} {tg e : Expr} {t t' : TI} (h : PI X tg e t) (f : ∀ σ H R, t' σ H R → t σ H R) : PI X tg e t' := ⟨fun pins s σ H R I q => h.run pins s σ H R I (f _ _ _ q)⟩
/-- a list or a tuple as it stands -/
theorem iter_val {pins : List (Addr × Obj)} {σ : L2.St} {H : Hp} {s : Shared} {R : It → Hp → Prop} {x : V} {v : Value} {E : Value → Shared → Prop} (I : Inv X pins σ H s) (rx : RelV x v)
    (h : ∃ a, x = .ref a ∧ (((∃ us, SqL X.K H a us) ∧ R (Itl X.K a) H) ∨ ((∃ us, SqT X.K H a us) ∧ R (Itt X.K a) H))) : wpAny (model X.prog X.w) X.A (pyIter v) (PIE X pins σ tg R) E s := by
  obtain ⟨a, rfl, h⟩ := h
  cases (show v = Value.ref a from rx)
  rcases h with ⟨⟨us, hq⟩, q⟩ | ⟨⟨us, hq⟩, q⟩
  · obtain ⟨its, rv, p, _⟩ := I.list hq
    apply wpAny_pyIter_list p.isList
    refine ⟨s.heap.objs.size, [s.heap.objs.size], _, _, H, rfl, I.kept (t' := s.toks) fun b o e => Heap.get?_push_of_some _ e, turn_list a _, ⟨_, Heap.get?_push_size _ rfl, rfl, rfl⟩, fun b hb => ?_, q⟩
    cases List.mem_singleton.mp hb
    exact I.fpOk (Nat.le_refl _) (I.hok.fresh (Nat.le_refl _))
  · obtain ⟨its, rv, p, _⟩ := I.tuple hq
    apply wpAny_pyIter_tuple (show s.heap.IsTuple a its.toArray from p)
    refine ⟨s.heap.objs.size, [s.heap.objs.size], _, _, H, rfl, I.kept (t' := s.toks) fun b o e => Heap.get?_push_of_some _ e, turn_tuple a _, ⟨_, Heap.get?_push_size _ rfl, rfl, rfl⟩, fun b hb => ?_, q⟩
    cases List.mem_singleton.mp hb
    exact I.fpOk (Nat.le_refl _) (I.hok.fresh (Nat.le_refl _))
end
end Pz

set_option Elab.async false
set_option linter.all false
set_option maxRecDepth 100000
set_option maxHeartbeats 1000000
namespace Pz
open PySem L2
/-! ### iterables -/
section
variable {X : Cx} {sx : Sx} {tg : Expr}
theorem relJ_of {K : PySem.W.Frag} {mg : Str → Option Value} {S : Lv} {H : Hp} {x : V} {a : Vl} {J : It} {q : Itr} (r : RepV K mg S H x a) (f : ∀ S2 st2 H2, StOk K mg S2 st2 H2 → RepV K mg S2 H2 x a → GoOk K mg S2 st2 H2 J q) : relJ K mg S H J q :=
  ⟨[x], [a], ⟨r, trivial⟩, fun S2 st2 H2 k2 r2 => f S2 st2 H2 k2 r2.1⟩
theorem ev_iter {e : Expr} {c : CE} (h : PEv X e c) : PI X tg e (iev X.K X.mg (iVal c)) := by
  refine ⟨fun pins s σ H R I h1 => ?_⟩
  have h2 : tev X.K X.mg c σ H fun x H1 => ∃ a, x = .ref a ∧ (((∃ us, SqL X.K H1 a us) ∧ R (Itl X.K a) H1) ∨ ((∃ us, SqT X.K H1 a us) ∧ R (Itt X.K a) H1)) := by
    obtain ⟨S, st, env, k, er, h1⟩ := h1
    refine ⟨S, st, env, k, er, (Out.bind (rel := RepV X.K X.mg) h1).imp fun x H1 ⟨a1, st1, S1, s1, k1, r1, h1⟩ => ?_⟩
    cases a1 with
    | p p =>
      cases p with
      | lst xs =>
        obtain ⟨a, vs, rfl, eh, _, rp⟩ := rep_lst r1
        refine ⟨a, rfl, .inl ⟨⟨vs, SqL.of eh⟩, Out.ok h1 k1 (relJ_of r1 fun S2 st2 H2 k2 r2 => ?_)⟩⟩
        obtain ⟨a', vs', e', eh', _, rp'⟩ := rep_lst r2
        cases e'
        exact go_list k2 (SqL.of eh') rp'
      | tup xs =>
        obtain ⟨a, vs, rfl, eh, _, rp⟩ := rep_tup r1
        refine ⟨a, rfl, .inr ⟨⟨vs, eh⟩, Out.ok h1 k1 (relJ_of r1 fun S2 st2 H2 k2 r2 => ?_)⟩⟩
        obtain ⟨a', vs', e', eh', _, rp'⟩ := rep_tup r2
        cases e'
        exact go_tup k2 eh' rp'
      | scr ns =>
        obtain ⟨a, rfl, q⟩ := rep_scr r1
        refine ⟨a, rfl, .inl ⟨⟨_, q⟩, Out.ok h1 k1 (relJ_of r1 fun S2 st2 H2 k2 r2 => ?_)⟩⟩
        obtain ⟨a', e', q'⟩ := rep_scr r2
        cases e'
        exact go_list k2 q' repPs_ints
      | ctp xs =>
        obtain ⟨a, vs, rfl, eh, rp⟩ := rep_ctp r1
        refine ⟨a, rfl, .inr ⟨⟨vs, eh⟩, Out.ok h1 k1 (relJ_of r1 fun S2 st2 H2 k2 r2 => ?_)⟩⟩
        obtain ⟨a', vs', e', eh', rp'⟩ := rep_ctp r2
        cases e'
        exact go_tup k2 eh' rp'
      | _ => exact h1.elim
    | loc n =>
      have h1 : Out X.K X.mg (relJ X.K X.mg) (match st1[n]? with
        | some (.lst _) => .ok (.loc n) st1
        | _ => .bad) S1 H1 R := h1
      cases ec : st1[n]? with
      | none => rw [ec] at h1; exact h1.elim
      | some cl =>
        rw [ec] at h1
        cases cl with
        | lst ys =>
          obtain ⟨a, rfl, ea, vs, eh, rv⟩ := loc_at k1 r1 ec rfl
          refine ⟨a, rfl, .inl ⟨⟨vs, SqL.of eh⟩, Out.ok h1 k1 (relJ_of r1 fun S2 st2 H2 k2 r2 => ?_)⟩⟩
          intro ys' ec'
          obtain ⟨a', e', ea', vs', eh', rv'⟩ := loc_at k2 r2 ec' rfl
          cases e'
          have hl : vs'.length = ys'.length := rv'.length
          refine ⟨fun i hi => ?_, fun i hi => ⟨vs', SqL.of eh', by omega⟩, fun i x H' hi y => ?_⟩
          · exact ⟨vs', vs'[i]'(by omega), SqL.of eh', by simp⟩
          · obtain ⟨e1, e2⟩ := y
            obtain ⟨y, ey, ry⟩ := All2.getL rv' (e2 vs' (SqL.of eh'))
            exact ⟨e1, y, ey, ry⟩
        | _ => exact h1.elim
  exact thn (h.run pins s σ H _ I h2) fun v s1 ⟨x, H1, I1, r1, q1⟩ => iter_val I1 r1 q1
theorem rgB_ok {i : Int} (h : rgB i = true) : -(2 ^ 62) ≤ i ∧ i < 2 ^ 62 := by
  unfold rgB at h
  exact of_decide_eq_true h
theorem relJ_rg {K : PySem.W.Frag} {mg : Str → Option Value} {S : Lv} {H : Hp} {lo : Int} {n : Nat} : relJ K mg S H (L2.Itr lo n) (.it (rgP lo n)) := ⟨[], [], trivial, fun _ _ _ k _ => go_rg k⟩
theorem ev_rg1 {a : Expr} {p pos : Pos} {c : CE} (hg : L2.Gl X "range") (hm : X.mg "range" = none) (h : PEv X a c) (hs : isStar a = false) : PI X tg (.Call (.Name "range" p) [a] [] pos) (iev X.K X.mg (iRg1 c)) := by
  refine PI.weak (pi_range1 hg hm (pa_cons h pa_nil (star_no hs)) (star_no hs)) fun σ H R h => ?_
  obtain ⟨S, st, env, k, er, h⟩ := h
  refine ⟨S, st, env, k, er, (Out.bind (rel := RepV X.K X.mg) h).imp fun x H1 ⟨a1, st1, S1, s1, k1, r1, h1⟩ => ?_⟩
  cases a1 with
  | loc n => exact h1.elim
  | p p =>
    cases p with
    | int j =>
      cases rep_int r1
      have h1 : Out X.K X.mg (relJ X.K X.mg) (if rgB j then .ok (.it (rgP 0 j.toNat)) st1 else .bad) S1 H1 R := h1
      split at h1
      · rename_i hb
        obtain ⟨b1, b2⟩ := rgB_ok hb
        exact ⟨j, rfl, b1, b2, Out.ok h1 k1 relJ_rg⟩
      · exact h1.elim
    | _ => exact h1.elim
theorem ev_rg2 {a b : Expr} {p pos : Pos} {c d : CE} (hg : L2.Gl X "range") (hm : X.mg "range" = none) (h : PEv X a c) (h2 : PEv X b d) (hs : isStar a = false) (hs2 : isStar b = false) : PI X tg (.Call (.Name "range" p) [a, b] [] pos) (iev X.K X.mg (iRg2 c d)) := by
  refine PI.weak (pi_range2 hg hm (pa_cons h (pa_cons h2 pa_nil (star_no hs2)) (star_no hs)) (by rw [star_no hs, star_no hs2]; rfl) (star_no hs2)) fun σ H R h => ?_
  obtain ⟨S, st, env, k, er, h⟩ := h
  refine ⟨S, st, env, k, er, (Out.bind (rel := RepV X.K X.mg) h).imp fun x H1 ⟨a1, st1, S1, s1, k1, r1, h1⟩ => ?_⟩
  refine ⟨S1, st1, env, k1, er.step s1, (Out.bind (rel := RepV X.K X.mg) h1).imp fun y H2 ⟨b1, st2, S2, s2, k2, r2, h2⟩ => ?_⟩
  cases a1 with
  | loc n => exact h2.elim
  | p p =>
    cases p with
    | int i =>
      cases b1 with
      | loc n => exact h2.elim
      | p p =>
        cases p with
        | int j =>
          cases rep_int r1
          cases rep_int r2
          have h2 : Out X.K X.mg (relJ X.K X.mg) (if rgB i && rgB j then .ok (.it (rgP i (j - i).toNat)) st2 else .bad) S2 H2 R := h2
          split at h2
          · rename_i hb
            rw [Bool.and_eq_true] at hb
            obtain ⟨b1, b2⟩ := rgB_ok hb.1
            obtain ⟨b3, b4⟩ := rgB_ok hb.2
            exact ⟨i, j, rfl, ⟨b1, b2, b3, b4⟩, Out.ok h2 k2 relJ_rg⟩
          · exact h2.elim
        | _ => exact h2.elim
    | _ => exact h2.elim
theorem iev_bad {e : Expr} {t : TI} (f : ∀ σ H R, ¬ t σ H R) : PI X tg e t := ⟨fun pins s σ H R I h => (f _ _ _ h).elim⟩
theorem star_bad {ev : Expr → CE} {a : Expr} (hs : isStar a = true) (hb : ∀ a, isStar a = true → ev a = cBad) : ev a = cBad := hb a hs
theorem iter_ok {ev : Expr → CE} (f : ∀ e, PEv X e (ev e)) (hb : ∀ a, isStar a = true → ev a = cBad) (c : Cok X sx) (hm : X.mg "range" = none) (e : Expr) : PI X tg e (iev X.K X.mg (iterW ev sx e)) := by
  unfold iterW
  split
  · rename_i g p as pos
    split
    · rename_i hg
      obtain ⟨rfl, hg⟩ := hg
      have hgl := gl_of c hg
      cases as with
      | nil => exact iev_bad fun σ H R ⟨_, _, _, _, _, h⟩ => h
      | cons a as =>
        cases as with
        | nil =>
          by_cases hs : isStar a = true
          · exact iev_bad fun σ H R ⟨_, _, _, _, _, h⟩ => by
              have h : Out X.K X.mg (relJ X.K X.mg) (iRg1 (ev a) _ _) _ H R := h
              rw [hb a hs] at h
              exact h
          · exact ev_rg1 hgl hm (f a) (by simpa using hs)
        | cons b as =>
          cases as with
          | nil =>
            by_cases hs : isStar a = true
            · exact iev_bad fun σ H R ⟨_, _, _, _, _, h⟩ => by
                have h : Out X.K X.mg (relJ X.K X.mg) (iRg2 (ev a) (ev b) _ _) _ H R := h
                rw [hb a hs] at h
                exact h
            · by_cases hs2 : isStar b = true
              · exact iev_bad fun σ H R ⟨_, st, env, _, _, h⟩ => by
                  have h : Out X.K X.mg (relJ X.K X.mg) (iRg2 (ev a) (ev b) env st) _ H R := h
                  rw [hb b hs2] at h
                  unfold iRg2 at h
                  cases q : ev a env st <;> rw [q] at h <;> exact h
              · exact ev_rg2 hgl hm (f a) (f b) (by simpa using hs) (by simpa using hs2)
          | cons d as => exact iev_bad fun σ H R ⟨_, _, _, _, _, h⟩ => h
    · exact ev_iter (f _)
  · exact ev_iter (f _)
end
end Pz

set_option Elab.async false
set_option linter.all false
set_option maxRecDepth 100000
set_option maxHeartbeats 1000000
namespace Pz
open PySem L2
/-! ### comprehensions -/
section
variable {K : PySem.W.Frag} {mg : Str → Option Value} {S S' S2 : Lv} {H H' H2 : Hp} {st st' : Sto}
theorem Out.intro {α β : Type} {rel : Lv → Hp → β → α → Prop} {r : Res α} {a : α} {Q : β → Hp → Prop} (e : r = .ok a st) (h : ∀ S' H' b, Step S H S' H' → StOk K mg S' st H' → rel S' H' b a → Q b H') : Out K mg rel r S H Q := by
  subst e; exact h
/-- what is built at D goes on -/
structure Trk (K : PySem.W.Frag) (mg : Str → Option Value) (D : Addr) (S : Lv) (H : Hp) (S2 : Lv) (H2 : Hp) : Prop where
  h : S2.h = S.h
  st : ∀ (S0 : Lv) (H0 : Hp), H0 D = none → Step S0 H0 ⟨S.l, S0.h⟩ H → Step S0 H0 ⟨S2.l, S0.h⟩ H2
  env : ∀ σ env, EnvR (K := K) (mg := mg) S H σ env → EnvR (K := K) (mg := mg) S2 H2 σ env
  rvs : ∀ xs vs, RepVs K mg S H xs vs → RepVs K mg S2 H2 xs vs
theorem Trk.of {D : Addr} (s : Step S H S2 H2) : Trk K mg D S H S2 H2 :=
  ⟨s.hid, fun S0 H0 _ t => t.trans ⟨s.len, s.live, s.keep, rfl, s.tup, s.frz⟩, fun _ _ e => e.step s, fun _ _ r => RepVs.step s r⟩
theorem Trk.trans {D : Addr} {S3 : Lv} {H3 : Hp} (a : Trk K mg D S H S2 H2) (b : Trk K mg D S2 H2 S3 H3) : Trk K mg D S H S3 H3 :=
  ⟨b.h.trans a.h, fun S0 H0 h t => b.st S0 H0 h (a.st S0 H0 h t), fun _ _ e => b.env _ _ (a.env _ _ e), fun _ _ r => b.rvs _ _ (a.rvs _ _ r)⟩
theorem lst_open {xs : List V} : (∀ ys, HO.lst xs ≠ .tup ys) ∧ ∀ u x, HO.lst xs ≠ .frz u x := ⟨(fun _ z => by cases z), (fun _ _ z => by cases z)⟩
theorem Trk.put {D : Addr} (k : StOk K mg S st H) (hD : D ∈ S.h) {xs ys : List V} (e : H D = some (.lst xs)) : Trk K mg D S H S (upd H D (.lst ys)) :=
  ⟨rfl, fun S0 H0 h t => Step.built (S := ⟨S.l, S0.h⟩) e lst_open (k.hid D hD).1 S0 H0 t h, fun _ _ q => EnvR.built e lst_open (.inr hD) q, fun _ _ r => r.imp fun _ _ => RepV.built e lst_open (.inr hD)⟩
theorem hid_there (s : Step S H S2 H2) (k : StOk K mg S st H) {D : Addr} (hD : D ∈ S.h) {o : HO} (e : H D = some o) : D ∈ S2.h ∧ H2 D = some o :=
  ⟨by rw [s.hid]; exact hD, (s.keep D o e (k.hid D hD).1).1⟩
theorem wipe_get {σ : L2.St} {j : Nat} : ∀ {vs : List Nat}, (wipe σ vs)[j]? = if j ∈ vs then σ[j]?.map (fun _ => none) else σ[j]?
  | [] => by simp [wipe]
  | v :: vs => by
    unfold wipe
    rw [List.getElem?_set, wipe_get (vs := vs), wipe_length]
    by_cases hj : v = j
    · subst hj
      by_cases hl : v < σ.length
      · simp [hl]
      · simp [hl]
    · have : j ≠ v := fun z => hj z.symm
      simp [hj, this]
theorem wipe_off {σ τ : L2.St} {is vs : List Nat} (h : Off is (wipe σ vs) τ) (hs : ∀ i ∈ is, i ∈ vs) : wipe τ vs = wipe σ vs := by
  apply List.ext_getElem?
  intro j
  rw [wipe_get, wipe_get]
  have hl := h.1
  rw [wipe_length] at hl
  by_cases hj : j ∈ vs
  · rw [if_pos hj, if_pos hj]
    by_cases hb : j < σ.length
    · rw [List.getElem?_eq_getElem hb, List.getElem?_eq_getElem (by omega)]; rfl
    · rw [List.getElem?_eq_none (by omega), List.getElem?_eq_none (by omega)]
  · rw [if_neg hj, if_neg hj, h.2 j fun z => hj (hs j z), wipe_get, if_neg hj]
theorem wipe_env {σ : L2.St} {env : Env} (er : EnvR (K := K) (mg := mg) S H σ env) : ∀ vs : List Nat, EnvR (K := K) (mg := mg) S H (wipe σ vs) (wipeE env vs)
  | [] => er
  | v :: vs => All2.set (show Slot (K := K) (mg := mg) S H none none from trivial) v (wipe_env er vs)
theorem lc_turn {tg : CT} {ifs : CB} {elt : CE} {is vs : List Nat} (hs : ∀ i ∈ is, i ∈ vs) {σ : L2.St} {env : Env} {x : V} {v : Vl} {acc acc1 : List Vl} {accv : List V} {s1 : Sto} {D : Addr} {Nx : Hp → Prop}
    (k : StOk K mg S st H) (er : EnvR (K := K) (mg := mg) S H (wipe σ vs) env) (hD : D ∈ S.h) (eD : H D = some (.lst accv)) (ra : RepVs K mg S H accv acc) (rx : RepV K mg S H x v) (e : lcTurn tg ifs elt env v acc st = .ok acc1 s1)
    (hN : ∀ S2 H2 accv2, Trk K mg D S H S2 H2 → StOk K mg S2 s1 H2 → H2 D = some (.lst accv2) → RepVs K mg S2 H2 accv2 acc1 → Nx H2) :
    ttg K mg tg is x (wipe σ vs) H fun σ2 H2 => wipe σ2 vs = wipe σ vs ∧ tevB K mg ifs σ2 H2 fun b H3 =>
      if b = true then tev K mg elt σ2 H3 fun y H4 => ∃ a, H4 D = some (.lst a) ∧ a.length < sizeLine ∧ Nx (upd H4 D (.lst (a ++ [y]))) else Nx H3 := by
  unfold lcTurn at e
  obtain ⟨e1, t1, q1, e⟩ := Res.bind_ok e
  obtain ⟨c, t2, q2, e⟩ := Res.bind_ok e
  refine ⟨S, st, env, v, k, er, rx, Out.intro q1 fun S1 H1 τ w1 k1 r1 => ⟨wipe_off r1.2 hs, ?_⟩⟩
  obtain ⟨hD1, eD1⟩ := hid_there w1 k hD eD
  refine ⟨S1, t1, e1, k1, r1.1, Out.intro q2 fun S2 H2 b w2 k2 r2 => ?_⟩
  obtain ⟨hD2, eD2⟩ := hid_there w2 k1 hD1 eD1
  cases r2
  cases c with
  | false =>
    rw [if_neg (by decide)]
    have e : Res.ok acc t2 = .ok acc1 s1 := e
    cases e
    exact hN S2 H2 accv (Trk.of (w1.trans w2)) k2 eD2 (RepVs.step (w1.trans w2) ra)
  | true =>
    rw [if_pos rfl]
    have e : (elt e1 t2).bind (fun y s3 => if acc.length < sizeLine then .ok (acc ++ [y]) s3 else .bad) = .ok acc1 s1 := e
    obtain ⟨y, t3, q3, e⟩ := Res.bind_ok e
    refine ⟨S2, t2, e1, k2, r1.1.step w2, Out.intro q3 fun S3 H3 yv w3 k3 r3 => ?_⟩
    obtain ⟨hD3, eD3⟩ := hid_there w3 k2 hD2 eD2
    split at e
    · rename_i hz
      cases e
      have ra3 := RepVs.step ((w1.trans w2).trans w3) ra
      have tr : Trk K mg D S H S3 (upd H3 D (.lst (accv ++ [yv]))) := (Trk.of ((w1.trans w2).trans w3)).trans (Trk.put k3 hD3 eD3)
      refine ⟨accv, eD3, by rw [ra.length]; exact hz, hN S3 _ _ tr (k3.built eD3 lst_open lst_open hD3) upd_same ?_⟩
      exact (Trk.put k3 hD3 eD3).rvs _ _ (All2.append ra3 ⟨r3, trivial⟩)
    · cases e
/-- the list that was built is a value -/
theorem lc_end {mu : Bool} {acc : List Vl} {accv : List V} {D : Addr} {S0 : Lv} {H0 : Hp} {Q : VK} (k0 : StOk K mg S0 st' H0) (h0 : H0 D = none) (hh : S.h = D :: S0.h) (s : Step S0 H0 ⟨S.l, S0.h⟩ H)
    (k : StOk K mg S st H) (eD : H D = some (.lst accv)) (ra : RepVs K mg S H accv acc) (h : OutV K mg (newL mu acc st) S0 H0 Q) : Q (.ref D) H := by
  have hS : S = Lv.hide ⟨S.l, S0.h⟩ D := by
    obtain ⟨l, h'⟩ := S
    have hh : h' = D :: S0.h := hh
    subst hh; rfl
  have nl : some D ∉ S.l := (k.hid D (by rw [hh]; exact List.mem_cons_self)).1
  have nh : D ∉ S0.h := fun z => by
    obtain ⟨_, o, e, _⟩ := k0.hid D z
    rw [h0] at e; cases e
  rw [hS] at k ra
  generalize hT : (⟨S.l, S0.h⟩ : Lv) = T at s k ra
  have nT : ¬ inS T D := by
    rw [← hT]
    exact fun z => z.elim nl nh
  have k1 := k.shown
  have r1 : RepVs K mg T H accv acc := ra.imp fun _ _ => RepV.shown
  unfold newL at h
  split at h
  · cases mu with
    | false =>
      have h : OutV K mg ((pureL acc st).bind fun ps st1 => .ok (.p (.lst ps)) st1) S0 H0 Q := h
      unfold pureL at h
      cases e : frzs deep st acc with
      | some q =>
        obtain ⟨xs, s1⟩ := q
        rw [e] at h
        obtain ⟨S1, t, k2, p⟩ := frzs_ok deep st T acc accv xs s1 k1 r1 e
        have h : OutV K mg (.ok (.p (.lst xs)) s1) S0 H0 Q := h
        refine h S1 H (.ref D) (s.trans t) k2 ?_
        show RepP K mg (inS S1) _ _ _
        simp only [RepP]
        exact ⟨D, accv, rfl, eD, (t.pure eD nT).2, p⟩
      | none => rw [e] at h; exact h.elim
    | true =>
      have h : OutV K mg (.ok (.loc st.length) (st ++ [.lst acc])) S0 H0 Q := h
      have nTl : some D ∉ T.l := fun z => nT (.inl z)
      have old : ∀ (n : Nat) (a : Addr), (T.l ++ [some D])[n]? = some (some a) → (n < T.l.length ∧ T.l[n]? = some (some a)) ∨ (n = T.l.length ∧ a = D) := fun n a e => by
        by_cases hn : n < T.l.length
        · rw [List.getElem?_append_left hn] at e; exact .inl ⟨hn, e⟩
        · rw [List.getElem?_append_right (by omega)] at e
          have hz : n - T.l.length = 0 := by
            cases hq : n - T.l.length with
            | zero => rfl
            | succ m => rw [hq] at e; simp at e
          rw [hz] at e
          simp at e
          exact .inr ⟨by omega, e.symm⟩
      have up : ∀ (x : Vl) (w : V), RepV K mg (T.hide D) H w x → RepV K mg (T.add D) H w x := fun x w r => by
        cases x with
        | p p =>
          refine RepP.less (fun a z => ?_) p w r
          rcases z with z | z
          · unfold Lv.add at z
            rcases List.mem_append.mp z with z | z
            · exact .inl z
            · simp at z; exact .inr (by rw [z]; exact List.mem_cons_self)
          · exact .inr (List.mem_cons_of_mem _ z)
        | loc n =>
          obtain ⟨hn, f⟩ := r
          refine ⟨by unfold Lv.add; rw [List.length_append]; exact Nat.lt_of_lt_of_le hn (Nat.le_add_right _ _), fun a e => ?_⟩
          rcases old n a e with ⟨_, e⟩ | ⟨e, _⟩
          · exact f a e
          · exact absurd hn (by rw [e]; exact Nat.lt_irrefl _)
      have upC : ∀ (a : Addr) (c : Cell), CellOk K mg (T.hide D) H a c → CellOk K mg (T.add D) H a c := fun a c q => by
        cases c with
        | dead => trivial
        | lst => obtain ⟨xs, e1, r⟩ := q; exact ⟨xs, e1, r.imp fun _ _ => up _ _⟩
        | dic => obtain ⟨xs, e1, z, r⟩ := q; exact ⟨xs, e1, z, r.imp fun _ _ => up _ _⟩
        | dit => obtain ⟨xs, e1, z, r⟩ := q; exact ⟨xs, e1, z, r.imp fun _ _ => up _ _⟩
        | obj => obtain ⟨C, dx, fs, e1, m, z, r⟩ := q; exact ⟨C, dx, fs, e1, m, z, r.imp fun _ _ => up _ _⟩
      have hlen : T.l.length = st.length := k1.len
      have t : Step S0 H0 (T.add D) H := by
        refine ⟨?_, fun n a hn e => ?_, fun a o e n => ?_, s.hid, s.tup, s.frz⟩
        · unfold Lv.add; rw [List.length_append]; exact Nat.le_trans s.len (Nat.le_add_right _ _)
        · rcases old n a e with ⟨_, e⟩ | ⟨e, _⟩
          · exact s.live n a hn e
          · exact absurd (Nat.lt_of_lt_of_le hn s.len) (by rw [e]; exact Nat.lt_irrefl _)
        · refine ⟨(s.keep a o e n).1, fun z => ?_⟩
          unfold Lv.add at z
          rcases List.mem_append.mp z with z | z
          · exact (s.keep a o e n).2 z
          · simp at z
            rw [z, h0] at e; cases e
      refine h (T.add D) H (.ref D) t ⟨?_, ?_, ?_, ?_, ?_⟩ ⟨?_, fun a e => ?_⟩
      · simp [Lv.add, hlen]
      · intro n m a e1 e2
        rcases old n a e1 with ⟨h1, f1⟩ | ⟨h1, z1⟩ <;> rcases old m a e2 with ⟨h2, f2⟩ | ⟨h2, z2⟩
        · exact k1.inj n m a f1 f2
        · subst z2; exact absurd (List.mem_of_getElem? f1) nTl
        · subst z1; exact absurd (List.mem_of_getElem? f2) nTl
        · omega
      · intro n c e d
        by_cases hn : n < st.length
        · rw [List.getElem?_append_left hn] at e
          obtain ⟨a, ea, ok⟩ := k.cell n c e d
          refine ⟨a, ?_, upC a c ok⟩
          show (T.l ++ [some D])[n]? = _
          rw [List.getElem?_append_left (by rw [hlen]; exact hn)]
          exact ea
        · rw [List.getElem?_append_right (by omega)] at e
          have hz : n - st.length = 0 := by
            cases hq : n - st.length with
            | zero => rfl
            | succ m => rw [hq] at e; simp at e
          rw [hz] at e
          simp at e
          subst e
          refine ⟨D, ?_, accv, eD, ra.imp fun _ _ => up _ _⟩
          show (T.l ++ [some D])[n]? = _
          rw [List.getElem?_append_right (by omega), hlen, hz]; rfl
      · intro n a e
        rcases old n a e with ⟨h1, e⟩ | ⟨h1, rfl⟩
        · obtain ⟨c, ec, d⟩ := k1.gone n a e
          exact ⟨c, by rw [List.getElem?_append_left (by omega)]; exact ec, d⟩
        · exact ⟨.lst acc, by rw [h1, hlen, List.getElem?_append_right (Nat.le_refl _)]; simp, rfl⟩
      · intro a ha
        obtain ⟨n, o, e, q⟩ := k1.hid a ha
        refine ⟨fun z => ?_, o, e, q⟩
        unfold Lv.add at z
        rcases List.mem_append.mp z with z | z
        · exact n z
        · simp at z; exact nT (.inr (by rw [← z]; exact ha))
      · rw [← hlen]; simp [Lv.add]
      · rcases old _ a e with ⟨h1, _⟩ | ⟨_, z⟩
        · rw [hlen] at h1; exact absurd h1 (Nat.lt_irrefl _)
        · rw [z]
  · exact h.elim
end
end Pz

set_option Elab.async false
set_option linter.all false
set_option maxRecDepth 100000
set_option maxHeartbeats 1000000
namespace Pz
open PySem L2
section
variable {K : PySem.W.Frag} {mg : Str → Option Value} {S S' S2 : Lv} {H H' H2 : Hp} {st st' : Sto}
theorem res_ok {α γ δ : Type} {rel' : Lv → Hp → δ → γ → Prop} {r : Res α} {f : α → Sto → Res γ} {Q : δ → Hp → Prop} (h : Out K mg rel' (r.bind f) S H Q) : ∃ a s1, r = .ok a s1 ∧ Out K mg rel' (f a s1) S H Q := by
  cases r with
  | ok a s1 => exact ⟨a, s1, rfl, h⟩
  | err => exact h.elim
  | bad => exact h.elim
/-- where a comprehension stands -/
structure LcAt (K : PySem.W.Frag) (mg : Str → Option Value) (D : Addr) (S0 : Lv) (H0 : Hp) (S : Lv) (st : Sto) (H : Hp) (acc : List Vl) (accv : List V) : Prop where
  trk : Trk K mg D (S0.hide D) (upd H0 D (.lst [])) S H
  ok : StOk K mg S st H
  at' : H D = some (.lst accv)
  rep : RepVs K mg S H accv acc
theorem LcAt.hD {D : Addr} {S0 : Lv} {H0 : Hp} {acc : List Vl} {accv : List V} (a : LcAt K mg D S0 H0 S st H acc accv) : D ∈ S.h := by rw [a.trk.h]; exact List.mem_cons_self
theorem LcAt.fin {mu : Bool} {D : Addr} {S0 : Lv} {H0 : Hp} {acc : List Vl} {accv : List V} {Q : VK} (a : LcAt K mg D S0 H0 S st H acc accv) (k0 : StOk K mg S0 st' H0) (h0 : H0 D = none) (h : OutV K mg (newL mu acc st) S0 H0 Q) : Q (.ref D) H :=
  lc_end k0 h0 a.trk.h (a.trk.st S0 H0 h0 (Step.new h0 k0)) a.ok a.at' a.rep h
theorem lc_ok {mu : Bool} {it : CI} {tg : CT} {ifs : CB} {elt : CE} {is vs : List Nat} (hs : ∀ i ∈ is, i ∈ vs) {σ : L2.St} {Q : VK} (h : tev K mg (cLc mu vs it tg ifs elt) σ H Q) :
    tLc (iev K mg it) (ttg K mg tg is) (tevB K mg ifs) (tev K mg elt) vs σ H Q := by
  obtain ⟨S, st, env, k, er, h⟩ := h
  refine ⟨S, st, env, k, er, (Out.bind (rel := relJ K mg) h).imp fun J H1 ⟨q, st1, S1, s1, k1, ⟨ws, xs0, rw0, f⟩, h1⟩ D hD => ?_⟩
  have k1h := k1.hide hD (lst_open (xs := []))
  have er1 := wipe_env ((er.step s1).hide (o := .lst []) hD) vs
  have rwh := rw0.hide (o := .lst []) hD
  have a0 : LcAt K mg D S1 H1 (S1.hide D) st1 (upd H1 D (.lst [])) [] [] := ⟨Trk.of Step.refl, k1h, upd_same, trivial⟩
  cases q with
  | it xs =>
    have h1 : OutV K mg ((lcP tg ifs elt (wipeE env vs) xs [] st1).bind fun ys s2 => newL mu ys s2) S1 H1 Q := h1
    obtain ⟨accF, stF, eF, h1⟩ := res_ok h1
    refine ⟨fun i m H => m = xs.length - i ∧ i ≤ xs.length ∧ ∃ S st acc accv, LcAt K mg D S1 H1 S st H acc accv ∧ lcP tg ifs elt (wipeE env vs) (xs.drop i) acc st = .ok accF stF,
      ⟨xs.length, rfl, Nat.zero_le _, _, _, _, _, a0, eF⟩, ?_⟩
    rintro i m H ⟨rfl, hi, S, st, acc, accv, a, e⟩
    obtain ⟨g1, g2, g3⟩ := f S st H a.ok (a.trk.rvs _ _ rwh)
    by_cases hlt : i < xs.length
    · refine .inr ⟨g1 i hlt, fun H' => xs.length - (i + 1) = xs.length - (i + 1) ∧ i + 1 ≤ xs.length ∧ ∃ S st acc accv, LcAt K mg D S1 H1 S st H' acc accv ∧ lcP tg ifs elt (wipeE env vs) (xs.drop (i + 1)) acc st = .ok accF stF,
        fun H' w => ⟨xs.length - (i + 1), by omega, w⟩, fun x H' y => ?_⟩
      obtain ⟨t, k', _, p, ep, rp⟩ := g3 i x H' hlt y
      rw [List.drop_eq_getElem_cons hlt] at e
      have ep' : xs[i] = p := by rw [List.getElem?_eq_getElem hlt] at ep; exact Option.some.inj ep
      rw [ep'] at e
      have e : (lcTurn tg ifs elt (wipeE env vs) (.p p) acc st).bind (fun acc1 s1 => lcP tg ifs elt (wipeE env vs) (xs.drop (i + 1)) acc1 s1) = .ok accF stF := e
      obtain ⟨acc1, t1, q1, e⟩ := Res.bind_ok e
      obtain ⟨hD', eD'⟩ := hid_there t a.ok a.hD a.at'
      refine lc_turn hs k' ((a.trk.env _ _ er1).step t) hD' eD' (RepVs.step t a.rep) (show RepV K mg S H' x (.p p) from rp) q1 fun S2 H2 accv2 tr k2 eD2 ra2 => ?_
      exact ⟨rfl, hlt, S2, t1, acc1, accv2, ⟨(a.trk.trans (Trk.of t)).trans tr, k2, eD2, ra2⟩, e⟩
    · have ei : i = xs.length := by omega
      subst ei
      rw [List.drop_length] at e
      have e : Res.ok acc st = .ok accF stF := e
      cases e
      exact .inl ⟨g2, a.fin k1 hD h1⟩
  | loc n =>
    have h1 : OutV K mg ((lcL n tg ifs elt (wipeE env vs) turns 0 [] st1).bind fun ys s2 => newL mu ys s2) S1 H1 Q := h1
    generalize turns = T at h1
    obtain ⟨accF, stF, eF, h1⟩ := res_ok h1
    refine ⟨fun i m H => ∃ S st acc accv, LcAt K mg D S1 H1 S st H acc accv ∧ lcL n tg ifs elt (wipeE env vs) m i acc st = .ok accF stF, ⟨T, _, _, _, _, a0, eF⟩, ?_⟩
    rintro i m H ⟨S, st, acc, accv, a, e⟩
    have g := f S st H a.ok (a.trk.rvs _ _ rwh)
    cases m with
    | zero => cases e
    | succ m =>
      unfold lcL at e
      split at e
      · rename_i ys ec
        obtain ⟨g1, g2, g3⟩ := g ys ec
        split at e
        · rename_i v ev
          have hlt : i < ys.length := by
            rcases Nat.lt_or_ge i ys.length with z | z
            · exact z
            · rw [List.getElem?_eq_none z] at ev; cases ev
          refine .inr ⟨g1 i hlt, fun H' => ∃ S st acc accv, LcAt K mg D S1 H1 S st H' acc accv ∧ lcL n tg ifs elt (wipeE env vs) m (i + 1) acc st = .ok accF stF,
            fun H' w => ⟨m, Nat.lt_succ_self _, w⟩, fun x H' y => ?_⟩
          obtain ⟨rfl, w, ew, rx⟩ := g3 i x H' hlt y
          rw [ev] at ew
          cases ew
          obtain ⟨acc1, t1, q1, e⟩ := Res.bind_ok e
          refine lc_turn hs a.ok (a.trk.env _ _ er1) a.hD a.at' a.rep rx q1 fun S2 H2 accv2 tr k2 eD2 ra2 => ?_
          exact ⟨S2, t1, acc1, accv2, ⟨a.trk.trans tr, k2, eD2, ra2⟩, e⟩
        · rename_i ev
          cases e
          have hge : ys.length ≤ i := by
            rcases Nat.lt_or_ge i ys.length with z | z
            · rw [List.getElem?_eq_getElem z] at ev; cases ev
            · exact z
          exact .inl ⟨g2 i hge, a.fin k1 hD h1⟩
      · cases e
/-! ### its block -/
theorem own_get {N : List Str} {scope : Scope} {x : Str} (h : x ∈ (ownOf N scope).map (·.1)) : ∃ k, (x, k) ∈ scope.names ∧ (k = .local ∨ k = .cell) := by
  obtain ⟨⟨y, i⟩, hm, rfl⟩ := List.mem_map.mp h
  unfold ownOf at hm
  obtain ⟨⟨z, k⟩, hz, e⟩ := List.mem_filterMap.mp hm
  cases k with
  | «local» =>
    obtain ⟨i', _, e⟩ := Option.map_eq_some_iff.mp e
    cases e
    exact ⟨_, hz, .inl rfl⟩
  | cell =>
    obtain ⟨i', _, e⟩ := Option.map_eq_some_iff.mp e
    cases e
    exact ⟨_, hz, .inr rfl⟩
  | _ => cases e
end
section
variable {X : Cx} {sx : Sx}
theorem blk_ok (c : Cok X sx) {scope : Scope} (hb : blkC sx.N sx.sc scope (ownOf sx.N scope) = true) (s : Shared) (H : Hp) (C : Addr) (cl : List (Str × Addr)) (fp : List Addr) : Cok (X.blk s H scope (compEnvC scope cl C X.env) fp) (sx.blk scope) := by
  have bo := blkOk_by hb
  refine ⟨c.calm, rfl, c.nm, c.nd, ?_, fun x hx => ?_, c.hu, c.hg⟩
  · show relS scope X.env.scope = relS scope sx.sc
    rw [c.sc]
  · have hx' : locB (relS scope sx.sc) x = true ∧ ((ownOf sx.N scope).map (·.1)).contains x = true := by
      have hx : (locB (relS scope sx.sc) x && ((ownOf sx.N scope).map (·.1)).contains x) = true := hx
      rwa [Bool.and_eq_true] at hx
    obtain ⟨k, hm, hk⟩ := own_get (List.contains_iff_mem.mp hx'.2)
    have hl := bo.uniq _ hm
    rcases hk with rfl | rfl
    · right
      show (relS scope X.env.scope).names.lookup x = some .local
      exact lookup_relS_keep (by decide) hl
    · left
      show (scope.names.lookup x == some .cell) = true
      rw [hl]; rfl
theorem gok_blk {G : Gl} {call : Caller} {k : Nat} (g : Gok X G call k) {scope : Scope} (s : Shared) (H : Hp) (e : PySem.Env) (fp : List Addr) : Gok (X.blk s H scope e fp) G call k := ⟨g.blt, g.const, g.defs, g.room, g.len⟩
theorem yes_ok : PTs X [] (tevB X.K X.mg bYes) := ⟨fun pins s σ H Q I h => pts_nil.run pins s σ H Q I (by
  obtain ⟨S, st, env, k, er, h⟩ := h
  exact Out.ok (a := true) h k rfl)⟩
theorem noSet_ok {it : Expr} (h : noSet it = true) : ∀ x, foldedSetIterable it X.env x = pure x := by
  intro x
  cases it <;> first | rfl | simp [noSet] at h
end
end Pz

set_option Elab.async false
set_option linter.all false
set_option maxRecDepth 100000
set_option maxHeartbeats 1000000
namespace Pz
open PySem L2
/-! ### calls of the module's defs -/
section
variable {X : Cx} {sx : Sx} {G : Gl} {call : Caller} {k : Nat}
theorem def_name {x : Str} {d : Df} (h : G.def? x = some d) : d.name = x := by
  unfold Gl.def? at h
  have q := List.find?_some (p := fun d : Df => decide (d.name = x)) h
  exact of_decide_eq_true q
theorem run_own {f : Addr} {fd : FuncData} {ps : List Str} {sp : List V → Hp → VK → Prop} (F : FnG X.prog X.w X.K X.mg X.base k f fd ps sp) (hr : Room k X.A) (hg : X.A.guards = some []) {pins : List (Addr × Obj)} {σ : L2.St} {H : Hp} {s : Shared} {Q : VK}
    {us : List Value} {kw : List (Str × Value)} {zs : List Value} {vs : List V} (I : Inv X pins σ H s) (hb : BindsTo s fd ⟨us, kw⟩ (ps.zip zs)) (r : Vals vs zs) (h : sp vs H Q) : wpAny (model X.prog X.w) X.A (PySem.call (.ref f) us kw) (EP X pins σ Q) X.xe s := by
  have run := F.run X.A X.stack s H ⟨us, kw⟩ zs vs Q hr hg I.env0 hb r h
  refine wpAny_call (codeAny_mono run ?_)
  intro out t ho
  match out, ho with
  | .error _, ho => exact False.elim ho
  | .ok (.ret _), ho => exact I.after ho
  | .ok .next, ho => exact False.elim ho
  | .ok .brk, ho => exact False.elim ho
  | .ok .cont, ho => exact False.elim ho
/-- what the callee asks -/
theorem sp_of (g : Gok X G call k) {x : Str} {d : Df} (hd : G.def? x = some d) {S : Lv} {st : Sto} {H : Hp} {Q : VK} {vs : List V} {as : List Vl} (kk : StOk X.K X.mg S st H) (r : RepVs X.K X.mg S H vs as) (h : OutV X.K X.mg (call x as st) S H Q) : spE X.K X.mg call d vs H Q := by
  by_cases hl : as.length = d.ps.length
  · exact ⟨r.length.trans hl, S, st, as, kk, r, by rw [def_name hd]; exact h⟩
  · rw [g.len x d as st hd hl] at h; exact h.elim
theorem vals_len {vs : List V} {us : List Value} (r : Vals vs us) : vs.length = us.length := r.length
theorem ev_own (c : Cok X sx) (g : Gok X G call k) {x : Str} {d : Df} (hd : G.def? x = some d) (hgl : glbB sx.sc x = true) {ev : Expr → CE} {es : List Expr} (ha : PAv X es (argsW ev es)) {p pos : Pos} : PEv X (.Call (.Name x p) es [] pos) (cCall call x (argsW ev es)) := by
  obtain ⟨f, fd, hm, hk, F, hb, _⟩ := g.defs x d hd
  refine ⟨fun pins s σ H Q I h => ?_⟩
  obtain ⟨S, st, env, kk, er, h0⟩ := h
  have h1 : tevA X.K X.mg (argsW ev es) σ H fun vs H1 => spE X.K X.mg call d vs H1 Q :=
    ⟨S, st, env, kk, er, (Out.bind (rel := RepVs X.K X.mg) h0).imp fun vs H1 ⟨a1, st1, S1, s1, k1, r1, h1⟩ => sp_of g hd k1 r1 h1⟩
  have hp := args_plain h1
  have go : ∀ (us : List Value) (s1 : Shared), AP X pins σ (fun vs H1 => spE X.K X.mg call d vs H1 Q) us s1 → wpAny (model X.prog X.w) X.A (PySem.call (.ref f) us) (EP X pins σ Q) X.xe s1 := fun us s1 ⟨vs, H1, I1, r1, q1⟩ => by
    have hl : (us ++ []).length = d.ps.length := by rw [List.append_nil, ← r1.length]; exact q1.1
    have hbb := hb s1 us I1.kIn hl
    rw [List.append_nil] at hbb
    exact run_own F g.room c.hg I1 hbb r1 q1
  refine wpAny_Call_Name_kw (ld_glob I (gl_of c hgl) hm ?_ (glb_ne hgl))
  cases es with
  | nil =>
    have h2 := h1
    obtain ⟨S, st, env, kk, er, h2⟩ := h2
    refine PySem.W.callWith_K0 I.kIn hk (go [] s ⟨[], H, I, .nil, Out.ok (b := []) h2 kk trivial⟩)
  | cons e r =>
    exact PySem.W.callWith_K (h₀ := X.base) I.ok.mod.kin hk (thn (ha.run pos pins s σ H _ I h1) fun us s1 q => ⟨q.choose_spec.choose_spec.1.kIn, go us s1 q⟩) (star_no (hp e List.mem_cons_self)) (star_any fun e' he => hp e' (List.mem_cons_of_mem _ he))
/-- the keywords -/
theorem kw_names : ∀ {kws : List Keyword} {ks : List Str} {pos : Pos} {env : PySem.Env}, kwNames kws = some ks → (backToKw pos (keywordEach kws env)).all (·.1.isSome) = true ∧ (backToKw pos (keywordEach kws env)).filterMap (·.1) = ks ∧
    (backToKw pos (keywordEach kws env)).any (·.1.isNone) = false ∧ ks.length = (kwArgs kws).length
  | [], ks, pos, env, h => by
    cases h
    exact ⟨rfl, rfl, rfl, rfl⟩
  | ⟨none, v, p⟩ :: r, ks, pos, env, h => by cases h
  | ⟨some n, v, p⟩ :: r, ks, pos, env, h => by
    obtain ⟨l, h1, rfl⟩ := Option.map_eq_some_iff.mp (show (kwNames r).map (n :: ·) = some ks from h)
    obtain ⟨a, b, c, d⟩ := kw_names (pos := pos) (env := env) h1
    have e : backToKw pos (keywordEach (⟨some n, v, p⟩ :: r) env) = (some n, do let u ← eval v env; standAt pos; pure u) :: backToKw pos (keywordEach r env) := rfl
    rw [e]
    refine ⟨?_, ?_, ?_, ?_⟩
    · rw [List.all_cons, a]; rfl
    · rw [List.filterMap_cons, b]
    · rw [List.any_cons, c]; rfl
    · show l.length + 1 = _; rw [d]; rfl
theorem kw_pk {ev : Expr → CE} (f : ∀ e, PEv X e (ev e)) : ∀ kws : List Keyword, PK X kws (tevA X.K X.mg (argsW ev (kwArgs kws)))
  | [] => ⟨fun pos pins s σ H Q I h => pk_nil.run pos pins s σ H Q I (by
      obtain ⟨S, st, env, kk, er, h⟩ := h
      exact Out.ok (b := []) h kk trivial)⟩
  | ⟨n, v, p⟩ :: r => by
    refine ⟨fun pos pins s σ H Q I h => (pk_cons (f v) (kw_pk f r)).run pos pins s σ H Q I ?_⟩
    obtain ⟨S, st, env, kk, er, h⟩ := h
    have h : OutA X.K X.mg ((if isStar v then (fun _ _ => .bad) else aCons (ev v) (argsW ev (kwArgs r))) env st) S H Q := h
    split at h
    · exact h.elim
    · refine ⟨S, st, env, kk, er, (Out.bind (rel := RepV X.K X.mg) h).imp fun x H1 ⟨a1, st1, S1, s1, k1, r1, h1⟩ => ?_⟩
      refine ⟨S1, st1, env, k1, er.step s1, (Out.bind (rel := RepVs X.K X.mg) h1).imp fun xs H2 ⟨as, st2, S2, s2, k2, r2, h2⟩ => ?_⟩
      exact Out.ok h2 k2 ⟨r1.step s2, r2⟩
theorem pick_vals {us : List Value} {vs : List V} (r : Vals vs us) : ∀ {ix : List Nat} {zs : List Value}, (ix.mapM fun i => us[i]?) = some zs → ∃ ws, (ix.mapM fun i => vs[i]?) = some ws ∧ Vals ws zs
  | [], zs, h => by
    cases (show some ([] : List Value) = some zs from h)
    exact ⟨[], rfl, .nil⟩
  | i :: ix, zs, h => by
    rw [List.mapM_cons] at h
    cases h1 : us[i]? with
    | none => rw [h1] at h; cases h
    | some u =>
      rw [h1] at h
      cases h2 : (ix.mapM fun i => us[i]?) with
      | none => rw [h2] at h; cases h
      | some zs' =>
        rw [h2] at h
        cases h
        obtain ⟨ws, e, q⟩ := pick_vals r h2
        have hi : i < vs.length := by
          rw [r.length]
          rcases Nat.lt_or_ge i us.length with z | z
          · exact z
          · rw [List.getElem?_eq_none z] at h1; cases h1
        obtain ⟨u', e2, r2⟩ := r.get (List.getElem?_eq_getElem hi)
        rw [h1] at e2
        cases e2
        refine ⟨vs[i] :: ws, ?_, .cons r2 q⟩
        rw [List.mapM_cons, List.getElem?_eq_getElem hi, e]; rfl
theorem pick_reps {K : PySem.W.Frag} {mg : Str → Option Value} {S : Lv} {H : Hp} {vs : List V} {as : List Vl} (r : RepVs K mg S H vs as) : ∀ {ix : List Nat} {zs : List V} {bs : List Vl}, (ix.mapM fun i => vs[i]?) = some zs → (ix.mapM fun i => as[i]?) = some bs → RepVs K mg S H zs bs
  | [], zs, bs, h, h' => by
    cases (show some ([] : List V) = some zs from h)
    cases (show some ([] : List Vl) = some bs from h')
    trivial
  | i :: ix, zs, bs, h, h' => by
    rw [List.mapM_cons] at h h'
    cases h1 : vs[i]? with
    | none => rw [h1] at h; cases h
    | some v =>
      cases h2 : as[i]? with
      | none => rw [h2] at h'; cases h'
      | some a =>
        rw [h1] at h
        rw [h2] at h'
        cases h3 : (ix.mapM fun i => vs[i]?) with
        | none => rw [h3] at h; cases h
        | some zs' =>
          cases h4 : (ix.mapM fun i => as[i]?) with
          | none => rw [h4] at h'; cases h'
          | some bs' =>
            rw [h3] at h
            rw [h4] at h'
            cases h
            cases h'
            obtain ⟨v', e, rv⟩ := All2.get r h2
            rw [h1] at e
            cases e
            exact ⟨rv, pick_reps r h3 h4⟩
theorem ev_ownK (c : Cok X sx) (g : Gok X G call k) {x : Str} {d : Df} (hd : G.def? x = some d) (hgl : glbB sx.sc x = true) {ev : Expr → CE} (fe : ∀ e, PEv X e (ev e)) {es : List Expr} {kws : List Keyword} {ks : List Str} {ix : List Nat} (hks : kwNames kws = some ks)
    (hix : kwIx d.ps es.length ks = some ix) (hp : es.length + ks.length = d.ps.length ∧ (es.length, ks) ∈ d.pats) {p pos : Pos} : PEv X (.Call (.Name x p) es kws pos) (cCallK call x ix (argsW ev es) (argsW ev (kwArgs kws))) := by
  obtain ⟨f, fd, hm, hk, F, _, hb⟩ := g.defs x d hd
  obtain ⟨n1, n2, n3, n4⟩ := kw_names (pos := pos) (env := X.env) hks
  refine ⟨fun pins s σ H Q I h => ?_⟩
  obtain ⟨S, st, env, kk, er, h0⟩ := h
  have h1 : tevA X.K X.mg (argsW ev es) σ H fun vs H1 => vs.length = es.length ∧ tevA X.K X.mg (argsW ev (kwArgs kws)) σ H1 fun ws H2 => ws.length = ks.length ∧ ∀ zs, (ix.mapM fun i => (vs ++ ws)[i]?) = some zs → spE X.K X.mg call d zs H2 Q := by
    have argl : ∀ (es : List Expr) (env : Env) (st st1 : Sto) (as : List Vl), argsW ev es env st = .ok as st1 → as.length = es.length := by
      intro es
      induction es with
      | nil => intro env st st1 as e; cases e; rfl
      | cons a r ih =>
        intro env st st1 as e
        unfold argsW at e
        split at e
        · cases e
        · obtain ⟨y, t1, _, e⟩ := Res.bind_ok e
          obtain ⟨ys, t2, e2, e⟩ := Res.bind_ok e
          cases e
          show ys.length + 1 = r.length + 1
          rw [ih _ _ _ _ e2]
    refine ⟨S, st, env, kk, er, (Out.bindE (rel := RepVs X.K X.mg) h0).imp fun vs H1 ⟨a1, st1, S1, e1, s1, k1, r1, h1⟩ => ?_⟩
    refine ⟨by rw [r1.length]; exact argl _ _ _ _ _ e1, S1, st1, env, k1, er.step s1, (Out.bindE (rel := RepVs X.K X.mg) h1).imp fun ws H2 ⟨b1, st2, S2, e2, s2, k2, r2, h2⟩ => ?_⟩
    refine ⟨by rw [r2.length, n4]; exact argl _ _ _ _ _ e2, fun zs ez => ?_⟩
    split at h2
    · rename_i bs eb
      exact sp_of g hd k2 (pick_reps (All2.append (RepVs.step s2 r1) r2) ez eb) h2
    · exact h2.elim
  have hpl := args_plain h1
  have fin : ∀ (us : List Value) (s1 : Shared) (vs : List V) (H1 : Hp), Inv X pins σ H1 s1 → Vals vs us → vs.length = es.length → tevA X.K X.mg (argsW ev (kwArgs kws)) σ H1 (fun ws H2 => ws.length = ks.length ∧ ∀ zs, (ix.mapM fun i => (vs ++ ws)[i]?) = some zs → spE X.K X.mg call d zs H2 Q) →
      wpAny (model X.prog X.w) X.A (evalAll ((backToKw pos (keywordEach kws X.env)).map (·.2))) (fun ws s2 => X.K.In s2.heap ∧ wpAny (model X.prog X.w) X.A (PySem.call (.ref f) us (((backToKw pos (keywordEach kws X.env)).filterMap (·.1)).zip ws)) (EP X pins σ Q) X.xe s2) X.xe s1 := fun us s1 vs H1 I1 r1 hl q1 => by
    refine thn ((kw_pk fe kws).run pos pins s1 σ H1 _ I1 q1) fun ws s2 ⟨zs, H2, I2, rz, hl2, q2⟩ => ⟨I2.kIn, ?_⟩
    rw [n2]
    obtain ⟨ys, ey, hbb⟩ := hb _ _ _ hp.2 hix s2 us ws I2.kIn (by rw [← r1.length]; exact hl) (by rw [← rz.length]; exact hl2)
    obtain ⟨xs, ex, rx⟩ := pick_vals (r1.append rz) ey
    exact run_own F g.room c.hg I2 hbb rx (q2 xs ex)
  refine wpAny_Call_Name_kw (ld_glob I (gl_of c hgl) hm ?_ (glb_ne hgl))
  cases es with
  | nil =>
    obtain ⟨S, st, env, kk, er, h2⟩ := h1
    obtain ⟨_, h2⟩ := Out.ok (b := []) h2 kk trivial
    exact PySem.W.callWith_KW0 (h₀ := X.base) I.ok.mod.kin hk n1 (fin [] s [] H I .nil rfl h2) (by rw [n3]; rfl)
  | cons e r =>
    refine PySem.W.callWith_KW (h₀ := X.base) I.ok.mod.kin hk n1 (thn ((ev_args fe (e :: r)).run pos pins s σ H _ I h1) fun us s1 ⟨vs, H1, I1, r1, hl, q1⟩ => fin us s1 vs H1 I1 r1 hl q1) ?_ (star_no (hpl e List.mem_cons_self))
    rw [n3, Bool.or_false]
    exact star_any hpl
end
end Pz

set_option Elab.async false
set_option linter.all false
set_option maxRecDepth 100000
set_option maxHeartbeats 1000000
namespace Pz
open PySem L2
section
variable {X : Cx} {sx : Sx} {G : Gl} {call : Caller} {k : Nat}
/-! ### built-ins by name -/
theorem biTab_ok : ∀ p ∈ biTab, bootBuiltins p.1 = some p.2.val ∧ p.1 ∈ bltNames ∧ p.1 ≠ "__name__" := by
  unfold biTab
  simp only [List.forall_mem_cons, List.not_mem_nil, false_implies, implies_true, and_true]
  refine ⟨⟨?_, ?_, ?_⟩, ⟨?_, ?_, ?_⟩, ⟨?_, ?_, ?_⟩, ⟨?_, ?_, ?_⟩, ⟨?_, ?_, ?_⟩, ⟨?_, ?_, ?_⟩, ⟨?_, ?_, ?_⟩, ⟨?_, ?_, ?_⟩, ⟨?_, ?_, ?_⟩, ⟨?_, ?_, ?_⟩, ⟨?_, ?_, ?_⟩, ⟨?_, ?_, ?_⟩, ⟨?_, ?_, ?_⟩, ⟨?_, ?_, ?_⟩⟩ <;> decide +kernel
theorem biOf_ok {x : Str} {b : Bi} (h : biOf x = some b) : bootBuiltins x = some b.val ∧ x ∈ bltNames ∧ x ≠ "__name__" := biTab_ok (x, b) (PySem.mem_of_lookup h)
theorem ev_bi (c : Cok X sx) (g : Gok X G call k) {x : Str} {b : Bi} (hb : biOf x = some b) (hgl : glbB sx.sc x = true) {mu : Bool} {ev : Expr → CE} {es : List Expr} (ha : PAv X es (argsW ev es)) {p pos : Pos} :
    PEv X (.Call (.Name x p) es [] pos) (cBi b mu (argsW ev es)) := by
  obtain ⟨b1, b2, b3⟩ := biOf_ok hb
  have q : ∀ σ H Q, tev X.K X.mg (cBi b mu (argsW ev es)) σ H Q → tCB (rVs X.K X.mg (biV b mu)) (tevA X.K X.mg (argsW ev es)) σ H Q := fun σ H Q h => tevA1 h
  have cr : CallR X b.val (rVs X.K X.mg (biV b mu)) := bi_q c.calm c.hu c.hg
  refine ⟨fun pins s σ H Q I h => ?_⟩
  have hp := args_plain (q σ H Q h)
  cases es with
  | nil =>
    obtain ⟨S, st, env, kk, er, h⟩ := h
    have h : OutV X.K X.mg (biV b mu [] st) S H Q := h
    cases b <;> exact h.elim
  | cons e r =>
    have hs := star_no (env := X.env) (es := r) (hp e List.mem_cons_self)
    have hpl := star_any (pos := pos) (env := X.env) fun e' he => hp e' (List.mem_cons_of_mem e he)
    cases b <;> first
      | exact (pe_callB cr (gl_of c hgl) (g.blt x b2) b1 ha b3 (glb_ne hgl) hs hpl).run pins s σ H Q I (q σ H Q h)
      | exact (pe_callTy cr (gl_of c hgl) (g.blt x b2) b1 ha b3 (glb_ne hgl) hs hpl).run pins s σ H Q I (q σ H Q h)
/-! ### isinstance(x, T) -/
theorem tyOf_ok {x : Str} {t : Ty} (h : tyOf x = some t) : bootBuiltins x = some (.type (tyName t)) ∧ x ∈ bltNames ∧ x ≠ "__name__" := by
  unfold tyOf at h
  repeat' split at h
  all_goals first
    | (rename_i e; cases h; subst e; exact ⟨by decide +kernel, by decide +kernel, by decide +kernel⟩)
    | cases h
theorem ev_isi (c : Cok X sx) (g : Gok X G call k) {f : Str} {args : List Expr} {q : Ty × Expr} (h : isiOf sx.sc f args = some q) (hgl : glbB sx.sc f = true) {ca : CE} (ha : PEv X q.2 ca) (hst : isStar q.2 = false) {p pos : Pos} :
    PEv X (.Call (.Name f p) args [] pos) (cIsi q.1 ca) := by
  unfold isiOf at h
  split at h
  · rename_i a x px
    split at h
    · rename_i hc
      obtain ⟨rfl, hx⟩ := hc
      obtain ⟨t, ht, rfl⟩ := Option.map_eq_some_iff.mp h
      obtain ⟨b1, b2, b3⟩ := tyOf_ok ht
      have pn : PE X (.Name x px) (tC (.ty (tyName t))) := pe_bltn (gl_of c hx) (g.blt x b2) b1 rfl b3 (glb_ne hx)
      refine PE.weak (pe_callB call_isi (gl_of c hgl) (g.blt _ (by decide +kernel)) PyProof.Rows.boot_isinstance (pa_cons ha (pa_cons pn pa_nil rfl) (star_no hst)) (by decide) (by decide) (star_no hst) rfl) fun σ H Q h => ?_
      obtain ⟨S, st, env, kk, er, h⟩ := h
      refine ⟨S, st, env, kk, er, (Out.bind (rel := RepV X.K X.mg) h).imp fun y H1 ⟨a1, st1, S1, s1, k1, r1, h1⟩ => ?_⟩
      obtain ⟨w, e, q⟩ := Out.ofO h1
      obtain ⟨d, e1, rfl⟩ := Option.map_eq_some_iff.mp e
      obtain ⟨T, tx, ki⟩ := tyIs_ok k1 r1 e1
      exact ⟨y, _, T, _, d, rfl, .ty _, tx, ki, q.ok k1 (mkBl S1 H1 d)⟩
    · cases h
  · cases h
/-! ### methods -/
theorem meOf_slot {x : Str} {m : Me} (h : meOf x = some m) : PySem.Slot "list" x m.id ∧ typeOf (.builtin m.id) = pure (.type "method_descriptor") ∧ (∀ mu, MtR X m.id (rMe X.K X.mg m mu)) := by
  unfold meOf at h
  repeat' split at h
  all_goals first
    | (rename_i e; cases h; subst e; exact ⟨by first | exact PySem.F.slot_list_append | exact PySem.F.slot_list_pop | exact PySem.F.slot_list_extend, by rfl, fun mu => by first | exact me_append | exact me_pop | exact me_extend⟩)
    | cases h
theorem noCall0_base {o : Expr} {m : Str} (h : noCall0 o = true) (env : PySem.Env) (w : Sem Value) : attributeBase o m env w = w := by
  unfold attributeBase
  split
  · simp [noCall0] at h
  · rfl
theorem argsW_plain {ev : Expr → CE} : ∀ {es : List Expr} {env : Env} {st st1 : Sto} {as : List Vl}, argsW ev es env st = .ok as st1 → ∀ e ∈ es, isStar e = false
  | [], _, _, _, _, _, e, he => by cases he
  | a :: r, env, st, st1, as, h, e, he => by
    unfold argsW at h
    split at h
    · cases h
    · rename_i hs
      obtain ⟨y, t1, _, h⟩ := Res.bind_ok h
      obtain ⟨ys, t2, e2, h⟩ := Res.bind_ok h
      rcases List.mem_cons.mp he with rfl | he
      · simpa using hs
      · exact argsW_plain e2 e he
theorem star_all {pos : Pos} {env : PySem.Env} : ∀ {es : List Expr}, (∀ e ∈ es, isStar e = false) → (backTo pos (starEach es env)).all (fun x => !x.1) = true
  | [], _ => rfl
  | e :: es, h => by
    rw [star_no (h e List.mem_cons_self)]
    show (true && (backTo pos (starEach es env)).all (fun x => !x.1)) = true
    rw [star_all fun e' he => h e' (List.mem_cons_of_mem _ he)]; rfl
theorem ev_me (c : Cok X sx) {x : Str} {m : Me} (hm : meOf x = some m) {mu : Bool} {o : Expr} {co : CE} (ho : PEv X o co) {ev : Expr → CE} {es : List Expr} (ha : PAv X es (argsW ev es)) {ap pos : Pos} (hl : (ap.endLine == pos.line) = true) (hn : es.length < 9) (h0 : noCall0 o = true) :
    PEv X (.Call (.Attribute o x ap) es [] pos) (cMe m mu co (argsW ev es)) := by
  obtain ⟨m1, m2, m3⟩ := meOf_slot (X := X) hm
  have q : ∀ σ H Q, tev X.K X.mg (cMe m mu co (argsW ev es)) σ H Q → tBM X.K "list" (rMe X.K X.mg m mu) (tev X.K X.mg co) (tevA X.K X.mg (argsW ev es)) σ H Q := fun σ H Q h => by
    obtain ⟨S, st, env, kk, er, h⟩ := h
    refine ⟨S, st, env, kk, er, (Out.bind (rel := RepV X.K X.mg) h).imp fun y H1 ⟨a1, st1, S1, s1, k1, r1, h1⟩ => ?_⟩
    split at h1
    · rename_i hL
      obtain ⟨xs, ex⟩ := Option.isSome_iff_exists.mp hL
      obtain ⟨a, vs, rfl, ha', _⟩ := listOf_ok k1 r1 ex
      refine ⟨.inl ⟨rfl, vs, SqL.of ha'⟩, S1, st1, env, k1, er.step s1, (Out.bind (rel := RepVs X.K X.mg) h1).imp fun ys H2 ⟨b1, st2, S2, s2, k2, r2, h2⟩ => ?_⟩
      exact ⟨S2, st2, a1, b1, k2, r1.step s2, r2, h2⟩
    · exact h1.elim
  refine ⟨fun pins s σ H Q I h => ?_⟩
  have h' := q σ H Q h
  have hp : ∀ e ∈ es, isStar e = false := by
    obtain ⟨S, st, env, kk, er, h⟩ := h
    obtain ⟨x1, t1, e1, h⟩ := res_ok h
    split at h
    · obtain ⟨x2, t2, e2, h⟩ := res_ok h
      exact argsW_plain e2
    · exact h.elim
  cases es with
  | nil =>
    refine (pe_bm0 PySem.F.plainAttrs_list m1 m2 (m3 mu) ho (noCall0_base h0 _ _) hl).run pins s σ H Q I ?_
    obtain ⟨S, st, env, kk, er, h1⟩ := h'
    refine ⟨S, st, env, kk, er, h1.imp fun y H1 ⟨t, S1, st1, env1, k1, er1, h2⟩ => ⟨t, ?_⟩⟩
    exact Out.ok (b := []) h2 k1 trivial
  | cons e r =>
    refine (pe_bm PySem.F.plainAttrs_list m1 m2 (m3 mu) ho ha (noCall0_base h0 _ _) ?_ hl (star_no (hp e List.mem_cons_self)) (star_any fun e' he => hp e' (List.mem_cons_of_mem _ he))).run pins s σ H Q I h'
    rw [star_all hp]
    have hz : (e :: r).length + ([] : List Keyword).length + (if ([] : List Keyword).isEmpty then 0 else 1) < 30 := by
      show (e :: r).length + 0 + 0 < 30
      omega
    rw [decide_eq_true hz]; rfl
end
end Pz

set_option Elab.async false
set_option linter.all false
set_option maxRecDepth 100000
set_option maxHeartbeats 1000000
namespace Pz
open PySem L2
section
variable {X : Cx} {sx : Sx} {G : Gl} {call : Caller} {k : Nat}
/-! ### tuples and lists, written -/
theorem ev_tup {ev : Expr → CE} {es : List Expr} (ha : PAv X es (argsW ev es)) {kk : Nat} {p : Pos} : PEv X (.Tuple es kk p) (cTup (argsW ev es)) := by
  refine PE.weak (pe_tup ha) fun σ H Q h => ?_
  obtain ⟨S, st, env, k, er, h⟩ := h
  refine ⟨S, st, env, k, er, (Out.bind (rel := RepVs X.K X.mg) h).imp fun xs H1 ⟨as, st1, S1, s1, k1, r1, h1⟩ => out_newT k1 r1 h1⟩
theorem ev_lst {ev : Expr → CE} {es : List Expr} (ha : PAv X es (argsW ev es)) {mu : Bool} {p : Pos} : PEv X (.List es p) (cLst mu (argsW ev es)) := by
  refine PE.weak (pe_lst ha) fun σ H Q h => ?_
  obtain ⟨S, st, env, k, er, h⟩ := h
  refine ⟨S, st, env, k, er, (Out.bind (rel := RepVs X.K X.mg) h).imp fun xs H1 ⟨as, st1, S1, s1, k1, r1, h1⟩ => out_newL k1 r1 h1⟩
/-! ### operators -/
theorem ev_bin {op : Operator} {mu : Bool} {a b : Expr} {ca cb : CE} (ha : PEv X a ca) (hb : PEv X b cb) {p : Pos} : PEv X (.BinOp a op b p) (cBin op mu ca cb) :=
  PE.weak (pe_op op_bin ha hb) fun _ _ _ h => tev2 h
theorem ev_neg {a : Expr} {ca : CE} (ha : PEv X a ca) {p : Pos} : PEv X (.UnaryOp .USub a p) (cNeg ca) := by
  refine PE.weak (pe_un un_neg ha) fun σ H Q h => ?_
  obtain ⟨S, st, env, k, er, h⟩ := h
  refine ⟨S, st, env, k, er, (Out.bind (rel := RepV X.K X.mg) h).imp fun x H1 ⟨a1, st1, S1, s1, k1, r1, h1⟩ => ?_⟩
  cases a1 with
  | loc n => exact h1.elim
  | p p =>
    cases p with
    | int i =>
      cases rep_int r1
      exact ⟨i, rfl, Out.ok h1 k1 (mkInt S1 H1 _)⟩
    | _ => exact h1.elim
/-! ### subscripts -/
theorem plain_ix {b : Expr} (h : ∀ lo hi q p, b ≠ .Slice lo hi q p) : PlainIx b := fun o i => by
  cases b <;> first | rfl | exact absurd rfl (h _ _ _ _)
theorem ev_ix (c : Cok X sx) {a b : Expr} {ca cb : CE} (ha : PEv X a ca) (hb : PEv X b cb) (hs : PlainIx b) {p : Pos} : PEv X (.Subscript a b p) (cIx ca cb) :=
  PE.weak (pe_ix (ix_q (by have := c.hu; omega)) ha hb hs) fun _ _ _ h => tev2 h
def relO : Lv → Hp → Option Int → Option Int → Prop := fun _ _ b a => b = a
def tevO (K : PySem.W.Frag) (mg : Str → Option Value) (r : Env → Sto → Res (Option Int)) : TO := fun σ H Q => ∃ S st env, StOk K mg S st H ∧ EnvR (K := K) (mg := mg) S H σ env ∧ Out K mg relO (r env st) S H Q
theorem ev_part {ev : Expr → CE} (f : ∀ e, PEv X e (ev e)) (lo : Option Expr) : PO X lo (tevO X.K X.mg (match lo with | some x => oSome (ev x) | none => oNone)) := by
  cases lo with
  | none =>
    refine ⟨fun pins s σ H Q I h => po_none.run pins s σ H Q I ?_⟩
    obtain ⟨S, st, env, k, er, h⟩ := h
    exact Out.ok (a := none) (b := none) h k rfl
  | some x =>
    refine ⟨fun pins s σ H Q I h => (po_some (f x)).run pins s σ H Q I ?_⟩
    obtain ⟨S, st, env, k, er, h⟩ := h
    refine ⟨S, st, env, k, er, (Out.bind (rel := RepV X.K X.mg) h).imp fun y H1 ⟨a1, st1, S1, s1, k1, r1, h1⟩ => ?_⟩
    cases a1 with
    | loc n => exact h1.elim
    | p p =>
      cases p with
      | int i =>
        cases rep_int r1
        exact ⟨i, rfl, Out.ok (a := some i) (b := some i) h1 k1 rfl⟩
      | _ => exact h1.elim
theorem ev_sl {ev : Expr → CE} (f : ∀ e, PEv X e (ev e)) {a : Expr} {lo hi : Option Expr} {mu : Bool} {p p2 : Pos} :
    PEv X (.Subscript a (.Slice lo hi none p2) p) (cSl mu (ev a) (match lo with | some x => oSome (ev x) | none => oNone) (match hi with | some x => oSome (ev x) | none => oNone)) := by
  refine PE.weak (pe_slice (sl_q (mu := mu)) (f a) (ev_part f lo) (ev_part f hi)) fun σ H Q h => ?_
  obtain ⟨S, st, env, k, er, h⟩ := h
  refine ⟨S, st, env, k, er, (Out.bind (rel := RepV X.K X.mg) h).imp fun x H1 ⟨a1, st1, S1, s1, k1, r1, h1⟩ => ?_⟩
  refine ⟨S1, st1, env, k1, er.step s1, (Out.bind (rel := relO) h1).imp fun l H2 ⟨b1, st2, S2, s2, k2, r2, h2⟩ => ?_⟩
  refine ⟨S2, st2, env, k2, (er.step s1).step s2, (Out.bind (rel := relO) h2).imp fun u H3 ⟨c1, st3, S3, s3, k3, r3, h3⟩ => ?_⟩
  cases r2
  cases r3
  exact ⟨S3, st3, a1, k3, (r1.step s2).step s3, h3⟩
theorem ev_rev {a : Expr} {ca : CE} (ha : PEv X a ca) {mu : Bool} {kk : Nat} {p1 p2 p3 p : Pos} : PEv X (.Subscript a (.Slice none none (some (.UnaryOp .USub (.Constant (.int 1) kk p1) p2)) p3) p) (cRev mu ca) := by
  refine PE.weak (pe_revL ha) fun σ H Q h => ?_
  obtain ⟨S, st, env, k, er, h⟩ := h
  refine ⟨S, st, env, k, er, (Out.bind (rel := RepV X.K X.mg) h).imp fun x H1 ⟨a1, st1, S1, s1, k1, r1, h1⟩ => ?_⟩
  unfold revV at h1
  split at h1
  · rename_i xs e
    obtain ⟨b, vs, rfl, hq, rv⟩ := listOf_ok k1 r1 e
    exact ⟨b, vs, rfl, SqL.of hq, (out_newL k1 (All2.reverse rv) h1).2⟩
  · exact h1.elim
/-! ### list(range(..)), tuple(range(..)) -/
def kRg (K : PySem.W.Frag) (mg : Str → Option Value) (r : CI) (f : Itr → Sto → Res Vl) : L2.St → Hp → (Int → Int → Hp → Prop) → Prop := fun σ H Q => ∃ S st env, StOk K mg S st H ∧ EnvR (K := K) (mg := mg) S H σ env ∧
  Out K mg (fun _ _ (b : Int × Int) a => a = .it (rgP b.1 (b.2 - b.1).toNat) ∧ -(2 ^ 62) ≤ b.1 ∧ b.1 < 2 ^ 62 ∧ -(2 ^ 62) ≤ b.2 ∧ b.2 < 2 ^ 62) (r env st) S H fun b H1 => Q b.1 b.2 H1
theorem prg_of {ev : Expr → CE} (f : ∀ e, PEv X e (ev e)) (hb : ∀ a, isStar a = true → ev a = cBad) (c : Cok X sx) (hm : X.mg "range" = none) {as : List Expr} {p pos : Pos} (hg : glbB sx.sc "range" = true) :
    PRg X (.Call (.Name "range" p) as [] pos) (kRg X.K X.mg (rgW ev as) fun _ _ => .bad) := by
  intro pins s σ H Q I h
  obtain ⟨S, st, env, k, er, h⟩ := h
  match as, h with
  | [], h => exact h.elim
  | [a], h =>
    by_cases hs : isStar a = true
    · have h : Out X.K X.mg _ (iRg1 (ev a) env st) S H _ := h
      rw [hb a hs] at h; exact h.elim
    · refine prg_1 (gl_of c hg) hm (f a) (star_no (by simpa using hs)) pins s σ H Q I ⟨S, st, env, k, er, (Out.bind (rel := RepV X.K X.mg) h).imp fun x H1 ⟨a1, st1, S1, s1, k1, r1, h1⟩ => ?_⟩
      cases a1 with
      | loc n => exact h1.elim
      | p p =>
        cases p with
        | int j =>
          cases rep_int r1
          have h1 : Out (α := Itr) X.K X.mg _ (if rgB j then .ok (.it (rgP 0 j.toNat)) st1 else .bad) S1 H1 _ := h1
          split at h1
          · rename_i hb
            obtain ⟨b1, b2⟩ := rgB_ok hb
            exact ⟨j, rfl, Out.ok (b := ((0 : Int), j)) h1 k1 ⟨by simp, by simp, by simp, b1, b2⟩⟩
          · exact h1.elim
        | _ => exact h1.elim
  | [a, b], h =>
    by_cases hs : isStar a = true
    · have h : Out X.K X.mg _ (iRg2 (ev a) (ev b) env st) S H _ := h
      rw [hb a hs] at h; exact h.elim
    · by_cases hs2 : isStar b = true
      · have h : Out X.K X.mg _ (iRg2 (ev a) (ev b) env st) S H _ := h
        rw [hb b hs2] at h
        unfold iRg2 at h
        cases q : ev a env st <;> rw [q] at h <;> exact h.elim
      · have hs := (show isStar a = false by simpa using hs)
        have hs2 := (show isStar b = false by simpa using hs2)
        refine prg_2 (gl_of c hg) hm (f a) (f b) (star_no hs) (star_no hs2) (star_any fun e he => by cases List.mem_singleton.mp he; exact hs2) pins s σ H Q I ⟨S, st, env, k, er, (Out.bind (rel := RepV X.K X.mg) h).imp fun x H1 ⟨a1, st1, S1, s1, k1, r1, h1⟩ => ?_⟩
        refine ⟨S1, st1, env, k1, er.step s1, (Out.bind (rel := RepV X.K X.mg) h1).imp fun y H2 ⟨b1, st2, S2, s2, k2, r2, h2⟩ => ?_⟩
        cases a1 with
        | loc n => exact h2.elim
        | p p =>
          cases p with
          | int i =>
            cases b1 with
            | loc n => exact h2.elim
            | p p =>
              cases p with
              | int j =>
                cases rep_int r1
                cases rep_int r2
                have h2 : Out (α := Itr) X.K X.mg _ (if rgB i && rgB j then .ok (.it (rgP i (j - i).toNat)) st2 else .bad) S2 H2 _ := h2
                split at h2
                · rename_i hb
                  rw [Bool.and_eq_true] at hb
                  obtain ⟨b1, b2⟩ := rgB_ok hb.1
                  obtain ⟨b3, b4⟩ := rgB_ok hb.2
                  exact ⟨i, j, rfl, rfl, Out.ok (b := (i, j)) h2 k2 ⟨rfl, b1, b2, b3, b4⟩⟩
                · exact h2.elim
              | _ => exact h2.elim
          | _ => exact h2.elim
  | _ :: _ :: _ :: _, h => exact h.elim
theorem rg_rep {K : PySem.W.Frag} {mg : Str → Option Value} {L : Addr → Prop} {H : Hp} (a b : Int) : RepPs K mg L H (rgV a b) (rgP a (b - a).toNat) := by
  unfold rgV rgP
  refine repPs_of ?_
  generalize List.range (b - a).toNat = l
  induction l with
  | nil => trivial
  | cons i r ih => exact ⟨by show RepP K mg L H (V.int _) (.int _); simp only [RepP], ih⟩
theorem ev_lrg {ev : Expr → CE} (f : ∀ e, PEv X e (ev e)) (hb : ∀ a, isStar a = true → ev a = cBad) (c : Cok X sx) (g : Gok X G call k) {as : List Expr} {mu : Bool} {p p2 pos pos2 : Pos} (hg : glbB sx.sc "range" = true) (hl : glbB sx.sc "list" = true) :
    PEv X (.Call (.Name "list" p2) [.Call (.Name "range" p) as [] pos] [] pos2) (cLRg mu (rgW ev as)) := by
  refine PE.weak (pe_listRg c.calm (gl_of c hl) (g.blt _ (by decide +kernel)) (prg_of f hb c (g.blt _ (by decide +kernel)) hg) rfl) fun σ H Q h => ?_
  obtain ⟨S, st, env, k, er, h⟩ := h
  refine ⟨S, st, env, k, er, (Out.bind h).imp fun b H1 ⟨q, st1, S1, s1, k1, ⟨e, b1, b2, b3, b4⟩, h1⟩ => ?_⟩
  subst e
  have h1 : OutV X.K X.mg (if (rgP b.1 (b.2 - b.1).toNat).length ≤ 2 ^ 24 then newL mu ((rgP b.1 (b.2 - b.1).toNat).map .p) st1 else .bad) S1 H1 Q := h1
  split at h1
  · rename_i hz
    rw [rg_len] at hz
    exact ⟨⟨b1, b2, b3, b4, hz⟩, (out_newL k1 (repVs_p (rg_rep b.1 b.2)) h1).2⟩
  · exact h1.elim
theorem ev_trg {ev : Expr → CE} (f : ∀ e, PEv X e (ev e)) (hb : ∀ a, isStar a = true → ev a = cBad) (c : Cok X sx) (g : Gok X G call k) {as : List Expr} {p p2 pos pos2 : Pos} (hg : glbB sx.sc "range" = true) (hl : glbB sx.sc "tuple" = true) :
    PEv X (.Call (.Name "tuple" p2) [.Call (.Name "range" p) as [] pos] [] pos2) (cTRg (rgW ev as)) := by
  refine PE.weak (pe_tupRg c.calm (gl_of c hl) (g.blt _ (by decide +kernel)) (prg_of f hb c (g.blt _ (by decide +kernel)) hg) rfl) fun σ H Q h => ?_
  obtain ⟨S, st, env, k, er, h⟩ := h
  refine ⟨S, st, env, k, er, (Out.bind h).imp fun b H1 ⟨q, st1, S1, s1, k1, ⟨e, b1, b2, b3, b4⟩, h1⟩ => ?_⟩
  subst e
  have h1 : OutV X.K X.mg (if (rgP b.1 (b.2 - b.1).toNat).length ≤ 2 ^ 24 then .ok (.p (.tup (rgP b.1 (b.2 - b.1).toNat))) st1 else .bad) S1 H1 Q := h1
  split at h1
  · rename_i hz
    rw [rg_len] at hz
    refine ⟨⟨b1, b2, b3, b4, hz⟩, fun q hq => ?_⟩
    have s := Step.new (o := .tup (rgV b.1 b.2)) hq k1
    exact h1 S1 _ (.ref q) s (k1.new hq) (mkTup (SqT.of upd_same) (.inr upd_same) (rg_rep b.1 b.2))
  · exact h1.elim
end
end Pz

set_option Elab.async false
set_option linter.all false
set_option maxRecDepth 100000
set_option maxHeartbeats 1000000
namespace Pz
open PySem L2
section
variable {K : PySem.W.Frag} {mg : Str → Option Value} {S S' S2 : Lv} {H H' H2 : Hp} {st st' : Sto}
/-- what was built at D becomes a cell -/
theorem built_loc {D : Addr} {S0 : Lv} {H0 : Hp} {c : Cell} (k0 : StOk K mg S0 st' H0) (h0 : H0 D = none) (hh : S.h = D :: S0.h) (s : Step S0 H0 ⟨S.l, S0.h⟩ H) (k : StOk K mg S st H) (hc : CellOk K mg S H D c) (hd : c.isDead = false) :
    ∃ S1, Step S0 H0 S1 H ∧ StOk K mg S1 (st ++ [c]) H ∧ RepV K mg S1 H (.ref D) (.loc st.length) := by
  have hS : S = Lv.hide ⟨S.l, S0.h⟩ D := by
    obtain ⟨l, h'⟩ := S
    have hh : h' = D :: S0.h := hh
    subst hh; rfl
  have nl : some D ∉ S.l := (k.hid D (by rw [hh]; exact List.mem_cons_self)).1
  have nh : D ∉ S0.h := fun z => by
    obtain ⟨_, o, e, _⟩ := k0.hid D z
    rw [h0] at e; cases e
  rw [hS] at k hc
  generalize hT : (⟨S.l, S0.h⟩ : Lv) = T at s k hc
  have nT : ¬ inS T D := by
    rw [← hT]
    exact fun z => z.elim nl nh
  have k1 := k.shown
  have nTl : some D ∉ T.l := fun z => nT (.inl z)
  have old : ∀ (n : Nat) (a : Addr), (T.l ++ [some D])[n]? = some (some a) → (n < T.l.length ∧ T.l[n]? = some (some a)) ∨ (n = T.l.length ∧ a = D) := fun n a e => by
    by_cases hn : n < T.l.length
    · rw [List.getElem?_append_left hn] at e; exact .inl ⟨hn, e⟩
    · rw [List.getElem?_append_right (by omega)] at e
      have hz : n - T.l.length = 0 := by
        cases hq : n - T.l.length with
        | zero => rfl
        | succ m => rw [hq] at e; simp at e
      rw [hz] at e
      simp at e
      exact .inr ⟨by omega, e.symm⟩
  have up : ∀ (x : Vl) (w : V), RepV K mg (T.hide D) H w x → RepV K mg (T.add D) H w x := fun x w r => by
    cases x with
    | p p =>
      refine RepP.less (fun a z => ?_) p w r
      rcases z with z | z
      · unfold Lv.add at z
        rcases List.mem_append.mp z with z | z
        · exact .inl z
        · simp at z; exact .inr (by rw [z]; exact List.mem_cons_self)
      · exact .inr (List.mem_cons_of_mem _ z)
    | loc n =>
      obtain ⟨hn, f⟩ := r
      refine ⟨by unfold Lv.add; rw [List.length_append]; exact Nat.lt_of_lt_of_le hn (Nat.le_add_right _ _), fun a e => ?_⟩
      rcases old n a e with ⟨_, e⟩ | ⟨e, _⟩
      · exact f a e
      · exact absurd hn (by rw [e]; exact Nat.lt_irrefl _)
  have upC : ∀ (a : Addr) (c : Cell), CellOk K mg (T.hide D) H a c → CellOk K mg (T.add D) H a c := fun a c q => by
    cases c with
    | dead => trivial
    | lst => obtain ⟨xs, e1, r⟩ := q; exact ⟨xs, e1, r.imp fun _ _ => up _ _⟩
    | dic => obtain ⟨xs, e1, z, r⟩ := q; exact ⟨xs, e1, z, r.imp fun _ _ => up _ _⟩
    | dit => obtain ⟨xs, e1, z, r⟩ := q; exact ⟨xs, e1, z, r.imp fun _ _ => up _ _⟩
    | obj => obtain ⟨C, dx, fs, e1, m, z, r⟩ := q; exact ⟨C, dx, fs, e1, m, z, r.imp fun _ _ => up _ _⟩
  have hlen : T.l.length = st.length := k1.len
  refine ⟨T.add D, ?_, ⟨?_, ?_, ?_, ?_, ?_⟩, ?_, fun a e => ?_⟩
  · refine ⟨?_, fun n a hn e => ?_, fun a o e n => ?_, s.hid, s.tup, s.frz⟩
    · unfold Lv.add; rw [List.length_append]; exact Nat.le_trans s.len (Nat.le_add_right _ _)
    · rcases old n a e with ⟨_, e⟩ | ⟨e, _⟩
      · exact s.live n a hn e
      · exact absurd (Nat.lt_of_lt_of_le hn s.len) (by rw [e]; exact Nat.lt_irrefl _)
    · refine ⟨(s.keep a o e n).1, fun z => ?_⟩
      unfold Lv.add at z
      rcases List.mem_append.mp z with z | z
      · exact (s.keep a o e n).2 z
      · simp at z
        rw [z, h0] at e; cases e
  · simp [Lv.add, hlen]
  · intro n m a e1 e2
    rcases old n a e1 with ⟨h1, f1⟩ | ⟨h1, z1⟩ <;> rcases old m a e2 with ⟨h2, f2⟩ | ⟨h2, z2⟩
    · exact k1.inj n m a f1 f2
    · subst z2; exact absurd (List.mem_of_getElem? f1) nTl
    · subst z1; exact absurd (List.mem_of_getElem? f2) nTl
    · omega
  · intro n c2 e d
    by_cases hn : n < st.length
    · rw [List.getElem?_append_left hn] at e
      obtain ⟨a, ea, ok⟩ := k.cell n c2 e d
      refine ⟨a, ?_, upC a c2 ok⟩
      show (T.l ++ [some D])[n]? = _
      rw [List.getElem?_append_left (by rw [hlen]; exact hn)]
      exact ea
    · rw [List.getElem?_append_right (by omega)] at e
      have hz : n - st.length = 0 := by
        cases hq : n - st.length with
        | zero => rfl
        | succ m => rw [hq] at e; simp at e
      rw [hz] at e
      simp at e
      subst e
      refine ⟨D, ?_, upC D _ hc⟩
      show (T.l ++ [some D])[n]? = _
      rw [List.getElem?_append_right (by omega), hlen, hz]; rfl
  · intro n a e
    rcases old n a e with ⟨h1, e⟩ | ⟨h1, rfl⟩
    · obtain ⟨c2, ec, d⟩ := k1.gone n a e
      exact ⟨c2, by rw [List.getElem?_append_left (by omega)]; exact ec, d⟩
    · exact ⟨c, by rw [h1, hlen, List.getElem?_append_right (Nat.le_refl _)]; simp, hd⟩
  · intro a ha
    obtain ⟨n, o, e, q⟩ := k1.hid a ha
    refine ⟨fun z => ?_, o, e, q⟩
    unfold Lv.add at z
    rcases List.mem_append.mp z with z | z
    · exact n z
    · simp at z; exact nT (.inr (by rw [← z]; exact ha))
  · rw [← hlen]; simp [Lv.add]
  · rcases old _ a e with ⟨h1, _⟩ | ⟨_, z⟩
    · rw [hlen] at h1; exact absurd h1 (Nat.lt_irrefl _)
    · rw [z]
/-- what was built at D becomes a value: its parts are pure -/
theorem built_pure {D : Addr} {S0 : Lv} {H0 : Hp} {vs : List Vl} {ws : List V} {ps : List P} (k0 : StOk K mg S0 st' H0) (h0 : H0 D = none) (hh : S.h = D :: S0.h) (s : Step S0 H0 ⟨S.l, S0.h⟩ H) (k : StOk K mg S st H) (r : RepVs K mg S H ws vs)
    {s1 : Sto} (e : frzs deep st vs = some (ps, s1)) {o : HO} (eD : H D = some o) : ∃ S1, Step S0 H0 S1 H ∧ StOk K mg S1 s1 H ∧ ¬ inS S1 D ∧ RepPs K mg (inS S1) H ws ps := by
  have hS : S = Lv.hide ⟨S.l, S0.h⟩ D := by
    obtain ⟨l, h'⟩ := S
    have hh : h' = D :: S0.h := hh
    subst hh; rfl
  have nl : some D ∉ S.l := (k.hid D (by rw [hh]; exact List.mem_cons_self)).1
  have nh : D ∉ S0.h := fun z => by
    obtain ⟨_, o, e, _⟩ := k0.hid D z
    rw [h0] at e; cases e
  rw [hS] at k r
  generalize hT : (⟨S.l, S0.h⟩ : Lv) = T at s k r
  have nT : ¬ inS T D := by
    rw [← hT]
    exact fun z => z.elim nl nh
  obtain ⟨S1, t, k2, p⟩ := frzs_ok deep st T vs ws ps s1 k.shown (r.imp fun _ _ => RepV.shown) e
  exact ⟨S1, s.trans t, k2, (t.pure eD nT).2, p⟩
/-! ### dict displays -/
theorem merge_new : ∀ (more kvs : List (Key × V)), (kvs ++ more).map (·.1) |>.Nodup → mergeK kvs more = kvs ++ more
  | [], kvs, _ => by show kvs = _; rw [List.append_nil]
  | (k, v) :: r, kvs, h => by
    have hn : valV kvs k = none := by
      have hk : k ∉ kvs.map (·.1) := by
        rw [List.map_append, List.map_cons] at h
        intro z
        exact (List.nodup_append.mp h).2.2 k z k List.mem_cons_self rfl
      clear h
      induction kvs with
      | nil => rfl
      | cons q qs ih =>
        obtain ⟨a, b⟩ := q
        rw [List.map_cons, List.mem_cons, not_or] at hk
        have := ih hk.2
        unfold valV at this ⊢
        simpa [List.find?_cons, show ¬ a = k from fun z => hk.1 z.symm] using this
    show mergeK (putK kvs k v) r = _
    rw [putK_new v hn, merge_new r (kvs ++ [(k, v)]) (by rw [List.append_assoc]; exact h), List.append_assoc]
    rfl
def trs (K : PySem.W.Frag) (mg : Str → Option Value) (ev : Expr → CE) : List Key → List Expr → List (TE × TE)
  | k :: ks, v :: vs => (tC (kV k), tev K mg (ev v)) :: trs K mg ev ks vs
  | _, _ => []
theorem pairs_ok {ev : Expr → CE} {σ : L2.St} {env : Env} : ∀ {kl : List Key} {vs : List Expr} {S : Lv} {st st1 : Sto} {H : Hp} {xs : List Vl} {Q : List (V × V) → Hp → Prop}, kl.length = vs.length → StOk K mg S st H → EnvR (K := K) (mg := mg) S H σ env → argsW ev vs env st = .ok xs st1 →
    (∀ S' H' ws, Step S H S' H' → StOk K mg S' st1 H' → RepVs K mg S' H' ws xs → Q ((kl.zip ws).map fun kv => (kV kv.1, kv.2)) H') → tPairs (trs K mg ev kl vs) σ H Q
  | [], [], S, st, st1, H, xs, Q, _, k, er, e, f => by
    cases e
    exact f S H [] Step.refl k trivial
  | [], _ :: _, _, _, _, _, _, _, h, _, _, _, _ => by cases h
  | _ :: _, [], _, _, _, _, _, _, h, _, _, _, _ => by cases h
  | a :: kl, v :: vs, S, st, st1, H, xs, Q, hl, k, er, e, f => by
    unfold argsW at e
    split at e
    · cases e
    · obtain ⟨y, t1, e1, e⟩ := Res.bind_ok e
      obtain ⟨ys, t2, e2, e⟩ := Res.bind_ok e
      cases e
      refine ⟨S, st, env, k, er, Out.intro e1 fun S1 H1 b s1 k1 r1 => ?_⟩
      refine pairs_ok (by simpa using hl) k1 (er.step s1) e2 fun S2 H2 ws s2 k2 r2 => ?_
      exact f S2 H2 (b :: ws) (s1.trans s2) k2 ⟨r1.step s2, r2⟩
end
section
variable {X : Cx} {sx : Sx}
theorem keyOf_pe {o : Option Expr} {k : Key} (h : keyOf o = some k) : ∃ e, o = some e ∧ PE X e (tC (kV k)) := by
  unfold keyOf at h
  split at h
  · cases h; exact ⟨_, rfl, pe_int⟩
  · cases h; exact ⟨_, rfl, pe_str⟩
  · cases h
theorem pps_ok {ev : Expr → CE} (f : ∀ e, PEv X e (ev e)) {pos : Pos} : ∀ {ks : List (Option Expr)} {kl : List Key} {vs : List Expr}, ks.mapM keyOf = some kl → ks.length = vs.length → PPs X pos ks vs (trs X.K X.mg ev kl vs) ∧ ks.all (·.isSome) = true ∧ kl.length = ks.length
  | [], kl, [], h, _ => by
    cases (show some ([] : List Key) = some kl from h)
    exact ⟨pps_nil, rfl, rfl⟩
  | [], _, _ :: _, _, h => by cases h
  | _ :: _, _, [], _, h => by cases h
  | o :: ks, kl, v :: vs, h, hl => by
    rw [List.mapM_cons] at h
    cases h1 : keyOf o with
    | none => rw [h1] at h; cases h
    | some a =>
      rw [h1] at h
      cases h2 : ks.mapM keyOf with
      | none => rw [h2] at h; cases h
      | some r =>
        rw [h2] at h
        cases h
        obtain ⟨p1, p2, p3⟩ := pps_ok f h2 (by simpa using hl)
        obtain ⟨e, rfl, q⟩ := keyOf_pe (X := X) h1
        exact ⟨pps_cons q (f v) p1, by rw [List.all_cons, p2]; rfl, by simp [p3]⟩
theorem argsW_len {ev : Expr → CE} : ∀ {es : List Expr} {env : Env} {st st1 : Sto} {as : List Vl}, argsW ev es env st = .ok as st1 → as.length = es.length
  | [], _, _, _, _, e => by cases e; rfl
  | a :: r, env, st, st1, as, e => by
    unfold argsW at e
    split at e
    · cases e
    · obtain ⟨y, t1, _, e⟩ := Res.bind_ok e
      obtain ⟨ys, t2, e2, e⟩ := Res.bind_ok e
      cases e
      show ys.length + 1 = r.length + 1
      rw [argsW_len e2]
theorem dK_open {es : List (Key × V)} : (∀ ys, HO.dK es ≠ .tup ys) ∧ ∀ u x, HO.dK es ≠ .frz u x := ⟨(fun _ z => by cases z), (fun _ _ z => by cases z)⟩
theorem ev_dic {ev : Expr → CE} (f : ∀ e, PEv X e (ev e)) {ks : List (Option Expr)} {vs : List Expr} {kl : List Key} (hk : ks.mapM keyOf = some kl) {mu : Bool} {p : Pos} : PEv X (.Dict ks vs p) (cDic mu kl (argsW ev vs)) := by
  refine ⟨fun pins s σ H Q I h => ?_⟩
  obtain ⟨S, st, env, k, er, h0⟩ := h
  obtain ⟨xs, s1, e1, h1⟩ := res_ok h0
  have hl := argsW_len e1
  split at h1
  · rename_i hz
    obtain ⟨z1, z2, z3⟩ := hz
    -- what is left of it, at any heap
    have fin : ∀ (D : Addr) (S1 : Lv) (H1 : Hp) (ws : List V), H D = none → S1.h = D :: S.h → Step S H ⟨S1.l, S.h⟩ H1 → StOk X.K X.mg S1 s1 H1 → H1 D = some (.dK (kl.zip ws)) → RepVs X.K X.mg S1 H1 ws xs → Q (.ref D) H1 := fun D S1 H1 ws hD hh t k1 eD r => by
      have hwl : ws.length = kl.length := r.length.trans z1
      have m1 : (kl.zip ws).map (·.1) = kl := by rw [List.map_fst_zip (by omega)]
      have m2 : (kl.zip ws).map (·.2) = ws := by rw [List.map_snd_zip (by omega)]
      cases mu with
      | true =>
        obtain ⟨S2, t2, k2, r2⟩ := built_loc (c := .dic kl xs) k hD hh t k1 ⟨kl.zip ws, eD, m1, by rw [m2]; exact r⟩ rfl
        exact h1 S2 H1 _ t2 k2 r2
      | false =>
        have h1 : OutV X.K X.mg ((pureL xs s1).bind fun ps s2 => .ok (.p (.dic kl ps)) s2) S H Q := h1
        unfold pureL at h1
        cases e : frzs deep s1 xs with
        | none => rw [e] at h1; exact h1.elim
        | some q =>
          obtain ⟨ps, s2⟩ := q
          rw [e] at h1
          obtain ⟨S2, t2, k2, n2, r2⟩ := built_pure k hD hh t k1 r e eD
          refine h1 S2 H1 (.ref D) t2 k2 ?_
          show RepP X.K X.mg (inS S2) H1 _ _
          simp only [RepP]
          exact ⟨D, kl.zip ws, rfl, eD, n2, m1, by rw [m2]; exact r2⟩
    by_cases hv : ks.length = vs.length
    · obtain ⟨p1, p2, p3⟩ := pps_ok (pos := p) f hk hv
      cases ks with
      | nil =>
        cases vs with
        | cons _ _ => cases hv
        | nil =>
          cases e1
          cases (show some ([] : List Key) = some kl from hk)
          refine pe_dnewK.run pins s σ H Q I fun D hD => ?_
          have k1 := k.hide hD (dK_open (es := []))
          exact fin D (S.hide D) _ [] hD rfl (Step.new hD k) k1 upd_same trivial
      | cons o ks =>
        refine (pe_disp p1 p2 hv (by simp) (by rw [← p3]; exact z3)).run pins s σ H Q I fun D hD => ?_
        have k1 := k.hide hD (dK_open (es := []))
        refine pairs_ok (p3.trans hv) k1 (er.hide hD) e1 fun S1 H1 ws t1 k2 r2 => ?_
        obtain ⟨hD1, eD1⟩ := hid_there t1 k1 List.mem_cons_self upd_same
        have hwl : ws.length = kl.length := r2.length.trans z1
        refine ⟨eD1, kl.zip ws, rfl, by rw [List.length_zip]; omega, ?_⟩
        have em : mergeK [] (kl.zip ws) = kl.zip ws := by
          rw [merge_new _ [] (by rw [List.nil_append, List.map_fst_zip (by omega)]; exact z2)]; rfl
        rw [em]
        refine fin D S1 _ ws hD t1.hid ?_ (k2.built eD1 dK_open dK_open hD1) upd_same (r2.imp fun _ _ => RepV.built eD1 dK_open (.inr hD1))
        have t2 : Step S H ⟨S1.l, S.h⟩ H1 := (Step.new hD k).trans ⟨t1.len, t1.live, t1.keep, rfl, t1.tup, t1.frz⟩
        exact Step.built (S := ⟨S1.l, S.h⟩) eD1 dK_open (k2.hid D hD1).1 S H t2 hD
    · exfalso
      apply hv
      have : kl.length = ks.length := by
        clear h0 h1 e1 hl z1 z2 z3 hv fin
        induction ks generalizing kl with
        | nil => cases (show some ([] : List Key) = some kl from hk); rfl
        | cons o r ih =>
          rw [List.mapM_cons] at hk
          cases h1 : keyOf o with
          | none => rw [h1] at hk; cases hk
          | some a =>
            rw [h1] at hk
            cases h2 : r.mapM keyOf with
            | none => rw [h2] at hk; cases hk
            | some q => rw [h2] at hk; cases hk; simp [ih h2]
      omega
  · exact h1.elim
end
end Pz

set_option Elab.async false
set_option linter.all false
set_option maxRecDepth 100000
set_option maxHeartbeats 2000000
namespace Pz
open PySem L2
def isBO : Expr → Bool
  | .BoolOp _ _ _ => true
  | _ => false
/-- the evaluator's e is e, as a value and as a test -/
structure EvP (X : Cx) (e : Expr) (c : CE) : Prop where
  pe : PEv X e c
  pt : PTv X e (bTru c)
  pw : isBO e = true → PW X e (tevB X.K X.mg (bTru c))
section
variable {X : Cx} {sx : Sx} {G : Gl} {call : Caller} {k : Nat}
theorem EvP.bad {e : Expr} : EvP X e cBad := ⟨bad_e, bad_t, fun _ => ⟨fun w pins s σ H Q I h => (not_badB rfl h).elim⟩⟩
theorem EvP.of {e : Expr} {a : CE} (h : PEv X e a) (he : ∀ whole, isTrue e X.env whole = (do let v ← whole; standAt e.pos; holding [v] (truthy v))) (hb : isBO e = false) : EvP X e a := ⟨h, ev_test h he, fun z => by rw [hb] at z; cases z⟩
theorem PW.weak {e : Expr} {t t' : TT} (h : PW X e t) (f : ∀ σ H Q, t' σ H Q → t σ H Q) : PW X e t' := ⟨fun w pins s σ H Q I q => h.run w pins s σ H Q I (f _ _ _ q)⟩
abbrev BlkX (X : Cx) (scope : Scope) (s : Shared) (H : Hp) (C : Addr) (cl : List (Str × Addr)) (fp : List Addr) : Cx := X.blk s H scope (compEnvC scope cl C X.env) fp
/-- the parts of a comprehension -/
structure LcP (X : Cx) (sx : Sx) (elt tg it : Expr) (ifs : List Expr) (scope : Scope) (ci : CI) (t : CT × List Nat) (cb : CB) (ce : CE) : Prop where
  blk : blkC sx.N sx.sc scope (ownOf sx.N scope) = true
  ns : noSet it = true
  all : ∀ i ∈ t.2, i ∈ (ownOf sx.N scope).map (·.2)
  hi : PI X tg it (iev X.K X.mg ci)
  hg : ∀ (s : Shared) (H : Hp) (C : Addr) (cl : List (Str × Addr)) (fp : List Addr), PG (BlkX X scope s H C cl fp) tg (ttg X.K X.mg t.1 t.2)
  ht : ∀ (s : Shared) (H : Hp) (C : Addr) (cl : List (Str × Addr)) (fp : List Addr), PTs (BlkX X scope s H C cl fp) ifs (tevB X.K X.mg cb)
  he : ∀ (s : Shared) (H : Hp) (C : Addr) (cl : List (Str × Addr)) (fp : List Addr), PE (BlkX X scope s H C cl fp) elt (tev X.K X.mg ce)
theorem blk_of (c : Cok X sx) {scope : Scope} (h : blkC sx.N sx.sc scope (ownOf sx.N scope) = true) : BlkOk X.N X.env.scope scope (ownOf sx.N scope) := by
  rw [c.nm, c.sc]; exact blkOk_by h
theorem lc_pe (c : Cok X sx) {elt tg it : Expr} {ifs : List Expr} {scope : Scope} {ci : CI} {t : CT × List Nat} {cb : CB} {ce : CE} (p : LcP X sx elt tg it ifs scope ci t cb ce) {mu : Bool} {pos : Pos} :
    PEv X (.ListComp elt [⟨tg, it, ifs, 0⟩] scope pos) (cLc mu ((ownOf sx.N scope).map (·.2)) ci t.1 cb ce) :=
  PE.weak (pe_lc c.calm (by rw [c.nm]; exact c.nd) p.hi (blk_of c p.blk) p.hg p.ht p.he (noSet_ok p.ns)) fun _ _ _ h => lc_ok p.all h
theorem all_mem {is js : List Nat} (h : is.all (fun i => js.contains i) = true) : ∀ i ∈ is, i ∈ js := fun i hi => List.contains_iff_mem.mp (List.all_eq_true.mp h i hi)
abbrev Evs (G : Gl) (call : Caller) (k : Nat) (ev : EvE) : Prop := ∀ (X : Cx) (sx : Sx), Cok X sx → Gok X G call k → ∀ e, EvP X e (ev sx e)
theorem lc_p (c : Cok X sx) (g : Gok X G call k) {ev : EvE} (ih : Evs G call k ev) (hb : ∀ sx a, isStar a = true → ev sx a = cBad) {elt tg it : Expr} {ifs : List Expr} {scope : Scope} {t : CT × List Nat} {cb : CB}
    (h1 : blkC sx.N sx.sc scope (ownOf sx.N scope) = true) (h2 : noSet it = true) (h3 : targW (sx.blk scope) tg = some t) (h4 : t.2.all (fun i => ((ownOf sx.N scope).map (·.2)).contains i) = true)
    (h5 : (ifs = [] ∧ cb = bYes) ∨ ∃ q, ifs = [q] ∧ cb = bTru (ev (sx.blk scope) q)) : LcP X sx elt tg it ifs scope (iterW (ev sx) sx it) t cb (ev (sx.blk scope) elt) := by
  refine ⟨h1, h2, all_mem h4, iter_ok (fun e => (ih X sx c g e).pe) (hb sx) c (g.blt _ (by decide +kernel)) it, fun s H C cl fp => ?_, fun s H C cl fp => ?_, fun s H C cl fp => ?_⟩
  · exact targ_ok (X := BlkX X scope s H C cl fp) (blk_ok c h1 s H C cl fp) h3
  · rcases h5 with ⟨rfl, rfl⟩ | ⟨q, rfl, rfl⟩
    · exact yes_ok (X := BlkX X scope s H C cl fp)
    · exact pts_one (ih (BlkX X scope s H C cl fp) (sx.blk scope) (blk_ok c h1 s H C cl fp) (gok_blk g s H _ fp) q).pt
  · exact (ih (BlkX X scope s H C cl fp) (sx.blk scope) (blk_ok c h1 s H C cl fp) (gok_blk g s H _ fp) elt).pe
theorem ev_call (c : Cok X sx) (g : Gok X G call k) {ev : EvE} (ih : Evs G call k ev) (hb : ∀ sx a, isStar a = true → ev sx a = cBad) {f : Str} {args : List Expr} {mu : Bool} {p pos : Pos} : PEv X (.Call (.Name f p) args [] pos) (callW G call (ev sx) sx f args mu) := by
  have fe : ∀ e, PEv X e (ev sx e) := fun e => (ih X sx c g e).pe
  unfold callW
  split
  · rename_i hgl
    split
    · rename_i d hd
      exact ev_own c g hd hgl (ev_args fe args)
    · split
      · rename_i q hq
        by_cases hs : isStar q.2 = true
        · rw [hb sx q.2 hs]; exact tev_bad fun σ H Q ⟨_, _, _, _, _, h⟩ => h
        · exact ev_isi c g hq hgl (fe q.2) (by simpa using hs)
      · split
        · rename_i as hr
          unfold rgOf at hr
          split at hr
          · split at hr
            · rename_i hc
              obtain ⟨rfl, hc⟩ := hc
              split at hr
              · rename_i hl
                subst hl
                cases hr
                exact ev_lrg fe (hb sx) c g hc hgl
              · split at hr <;> cases hr
            · cases hr
          · cases hr
        · rename_i as hr
          unfold rgOf at hr
          split at hr
          · split at hr
            · rename_i hc
              obtain ⟨rfl, hc⟩ := hc
              split at hr
              · cases hr
              · split at hr
                · rename_i hl
                  subst hl
                  cases hr
                  exact ev_trg fe (hb sx) c g hc hgl
                · cases hr
            · cases hr
          · cases hr
        · split
          · rename_i b hbi
            exact ev_bi c g hbi hgl (ev_args fe args)
          · exact bad_e
  · exact bad_e
theorem pt_ifx {t a b : Expr} {tt ta tb : TT} {p : Pos} (ht : PT X t tt) (ha : PT X a ta) (hb : PT X b tb) : PT X (.IfExp t a b p) (fun σ H Q => tt σ H fun c H1 => if c = true then ta σ H1 Q else tb σ H1 Q) := by
  refine ⟨fun pins s σ H Q I h => ?_⟩
  rw [arm_isTrue_IfExp]
  refine wpAny_bind (thn (ht.run pins s σ H _ I h) fun d s1 ⟨H1, I1, q1⟩ => ?_)
  cases d with
  | true => exact ha.run pins s1 σ H1 Q I1 q1
  | false => exact hb.run pins s1 σ H1 Q I1 q1
theorem test_if {t a b : CB} {σ : L2.St} {H : Hp} {Q : Bool → Hp → Prop} {K : PySem.W.Frag} {mg : Str → Option Value} (h : tevB K mg (bIf t a b) σ H Q) : tevB K mg t σ H fun c H1 => if c = true then tevB K mg a σ H1 Q else tevB K mg b σ H1 Q := by
  obtain ⟨S, st, env, k, er, h⟩ := h
  refine ⟨S, st, env, k, er, (Out.bind (rel := relB) h).imp fun c H1 ⟨c1, st1, S1, s1, k1, r1, h1⟩ => ?_⟩
  cases r1
  cases c with
  | true => exact iteT ⟨S1, st1, env, k1, er.step s1, h1⟩
  | false => exact iteF ⟨S1, st1, env, k1, er.step s1, h1⟩
theorem step_ok (c : Cok X sx) (g : Gok X G call k) {ev : EvE} (ih : Evs G call k ev) (hb : ∀ sx a, isStar a = true → ev sx a = cBad) (e : Expr) : EvP X e (stepE G call ev sx e) := by
  have fe : ∀ e, EvP X e (ev sx e) := fun e => ih X sx c g e
  have hu : X.A.units + 65 < cLine := by have := c.hu; omega
  unfold stepE
  split
  · exact .of (ev_const pe_int fun S H => mkInt S H _) (fun _ => rfl) rfl
  · exact .of (ev_const pe_str fun S H => mkStr S H _) (fun _ => rfl) rfl
  · exact .of (ev_const pe_bl fun S H => mkBl S H _) (fun _ => rfl) rfl
  · exact .of (ev_const pe_non fun S H => mkNon S H) (fun _ => rfl) rfl
  · rename_i x p
    refine .of ?_ (fun _ => rfl) rfl
    split
    · exact bad_e
    · rename_i h1
      split
      · rename_i hv
        split
        · rename_i i hi
          exact ev_name c hv hi h1
        · exact bad_e
      · split
        · rename_i hgl
          split
          · rename_i q hq
            obtain ⟨u, v, e1, e2, e3⟩ := g.const x q hq
            exact ev_const (pe_glob (gl_of c hgl) e1 e2 (glb_ne hgl)) fun S H => e3 _ _
          · exact bad_e
        · exact bad_e
  · exact .of (ev_bin (fe _).pe (fe _).pe) (fun _ => rfl) rfl
  · exact .of (ev_neg (fe _).pe) (fun _ => rfl) rfl
  · rename_i a p
    exact ⟨PE.weak (pe_notT (fe a).pe) fun _ _ _ h => val_not h, PT.weak (pt_not (fe a).pt) fun _ _ _ h => test_not (by rw [← bTru_not]; exact h), fun z => by cases z⟩
  · rename_i op a p
    have w : PW X (.BoolOp op [a] p) (tevB X.K X.mg (bTru (ev sx a))) := by
      cases op with
      | And => exact pw_and1 (fe a).pt
      | Or => exact pw_or1 (fe a).pt
    exact ⟨pe_one (fe a).pe, w.pt, fun _ => w⟩
  · rename_i a b r p
    have w : PW X (.BoolOp .And (a :: b :: r) p) (tevB X.K X.mg (bTru (cAnd (ev sx a) (ev sx (.BoolOp .And (b :: r) p))))) :=
      PW.weak (pw_and (fe a).pt ((fe (.BoolOp .And (b :: r) p)).pw rfl)) fun _ _ _ h => test_and (by rw [← bTru_and]; exact h)
    exact ⟨PE.weak (pe_andT (fe a).pe (fe _).pe) fun _ _ _ h => val_and h, w.pt, fun _ => w⟩
  · rename_i a b r p
    have w : PW X (.BoolOp .Or (a :: b :: r) p) (tevB X.K X.mg (bTru (cOr (ev sx a) (ev sx (.BoolOp .Or (b :: r) p))))) :=
      PW.weak (pw_or (fe a).pt ((fe (.BoolOp .Or (b :: r) p)).pw rfl)) fun _ _ _ h => test_or (by rw [← bTru_or]; exact h)
    exact ⟨PE.weak (pe_orT (fe a).pe (fe _).pe) fun _ _ _ h => val_or h, w.pt, fun _ => w⟩
  · rename_i t a b p
    exact ⟨PE.weak (pe_ifExp (fe t).pt (fe a).pe (fe b).pe) fun _ _ _ h => val_if h, PT.weak (pt_ifx (fe t).pt (fe a).pt (fe b).pt) fun _ _ _ h => test_if (by rw [← bTru_if]; exact h), fun z => by cases z⟩
  · split
    · exact .bad
    · rename_i a op b p hm
      have q := PC_cmp (p := p) hu (fe a).pe (fe b).pe (by simpa using hm)
      exact ⟨q.1, q.2, fun z => by cases z⟩
  · split
    · exact .bad
    · rename_i a op op' b d p hm
      have q := PC_chn (p := p) hu (fe a).pe (fe b).pe (fe d).pe (by simpa using hm)
      exact ⟨q.1, q.2, fun z => by cases z⟩
  · exact .of (ev_tup (ev_args (fun e => (fe e).pe) _)) (fun _ => rfl) rfl
  · exact .of (ev_lst (ev_args (fun e => (fe e).pe) _)) (fun _ => rfl) rfl
  · split
    · rename_i kl hk
      exact .of (ev_dic (fun e => (fe e).pe) hk) (fun _ => rfl) rfl
    · exact .bad
  · exact .of (ev_sl fun e => (fe e).pe) (fun _ => rfl) rfl
  · exact .of (ev_rev (fe _).pe) (fun _ => rfl) rfl
  · exact .bad
  · rename_i a b p h1 h2 h3
    refine .of (ev_ix c (fe a).pe (fe b).pe (plain_ix fun lo hi q p2 z => ?_)) (fun _ => rfl) rfl
    subst z
    cases q with
    | none => exact h1 _ _ _ rfl
    | some q => exact h3 _ _ _ _ rfl
  · rename_i elt tg it ifs scope p
    split
    · rename_i h12
      split
      · dsimp only
        split
        · rename_i t ht
          split
          · rename_i h4
            exact .of (lc_pe c (lc_p c g ih hb h12.1 h12.2 ht h4 (.inl ⟨rfl, rfl⟩))) (fun _ => rfl) rfl
          · exact .bad
        · exact .bad
      · dsimp only
        split
        · rename_i t ht
          split
          · rename_i h4
            exact .of (lc_pe c (lc_p c g ih hb h12.1 h12.2 ht h4 (.inr ⟨_, rfl, rfl⟩))) (fun _ => rfl) rfl
          · exact .bad
        · exact .bad
      · dsimp only
        split
        · split
          · exact .bad
          · exact .bad
        · exact .bad
    · exact .bad
  · exact .of (ev_call c g ih hb) (fun _ => rfl) rfl
  · rename_i f p args kws pos hk0
    split
    · rename_i hgl
      split
      · rename_i d ks hd hks
        split
        · rename_i ix hix
          split
          · rename_i hp
            exact .of (ev_ownK c g hd hgl (fun e => (fe e).pe) hks hix hp) (fun _ => rfl) rfl
          · exact .bad
        · exact .bad
      · exact .bad
    · exact .bad
  · rename_i o m ap args p
    split
    · rename_i me hme
      split
      · rename_i hq
        exact .of (ev_me c hme (fe o).pe (ev_args (fun e => (fe e).pe) args) hq.1 hq.2.1 hq.2.2) (fun _ => rfl) rfl
      · exact .bad
    · exact .bad
  · exact .bad
theorem star_step {ev : EvE} (sx : Sx) (a : Expr) (h : isStar a = true) : stepE G call ev sx a = cBad := by
  cases a <;> first | rfl | simp [isStar] at h
/-- THE EXPRESSIONS: what the evaluator says is what the program does -/
theorem ev_ok : ∀ n : Nat, Evs G call k (evE G call n)
  | 0 => fun X sx c g e => .bad
  | n + 1 => fun X sx c g e => step_ok c g (ev_ok n) (fun sx a h => by
      cases n with
      | zero => rfl
      | succ n => exact star_step sx a h) e
end
end Pz

set_option Elab.async false
set_option linter.all false
set_option maxRecDepth 100000
set_option maxHeartbeats 2000000
namespace Pz
open PySem L2
/-! ### statements -/
inductive FV where
  | next | brk | cont | ret (v : V)
def flR (K : PySem.W.Frag) (mg : Str → Option Value) (S : Lv) (H : Hp) : FV → Fl → Prop
  | .next, .next => True
  | .brk, .brk => True
  | .cont, .cont => True
  | .ret v, .ret x => RepV K mg S H v x
  | _, _ => False
def relF (K : PySem.W.Frag) (mg : Str → Option Value) : Lv → Hp → (FV × L2.St) → (Fl × Env) → Prop := fun S H b a => EnvR (K := K) (mg := mg) S H b.2 a.2 ∧ flR K mg S H b.1 a.1
def fin (D : Ends) : FV × L2.St → Hp → Prop := fun b H => match b.1 with
  | .next => D.nx b.2 H
  | .brk => D.bk b.2 H
  | .cont => D.ct b.2 H
  | .ret v => D.rt v H
def tsv (K : PySem.W.Frag) (mg : Str → Option Value) (r : CS) : TS := fun D σ H => ∃ S st env, StOk K mg S st H ∧ EnvR (K := K) (mg := mg) S H σ env ∧ Out K mg (relF K mg) (r env st) S H (fin D)
theorem PS.weak {X : Cx} {e : Stmt} {t t' : TS} (h : PS X e t) (f : ∀ D σ H, t' D σ H → t D σ H) : PS X e t' := ⟨fun pins s σ H D I q => h.run pins s σ H D I (f _ _ _ q)⟩
theorem PSs.weak {X : Cx} {e : List Stmt} {t t' : TS} (h : PSs X e t) (f : ∀ D σ H, t' D σ H → t D σ H) : PSs X e t' := ⟨fun pins s σ H D I q => h.run pins s σ H D I (f _ _ _ q)⟩
theorem PS.none {X : Cx} {e : Stmt} {t : TS} (f : ∀ D σ H, ¬ t D σ H) : PS X e t := ⟨fun pins s σ H D I q => (f _ _ _ q).elim⟩
theorem ps_bad {X : Cx} {e : Stmt} : PS X e (tsv X.K X.mg badS) := PS.none fun D σ H ⟨_, _, _, _, _, h⟩ => h
section
variable {K : PySem.W.Frag} {mg : Str → Option Value} {S S' : Lv} {H H' : Hp} {st st' : Sto} {D : Ends} {σ : L2.St} {env : Env}
theorem fin_ok {f : Fl} {b : FV} (h : Out K mg (relF K mg) (.ok (f, env) st) S H (fin D)) (k : StOk K mg S st H) (er : EnvR (K := K) (mg := mg) S H σ env) (r : flR K mg S H b f) : fin D (b, σ) H := Out.ok (b := (b, σ)) h k ⟨er, r⟩
theorem st_seq {a b : CS} (h : tsv K mg (sSeq a b) D σ H) : tSeq (tsv K mg a) (tsv K mg b) D σ H := by
  obtain ⟨S, st, env, k, er, h⟩ := h
  refine ⟨S, st, env, k, er, (Out.bind (rel := relF K mg) h).imp fun ⟨f, τ⟩ H1 ⟨⟨f1, e1⟩, st1, S1, s1, k1, ⟨er1, r1⟩, h1⟩ => ?_⟩
  cases f1 with
  | next =>
    cases f with
    | next => exact ⟨S1, st1, e1, k1, er1, h1⟩
    | _ => exact r1.elim
  | brk => cases f with
    | brk => exact (fin_ok (D := D) (b := .brk) (f := .brk) h1 k1 er1 r1 : D.bk τ H1)
    | _ => exact r1.elim
  | cont => cases f with
    | cont => exact (fin_ok (D := D) (b := .cont) (f := .cont) h1 k1 er1 r1 : D.ct τ H1)
    | _ => exact r1.elim
  | ret v => cases f with
    | ret w => exact (fin_ok (D := D) (b := .ret w) (f := .ret v) h1 k1 er1 r1 : D.rt w H1)
    | _ => exact r1.elim
theorem st_set {t : CT} {is : List Nat} {a : CE} (h : tsv K mg (sSet t a) D σ H) : tAsg (tev K mg a) (ttg K mg t is) D σ H := by
  obtain ⟨S, st, env, k, er, h⟩ := h
  refine ⟨S, st, env, k, er, (Out.bind (rel := RepV K mg) h).imp fun x H1 ⟨a1, st1, S1, s1, k1, r1, h1⟩ => ?_⟩
  refine ⟨S1, st1, env, a1, k1, er.step s1, r1, (Out.bind (rel := relT K mg is σ) h1).imp fun τ H2 ⟨e1, st2, S2, s2, k2, r2, h2⟩ => ?_⟩
  exact fin_ok (b := .next) h2 k2 r2.1 trivial
theorem st_exp {a : CE} (h : tsv K mg (sExp a) D σ H) : tDrop (tev K mg a) D σ H := by
  obtain ⟨S, st, env, k, er, h⟩ := h
  refine ⟨S, st, env, k, er, (Out.bind (rel := RepV K mg) h).imp fun x H1 ⟨a1, st1, S1, s1, k1, r1, h1⟩ => ?_⟩
  exact fin_ok (b := .next) h1 k1 (er.step s1) trivial
theorem st_ret {a : CE} (h : tsv K mg (sRet a) D σ H) : tRet (tev K mg a) D σ H := by
  obtain ⟨S, st, env, k, er, h⟩ := h
  refine ⟨S, st, env, k, er, (Out.bind (rel := RepV K mg) h).imp fun x H1 ⟨a1, st1, S1, s1, k1, r1, h1⟩ => ?_⟩
  exact fin_ok (b := .ret x) h1 k1 (er.step s1) r1
theorem st_retN (h : tsv K mg (sRet (cP .non)) D σ H) : tRetN D σ H := by
  obtain ⟨S, st, env, k, er, h⟩ := h
  exact fin_ok (b := .ret .non) (env := env) h k er (show RepV K mg S H .non (.p .non) from mkNon S H)
theorem st_if {t : CB} {a b : CS} (h : tsv K mg (sIf t a b) D σ H) : tIfS (tevB K mg t) (tsv K mg a) (tsv K mg b) D σ H := by
  obtain ⟨S, st, env, k, er, h⟩ := h
  refine ⟨S, st, env, k, er, (Out.bind (rel := relB) h).imp fun c H1 ⟨c1, st1, S1, s1, k1, r1, h1⟩ => ?_⟩
  cases r1
  cases c with
  | true => exact iteT ⟨S1, st1, env, k1, er.step s1, h1⟩
  | false => exact iteF ⟨S1, st1, env, k1, er.step s1, h1⟩
theorem st_put {o i v : CE} (h : tsv K mg (sPut o i v) D σ H) : tAsg (tev K mg v) (gSub (tev K mg o) (tev K mg i) (rPutV K mg)) D σ H := by
  obtain ⟨S, st, env, k, er, h⟩ := h
  refine ⟨S, st, env, k, er, (Out.bind (rel := RepV K mg) h).imp fun x H1 ⟨a1, st1, S1, s1, k1, r1, h1⟩ => ?_⟩
  refine ⟨S1, st1, env, k1, er.step s1, (Out.bind (rel := RepV K mg) h1).imp fun y H2 ⟨a2, st2, S2, s2, k2, r2, h2⟩ => ?_⟩
  refine ⟨S2, st2, env, k2, (er.step s1).step s2, (Out.bind (rel := RepV K mg) h2).imp fun z H3 ⟨a3, st3, S3, s3, k3, r3, h3⟩ => ?_⟩
  split at h3
  · rename_i s4 e
    refine ⟨S3, st3, a2, a3, a1, s4, k3, r2.step s3, r3, (r1.step s2).step s3, e, fun H4 s5 k4 => ?_⟩
    exact h3 S3 H4 (.next, σ) s5 k4 ⟨(((er.step s1).step s2).step s3).step s5, trivial⟩
  · exact h3.elim
theorem st_par {is : List Nat} {a : CA} (h : tsv K mg (sPar (is.map tNm) a) D σ H) : tev K mg (fun env st => .bad) σ H (fun _ _ => False) ∨ tevA K mg a σ H fun vs H1 => gNames is vs σ H1 D.nx := by
  obtain ⟨S, st, env, k, er, h⟩ := h
  refine .inr ⟨S, st, env, k, er, (Out.bind (rel := RepVs K mg) h).imp fun x H1 ⟨a1, st1, S1, s1, k1, r1, h1⟩ => ?_⟩
  refine gNames_ok (is0 := is) (σ0 := σ) k1 is x a1 σ env (fun _ h => h) (Off.refl _ _) (er.step s1) r1 ?_
  refine (Out.bind (rel := relT K mg is σ) h1).imp fun τ H2 ⟨e1, st2, S2, s2, k2, r2, h2⟩ => ?_
  exact fin_ok (b := .next) h2 k2 r2.1 trivial
theorem st_aug {i : Nat} {op : Operator} {a : CE} (h : tsv K mg (sAug i op a) D σ H) : (op = .Add ∧ tAug i (tev K mg a) (ipI fun i j => i + j) D σ H) ∨ (op = .Sub ∧ tAug i (tev K mg a) (ipI fun i j => i - j) D σ H) := by
  obtain ⟨S, st, env, k, er, h⟩ := h
  unfold sAug at h
  split at h
  · rename_i x ev
    obtain ⟨o, eo, q⟩ := All2.get er ev
    obtain ⟨w, rfl, r⟩ := q
    obtain rfl := rep_int r
    obtain ⟨y, s1, e1, h1⟩ := res_ok h
    cases y with
    | loc n => exact h1.elim
    | p p =>
      cases p with
      | int j =>
        cases op with
        | Add =>
          refine .inl ⟨rfl, _, eo, S, st, env, k, er, Out.intro e1 fun S1 H1 b s1 k1 r1 => ?_⟩
          cases rep_int r1
          exact ⟨x, j, rfl, rfl, h1 S1 H1 (.next, σ.set i (some (.int (x + j)))) s1 k1 ⟨env_set (er.step s1) (mkInt S1 H1 _), trivial⟩⟩
        | Sub =>
          refine .inr ⟨rfl, _, eo, S, st, env, k, er, Out.intro e1 fun S1 H1 b s1 k1 r1 => ?_⟩
          cases rep_int r1
          exact ⟨x, j, rfl, rfl, h1 S1 H1 (.next, σ.set i (some (.int (x - j)))) s1 k1 ⟨env_set (er.step s1) (mkInt S1 H1 _), trivial⟩⟩
        | _ => exact h1.elim
      | _ => exact h1.elim
  · exact h.elim
/-! ### loops -/
theorem turn_end {go : Env → Sto → Res (Fl × Env)} {b : CS} {N : L2.St → Hp → Prop} (k : StOk K mg S st H) (er : EnvR (K := K) (mg := mg) S H σ env) (h : Out K mg (relF K mg) ((b env st).bind fun q s2 => after q s2 go) S H (fin D))
    (hN : ∀ S1 st1 env1 σ1 H1, Step S H S1 H1 → StOk K mg S1 st1 H1 → EnvR (K := K) (mg := mg) S1 H1 σ1 env1 → Out K mg (relF K mg) (go env1 st1) S1 H1 (fin D) → N σ1 H1) : tsv K mg b { D with nx := N, ct := N, bk := D.nx } σ H := by
  refine ⟨S, st, env, k, er, (Out.bind (rel := relF K mg) h).imp fun ⟨f, τ⟩ H1 ⟨⟨f1, e1⟩, st1, S1, s1, k1, ⟨er1, r1⟩, h1⟩ => ?_⟩
  cases f1 with
  | next => cases f with
    | next => exact hN S1 st1 e1 τ H1 s1 k1 er1 h1
    | _ => exact r1.elim
  | cont => cases f with
    | cont => exact hN S1 st1 e1 τ H1 s1 k1 er1 h1
    | _ => exact r1.elim
  | brk => cases f with
    | brk => exact (fin_ok (D := D) (b := .next) (f := .next) h1 k1 er1 trivial : D.nx τ H1)
    | _ => exact r1.elim
  | ret v => cases f with
    | ret w => exact (fin_ok (D := D) (b := .ret w) (f := .ret v) h1 k1 er1 r1 : D.rt w H1)
    | _ => exact r1.elim
theorem st_wh {t : CB} {b : CS} (h : tsv K mg (sWh t b) D σ H) : tWhile (tevB K mg t) (tsv K mg b) D σ H := by
  obtain ⟨S, st, env, k, er, h⟩ := h
  unfold sWh at h
  generalize turns = T at h
  refine ⟨fun m σ H => ∃ S st env, StOk K mg S st H ∧ EnvR (K := K) (mg := mg) S H σ env ∧ Out K mg (relF K mg) (whF t b m env st) S H (fin D), ⟨T, S, st, env, k, er, h⟩, ?_⟩
  rintro m σ H ⟨S, st, env, k, er, h⟩
  cases m with
  | zero => exact h.elim
  | succ m =>
    refine ⟨S, st, env, k, er, (Out.bind (rel := relB) h).imp fun c H1 ⟨c1, st1, S1, s1, k1, r1, h1⟩ => ?_⟩
    cases r1
    cases c with
    | true =>
      rw [if_pos rfl]
      refine ⟨fun σ H => ∃ S st env, StOk K mg S st H ∧ EnvR (K := K) (mg := mg) S H σ env ∧ Out K mg (relF K mg) (whF t b m env st) S H (fin D), fun σ' H' w => ⟨m, Nat.lt_succ_self _, w⟩, ?_⟩
      exact turn_end k1 (er.step s1) h1 fun S2 st2 env2 σ2 H2 s2 k2 er2 h2 => ⟨S2, st2, env2, k2, er2, h2⟩
    | false =>
      rw [if_neg (by decide)]
      exact fin_ok (b := .next) h1 k1 (er.step s1) trivial
theorem st_for {it : CI} {t : CT} {is : List Nat} {b : CS} (h : tsv K mg (sFor it t b) D σ H) : tFor (iev K mg it) (ttg K mg t is) (tsv K mg b) D σ H := by
  obtain ⟨S, st, env, k, er, h⟩ := h
  refine ⟨S, st, env, k, er, (Out.bind (rel := relJ K mg) h).imp fun J H1 ⟨q, st1, S1, s1, k1, ⟨ws, xs0, rw0, f⟩, h1⟩ => ?_⟩
  cases q with
  | it xs =>
    have h1 : Out K mg (relF K mg) (forP t b xs env st1) S1 H1 (fin D) := h1
    refine ⟨fun i m σ H => m = xs.length - i ∧ i ≤ xs.length ∧ ∃ S st env, StOk K mg S st H ∧ EnvR (K := K) (mg := mg) S H σ env ∧ RepVs K mg S H ws xs0 ∧ Out K mg (relF K mg) (forP t b (xs.drop i) env st) S H (fin D),
      ⟨xs.length, rfl, Nat.zero_le _, S1, st1, env, k1, er.step s1, rw0, h1⟩, ?_⟩
    rintro i m σ H ⟨rfl, hi, S, st, env, k, er, rws, h⟩
    obtain ⟨g1, g2, g3⟩ := f S st H k rws
    by_cases hlt : i < xs.length
    · refine .inr ⟨g1 i hlt, fun σ H' => xs.length - (i + 1) = xs.length - (i + 1) ∧ i + 1 ≤ xs.length ∧ ∃ S st env, StOk K mg S st H' ∧ EnvR (K := K) (mg := mg) S H' σ env ∧ RepVs K mg S H' ws xs0 ∧ Out K mg (relF K mg) (forP t b (xs.drop (i + 1)) env st) S H' (fin D),
        fun σ' H' w => ⟨xs.length - (i + 1), by omega, w⟩, fun x H' y => ?_⟩
      obtain ⟨sy, k', _, p, ep, rp⟩ := g3 i x H' hlt y
      rw [List.drop_eq_getElem_cons hlt] at h
      have ep' : xs[i] = p := by rw [List.getElem?_eq_getElem hlt] at ep; exact Option.some.inj ep
      rw [ep'] at h
      have h : Out K mg (relF K mg) ((t (.p p) env st).bind fun e1 s1 => (b e1 s1).bind fun q s2 => after q s2 (forP t b (xs.drop (i + 1)))) S H (fin D) := h
      refine ⟨S, st, env, .p p, k', er.step sy, rp, (Out.bind (rel := relT K mg is σ) (h.step sy)).imp fun τ H2 ⟨e1, st2, S2, s2, k2, r2, h2⟩ => ?_⟩
      exact turn_end k2 r2.1 h2 fun S3 st3 env3 σ3 H3 s3 k3 er3 h3 => ⟨rfl, hlt, S3, st3, env3, k3, er3, RepVs.step ((sy.trans s2).trans s3) rws, h3⟩
    · have ei : i = xs.length := by omega
      subst ei
      rw [List.drop_length] at h
      exact .inl ⟨g2, fin_ok (b := .next) h k er trivial⟩
  | loc n =>
    have h1 : Out K mg (relF K mg) (forL n t b turns 0 env st1) S1 H1 (fin D) := h1
    generalize turns = T at h1
    refine ⟨fun i m σ H => ∃ S st env, StOk K mg S st H ∧ EnvR (K := K) (mg := mg) S H σ env ∧ RepVs K mg S H ws xs0 ∧ Out K mg (relF K mg) (forL n t b m i env st) S H (fin D),
      ⟨T, S1, st1, env, k1, er.step s1, rw0, h1⟩, ?_⟩
    rintro i m σ H ⟨S, st, env, k, er, rws, h⟩
    have g := f S st H k rws
    cases m with
    | zero => exact h.elim
    | succ m =>
      unfold forL at h
      cases ec : st[n]? with
      | none => rw [ec] at h; exact h.elim
      | some cl =>
        rw [ec] at h
        cases cl with
        | lst ys =>
          obtain ⟨g1, g2, g3⟩ := g ys ec
          cases ev : ys[i]? with
          | some v =>
            simp only [ev] at h
            have hlt : i < ys.length := by
              rcases Nat.lt_or_ge i ys.length with z | z
              · exact z
              · rw [List.getElem?_eq_none z] at ev; cases ev
            refine .inr ⟨g1 i hlt, fun σ H' => ∃ S st env, StOk K mg S st H' ∧ EnvR (K := K) (mg := mg) S H' σ env ∧ RepVs K mg S H' ws xs0 ∧ Out K mg (relF K mg) (forL n t b m (i + 1) env st) S H' (fin D),
              fun σ' H' w => ⟨m, Nat.lt_succ_self _, w⟩, fun x H' y => ?_⟩
            obtain ⟨rfl, w, ew, rx⟩ := g3 i x H' hlt y
            rw [ev] at ew
            cases ew
            refine ⟨S, st, env, v, k, er, rx, (Out.bind (rel := relT K mg is σ) h).imp fun τ H2 ⟨e1, st2, S2, s2, k2, r2, h2⟩ => ?_⟩
            exact turn_end k2 r2.1 h2 fun S3 st3 env3 σ3 H3 s3 k3 er3 h3 => ⟨S3, st3, env3, k3, er3, RepVs.step (s2.trans s3) rws, h3⟩
          | none =>
            simp only [ev] at h
            have hge : ys.length ≤ i := by
              rcases Nat.lt_or_ge i ys.length with z | z
              · rw [List.getElem?_eq_getElem z] at ev; cases ev
              · exact z
            exact .inl ⟨g2 i hge, fin_ok (b := .next) h k er trivial⟩
        | _ => exact h.elim
end
end Pz

set_option Elab.async false
set_option linter.all false
set_option maxRecDepth 100000
set_option maxHeartbeats 2000000
namespace Pz
open PySem L2
theorem sw_raw (env : PySem.Env) (ts vs : List Expr) (k k2 : Nat) (p p2 : Pos) :
    swappedStores [.Tuple ts k p] (.Tuple vs k2 p2) env =
      (if (!(ts.length == 2 || ts.length == 3) || vs.length != ts.length || bkF env.scope != .function) = true then pure none
      else if vs.any isStar = true then pure none
      else if ((ts.filterMap (nmL env.scope (lineOf ts))).length != ts.length || (ts.filterMap (nmL env.scope (lineOf ts))).eraseDups.length != (ts.filterMap (nmL env.scope (lineOf ts))).length) = true then pure none
      else if vs.all (foldedForSure 8) = true then pure none
      else if vs.all (constantsAlone 8) = true then (do let _ ← (unsupported "assign.tuple-of-constant-expressions:order-of-the-stores" : Sem PUnit); pure (some (ts.filterMap (nmL env.scope (lineOf ts)))))
      else pure (some (ts.filterMap (nmL env.scope (lineOf ts))))) := rfl
theorem sw_0 {env : PySem.Env} {ts vs : List Expr} {k k2 : Nat} {p p2 : Pos} (h : swK env.scope ts vs = 0) : swappedStores [.Tuple ts k p] (.Tuple vs k2 p2) env = pure none := by
  rw [sw_raw]
  unfold swK at h
  split at h
  · rename_i h1; rw [if_pos h1]
  · rename_i h1
    rw [if_neg h1]
    split at h
    · rename_i h2; rw [if_pos h2]
    · rename_i h2
      rw [if_neg h2]
      split at h
      · rename_i h3; rw [if_pos h3]
      · rename_i h3
        rw [if_neg h3]
        split at h
        · rename_i h4; rw [if_pos h4]
        · split at h <;> cases h
theorem sw_1 {sc : Scope} {ts vs : List Expr} (h : swK sc ts vs = 1) : (ts.length = 2 ∨ ts.length = 3) ∧ vs.length = ts.length ∧ (ts.filterMap (nmL sc (lineOf ts))).length = ts.length ∧
    ∀ (env : PySem.Env) (k k2 : Nat) (p p2 : Pos), env.scope = sc → swappedStores [.Tuple ts k p] (.Tuple vs k2 p2) env = pure (some (ts.filterMap (nmL sc (lineOf ts)))) := by
  unfold swK at h
  split at h
  · cases h
  · rename_i h1
    split at h
    · cases h
    · rename_i h2
      split at h
      · cases h
      · rename_i h3
        split at h
        · cases h
        · rename_i h4
          split at h
          · cases h
          · rename_i h5
            refine ⟨?_, ?_, ?_, fun env k k2 p p2 he => ?_⟩
            · simp only [Bool.or_eq_true, not_or] at h1
              have q := h1.1.1
              by_cases z : ts.length = 2
              · exact .inl z
              · refine .inr ?_
                simp [z] at q
                exact q
            · simp only [Bool.or_eq_true, not_or] at h1
              have := h1.1.2
              simpa using this
            · simp only [Bool.or_eq_true, not_or] at h3
              have q := h3.1
              by_cases z : (ts.filterMap (nmL sc (lineOf ts))).length = ts.length
              · exact z
              · exact absurd (bne_iff_ne.mpr z) q
            · subst he
              rw [sw_raw, if_neg h1, if_neg h2, if_neg h3, if_neg h4, if_neg h5]
theorem nmL_some {sc : Scope} {l : Nat} {t : Expr} {x : Str} (h : nmL sc l t = some x) : ∃ p, t = .Name x p ∧ sc.names.lookup x = some .local := by
  unfold nmL at h
  split at h
  · split at h
    · rename_i hc
      cases h
      rw [Bool.and_eq_true] at hc
      exact ⟨_, rfl, by simpa using hc.1⟩
    · cases h
  · cases h
theorem nmL_all {sc : Scope} {l : Nat} : ∀ {ts : List Expr}, (ts.filterMap (nmL sc l)).length = ts.length → ∀ t ∈ ts, ∃ x, nmL sc l t = some x
  | [], _, _, h => by cases h
  | a :: r, h, t, ht => by
    rw [List.filterMap_cons] at h
    cases e : nmL sc l a with
    | none =>
      rw [e] at h
      have := List.length_filterMap_le (nmL sc l) r
      simp only [List.length_cons] at h
      omega
    | some x =>
      rw [e] at h
      rcases List.mem_cons.mp ht with rfl | ht
      · exact ⟨x, e⟩
      · exact nmL_all (by simpa using h) t ht
section
variable {X : Cx} {sx : Sx} {G : Gl} {call : Caller} {k : Nat}
theorem targNm_name {x : Str} {p : Pos} {i : Nat} (h : targNm sx (.Name x p) = some i) : sx.canSt x = true ∧ sx.N.idxOf? x = some i := by
  have h : (if sx.canSt x = true then sx.N.idxOf? x else none) = some i := h
  by_cases hc : sx.canSt x = true
  · rw [if_pos hc] at h; exact ⟨hc, h⟩
  · rw [if_neg hc] at h; cases h
/-- through a tuple -/
theorem ev_par0 (c : Cok X sx) {ts es : List Expr} {is : List Nat} (hk : swK sx.sc ts es = 0) (hi : ts.mapM (targNm sx) = some is) (hz : es.length < 1000) {ev : Expr → CE} (ha : PAv X es (argsW ev es)) {kk k2 : Nat} {p1 p2 p : Pos} :
    PS X (.Assign [.Tuple ts kk p1] (.Tuple es k2 p2) p) (tsv X.K X.mg (sPar (is.map tNm) (argsW ev es))) := by
  obtain ⟨q1, q2, q3⟩ := names_pgs c hi
  obtain ⟨n1, n2⟩ := names_map (env := X.env) q2
  refine PS.weak (ps_asg (pe_tup ha) (pg_tup c.calm q1 n1 n2) (by rfl) (sw_0 (by rw [c.sc]; exact hk)) rfl) fun D σ H h => ?_
  obtain ⟨S, st, env, k, er, h⟩ := h
  refine ⟨S, st, env, k, er, (Out.bindE (rel := RepVs X.K X.mg) h).imp fun xs H1 ⟨as, st1, S1, ea, s1, k1, r1, h1⟩ => ?_⟩
  have hlen : xs.length = es.length := r1.length.trans (argsW_len ea)
  refine ⟨Nat.le_trans (by omega : xs.length ≤ 1000) (by decide), fun a hf => ?_⟩
  have sn := Step.new (o := .tup xs) hf k1
  have kn := k1.new (o := .tup xs) hf
  have hgo : Out X.K X.mg (relT X.K X.mg is σ) (tGo (is.map tNm) as env st1) S1 (upd H1 a (.tup xs)) fun τ H2 => D.nx τ H2 := by
    refine (Out.bind (rel := relT X.K X.mg is σ) (h1.step sn)).imp fun τ H2 ⟨e1, st2, S2, s2, k2, r2, h2⟩ => ?_
    exact fin_ok (b := .next) h2 k2 r2.1 trivial
  refine ⟨a, xs, rfl, SqT.of upd_same, ?_, gNames_ok kn is xs as σ env (fun _ h => h) (Off.refl _ _) ((er.step s1).step sn) (RepVs.step sn r1) hgo⟩
  have : ∀ (js : List Nat) (vs : List Vl) (env : Env) (is : List Nat) (S : Lv) (H : Hp) (st : Sto) (Q : L2.St → Hp → Prop), Out X.K X.mg (relT X.K X.mg is σ) (tGo (js.map tNm) vs env st) S H Q → vs.length = js.length := by
    intro js
    induction js with
    | nil => intro vs env is S H st Q h; cases vs with
      | nil => rfl
      | cons => exact h.elim
    | cons j js ih => intro vs env is S H st Q h; cases vs with
      | nil => exact h.elim
      | cons v vs => rw [List.length_cons, List.length_cons, ih vs _ is S H st Q h]
  have hl := this is as env is _ _ _ _ hgo
  rw [hlen, ← argsW_len ea, hl, q3]
theorem ev_par (c : Cok X sx) {ts es : List Expr} {is : List Nat} (hk : swK sx.sc ts es = 1) (hi : ts.mapM (targNm sx) = some is) (nd : is.Nodup) {ev : Expr → CE} (ha : PAv X es (argsW ev es)) {kk k2 : Nat} {p1 p2 p : Pos} :
    PS X (.Assign [.Tuple ts kk p1] (.Tuple es k2 p2) p) (tsv X.K X.mg (sPar (is.map tNm) (argsW ev es))) := by
  obtain ⟨h1, h2, h3, h4⟩ := sw_1 hk
  have nm := nmL_all h3
  have ixs : ∀ {t : Expr} {i : Nat}, targNm sx t = some i → ∀ {x : Str} {q : Pos}, t = .Name x q → X.N[i]? = some x := fun h x q e => by
    subst e
    rw [c.nm]; exact ixOf (targNm_name h).2
  have nN : X.N.Nodup := by rw [c.nm]; exact c.nd
  have sc := c.sc
  rcases h1 with h1 | h1
  · match ts, h1 with
    | [t1, t2], _ =>
      match es, h2 with
      | [a, b], _ =>
        obtain ⟨x, ex⟩ := nm t1 (by simp)
        obtain ⟨y, ey⟩ := nm t2 (by simp)
        obtain ⟨px, rfl, lx⟩ := nmL_some ex
        obtain ⟨py, rfl, ly⟩ := nmL_some ey
        simp only [List.mapM_cons, List.mapM_nil] at hi
        cases i1 : targNm sx (.Name x px) with
        | none => rw [i1] at hi; cases hi
        | some i =>
          rw [i1] at hi
          cases i2 : targNm sx (.Name y py) with
          | none => rw [i2] at hi; cases hi
          | some j =>
            rw [i2] at hi
            cases hi
            have hw := h4 X.env kk k2 p1 p2 sc
            rw [List.filterMap_cons, ex, List.filterMap_cons, ey] at hw
            have hij : i ≠ j := by
              intro z
              rw [z] at nd
              exact absurd nd (by simp)
            refine PS.weak (ps_par c.calm nN (ixs i1 rfl) (ixs i2 rfl) hij (by rw [sc]; exact lx) (by rw [sc]; exact ly) ha hw) fun D σ H h => ?_
            rcases st_par h with h | h
            · obtain ⟨_, _, _, _, _, h⟩ := h; exact h.elim
            · obtain ⟨S, st, env, k, er, h⟩ := h
              refine ⟨S, st, env, k, er, h.imp fun vs H1 h1 => ?_⟩
              obtain ⟨v, r, rfl, w, r2, rfl, e3, h1⟩ := h1
              cases e3
              exact ⟨v, w, rfl, h1⟩
  · match ts, h1 with
    | [t1, t2, t3], _ =>
      match es, h2 with
      | [a, b, d], _ =>
        obtain ⟨x, ex⟩ := nm t1 (by simp)
        obtain ⟨y, ey⟩ := nm t2 (by simp)
        obtain ⟨z, ez⟩ := nm t3 (by simp)
        obtain ⟨px, rfl, lx⟩ := nmL_some ex
        obtain ⟨py, rfl, ly⟩ := nmL_some ey
        obtain ⟨pz, rfl, lz⟩ := nmL_some ez
        simp only [List.mapM_cons, List.mapM_nil] at hi
        cases i1 : targNm sx (.Name x px) with
        | none => rw [i1] at hi; cases hi
        | some i =>
          rw [i1] at hi
          cases i2 : targNm sx (.Name y py) with
          | none => rw [i2] at hi; cases hi
          | some j =>
            rw [i2] at hi
            cases i3 : targNm sx (.Name z pz) with
            | none => rw [i3] at hi; cases hi
            | some l =>
              rw [i3] at hi
              cases hi
              have hw := h4 X.env kk k2 p1 p2 sc
              rw [List.filterMap_cons, ex, List.filterMap_cons, ey, List.filterMap_cons, ez] at hw
              have hd : i ≠ j ∧ i ≠ l ∧ j ≠ l := by
                have nd : [i, j, l].Nodup := nd
                simp only [List.nodup_cons, List.mem_cons, List.not_mem_nil, or_false, not_or] at nd
                exact ⟨nd.1.1, nd.1.2, nd.2.1⟩
              refine PS.weak (ps_par3 c.calm nN (ixs i1 rfl) (ixs i2 rfl) (ixs i3 rfl) hd.1 hd.2.1 hd.2.2 (by rw [sc]; exact lx) (by rw [sc]; exact ly) (by rw [sc]; exact lz) ha hw) fun D σ H h => ?_
              rcases st_par h with h | h
              · obtain ⟨_, _, _, _, _, h⟩ := h; exact h.elim
              · obtain ⟨S, st, env, k, er, h⟩ := h
                refine ⟨S, st, env, k, er, h.imp fun vs H1 h1 => ?_⟩
                obtain ⟨u, r, rfl, v, r2, rfl, w, r3, rfl, e3, h1⟩ := h1
                cases e3
                exact ⟨u, v, w, rfl, h1⟩
end
end Pz

set_option Elab.async false
set_option linter.all false
set_option maxRecDepth 100000
set_option maxHeartbeats 2000000
namespace Pz
open PySem L2
def isComp : Expr → Bool
  | .ListComp _ _ _ _ => true
  | .SetComp _ _ _ _ => true
  | .DictComp _ _ _ _ _ => true
  | _ => false
theorem swF {e : Expr} (h : isComp e = false) (t : Option Expr) (l : Nat) (env : PySem.Env) : swapsWith e t l env = pure false := by
  cases e <;> first | rfl | simp [isComp] at h
theorem swT {e t : Expr} (ht : ∀ x p, t ≠ .Name x p) (l : Nat) (env : PySem.Env) : swapsWith e (some t) l env = pure false := by
  cases t <;> first | exact absurd rfl (ht _ _) | (cases e <;> rfl)
theorem storesF {t e : Expr} (h : ∀ ts k p es k2 p2, ¬ (t = .Tuple ts k p ∧ e = .Tuple es k2 p2)) (hl : ∀ ts p, t ≠ .List ts p) (env : PySem.Env) : swappedStores [t] e env = pure none := by
  cases t <;> first
    | rfl
    | exact absurd rfl (hl _ _)
    | (cases e <;> first | rfl | exact absurd ⟨rfl, rfl⟩ (h _ _ _ _ _ _))
theorem each_one {t : Expr} (h : isStar t = false) (env : PySem.Env) : (assignEach [t] env).map (·.2) = [assign t env] := by
  cases t <;> first | rfl | simp [isStar] at h
/-- does a comprehension go straight to its name -/
def swL (sc : Scope) (scope : Scope) (y : Str) (l l2 : Nat) : Bool := bkF sc == .function && sc.names.lookup y == some .local && l == l2 && !(scope.names.any fun (n, k) => n == y && (k == .local || k == .cell))
theorem swL_eq (env : PySem.Env) (elt : Expr) (gs : List Comprehension) (scope : Scope) (pos py : Pos) (y : Str) (l : Nat) :
    swapsWith (.ListComp elt gs scope pos) (some (.Name y py)) l env = pure (swL env.scope scope y py.line pos.line) := rfl
section
variable {X : Cx} {sx : Sx} {G : Gl} {call : Caller} {k : Nat}
theorem targ_shape {t : Expr} {c : CT × List Nat} (h : targW sx t = some c) : (∃ x p, t = .Name x p) ∨ ∃ ts kk p, t = .Tuple ts kk p := by
  unfold targW at h
  split at h
  · exact .inl ⟨_, _, rfl⟩
  · exact .inr ⟨_, _, _, rfl⟩
  · cases h
theorem asg_plain (c : Cok X sx) {t e : Expr} {ct : CT × List Nat} (ht : targW sx t = some ct) {ce : CE} (he : PEv X e ce) {p : Pos} (hs : swapsWith e (some t) p.line X.env = pure false) (hw : swappedStores [t] e X.env = pure none) :
    PS X (.Assign [t] e p) (tsv X.K X.mg (sSet ct.1 ce)) := by
  have hst : isStar t = false := by rcases targ_shape ht with ⟨_, _, rfl⟩ | ⟨_, _, _, rfl⟩ <;> rfl
  exact PS.weak (ps_asg he (targ_ok c ht) hs hw (each_one hst _)) fun D σ H h => st_set h
theorem asg_lc (c : Cok X sx) (g : Gok X G call k) {ev : EvE} (ih : Evs G call k ev) (hb : ∀ sx a, isStar a = true → ev sx a = cBad) {elt : Expr} {gs : List Comprehension} {scope : Scope} {pos spos py : Pos} {y : Str} {ct : CT × List Nat} (ht : targW sx (.Name y py) = some ct) :
    PS X (.Assign [.Name y py] (.ListComp elt gs scope pos) spos) (tsv X.K X.mg (sSet ct.1 (stepE G call ev sx (.ListComp elt gs scope pos)))) := by
  by_cases hsw : swL sx.sc scope y py.line pos.line = true
  · obtain ⟨i, hi, rfl⟩ := Option.map_eq_some_iff.mp (show (targNm sx (.Name y py)).map (fun i => (tNm i, [i])) = some ct from ht)
    obtain ⟨hcs, hix⟩ := targNm_name hi
    have hy : X.N[i]? = some y := by rw [c.nm]; exact ixOf hix
    have hl : X.env.scope.names.lookup y = some .local := by
      unfold swL at hsw
      simp only [Bool.and_eq_true] at hsw
      rw [c.sc]
      simpa using hsw.1.1.2
    have hs : swapsWith (.ListComp elt gs scope pos) (some (.Name y py)) spos.line X.env = pure true := by rw [swL_eq, c.sc, hsw]
    have nN : X.N.Nodup := by rw [c.nm]; exact c.nd
    have go : ∀ {tg it : Expr} {ifs : List Expr} {t : CT × List Nat} {cb : CB} (lp : LcP X sx elt tg it ifs scope (iterW (ev sx) sx it) t cb (ev (sx.blk scope) elt)) (mu : Bool),
        swapsWith (.ListComp elt [⟨tg, it, ifs, 0⟩] scope pos) (some (.Name y py)) spos.line X.env = pure true →
        PS X (.Assign [.Name y py] (.ListComp elt [⟨tg, it, ifs, 0⟩] scope pos) spos) (tsv X.K X.mg (sSet (tNm i) (cLc mu ((ownOf sx.N scope).map (·.2)) (iterW (ev sx) sx it) t.1 cb (ev (sx.blk scope) elt)))) := fun lp mu hs => by
      refine PS.weak (ps_setLc c.calm nN hy hl hs lp.hi (blk_of c lp.blk) lp.hg lp.ht lp.he (noSet_ok lp.ns)) fun D σ H h => ?_
      have h := st_set (is := [i]) h
      refine lc_ok (mu := mu) lp.all ?_
      obtain ⟨S, st, env, k, er, h⟩ := h
      refine ⟨S, st, env, k, er, h.imp fun x H1 h1 => ?_⟩
      obtain ⟨S, st, env, v, k, er, r, h⟩ := h1
      exact h S H1 (σ.set i (some x)) Step.refl k ⟨env_set er r, (Off.refl _ _).set (List.mem_singleton.mpr rfl) _⟩
    have bad : ∀ {e : Expr}, PS X (.Assign [.Name y py] e spos) (tsv X.K X.mg (sSet (tNm i) cBad)) := PS.none fun D σ H ⟨_, _, _, _, _, h⟩ => h
    unfold stepE
    split
    all_goals first
      | exact bad
      | skip
    all_goals (rename_i h0; cases h0)
    split
    · rename_i h12
      split
      · dsimp only
        split
        · rename_i t ht
          split
          · rename_i h4
            exact go (lc_p c g ih hb h12.1 h12.2 ht h4 (.inl ⟨rfl, rfl⟩)) _ hs
          · exact bad
        · exact bad
      · dsimp only
        split
        · rename_i t ht
          split
          · rename_i h4
            exact go (lc_p c g ih hb h12.1 h12.2 ht h4 (.inr ⟨_, rfl, rfl⟩)) _ hs
          · exact bad
        · exact bad
      · dsimp only
        split
        · split
          · exact bad
          · exact bad
        · exact bad
    · exact bad
  · refine asg_plain c ht (step_ok c g ih hb _).pe ?_ rfl
    rw [swL_eq, c.sc, show swL sx.sc scope y py.line pos.line = false by simpa using hsw]
end
end Pz

set_option Elab.async false
set_option linter.all false
set_option maxRecDepth 100000
set_option maxHeartbeats 2000000
namespace Pz
open PySem L2
section
variable {X : Cx} {sx : Sx} {G : Gl} {call : Caller} {k : Nat}
theorem blk_ps {ev : Stmt → CS} (h : ∀ s, PS X s (tsv X.K X.mg (ev s))) : ∀ b, PSs X b (tsv X.K X.mg (blockW ev b))
  | [] => PSs.weak pss_nil fun D σ H ⟨S, st, env, k, er, q⟩ => fin_ok (b := .next) q k er trivial
  | [s] => pss_one (h s)
  | s :: t :: r => PSs.weak (pss_cons (h s) (blk_ps h (t :: r))) fun D σ H q => st_seq q
theorem names_shape : ∀ {ts : List Expr} {is : List Nat}, ts.mapM (targNm sx) = some is → True := fun _ => trivial
theorem stepS_ok (c : Cok X sx) (g : Gok X G call k) {n : Nat} {evs : Sx → Stmt → CS} (ihs : ∀ s, PS X s (tsv X.K X.mg (evs sx s))) (s : Stmt) : PS X s (tsv X.K X.mg (stepS G call (evE G call (n + 1)) evs sx s)) := by
  have fe : ∀ e, EvP X e (evE G call (n + 1) sx e) := fun e => ev_ok (n + 1) X sx c g e
  have hb : ∀ sx a, isStar a = true → evE G call n sx a = cBad := fun sx a h => by
    cases n with
    | zero => rfl
    | succ n => exact star_step sx a h
  have hp : PassesOwn (model X.prog X.w) X.A X.env X.xe := by rw [c.nx]; exact PassesOwn.never
  have nN : X.N.Nodup := by rw [c.nm]; exact c.nd
  unfold stepS
  split
  · exact ps_bad
  · exact ps_bad
  · exact ps_bad
  · rename_i e p h1 h2 h3
    have hc : isComp e = false := by
      cases e <;> first | rfl | exact absurd rfl (h1 _ _ _ _) | exact absurd rfl (h2 _ _ _ _) | exact absurd rfl (h3 _ _ _ _ _)
    exact PS.weak (ps_expr (fe e).pe (swF hc _ _ _)) fun D σ H q => st_exp q
  · exact PS.weak ps_pass fun D σ H ⟨S, st, env, k, er, q⟩ => fin_ok (b := .next) q k er trivial
  · exact PS.weak ps_break fun D σ H ⟨S, st, env, k, er, q⟩ => fin_ok (b := .brk) q k er trivial
  · exact PS.weak ps_continue fun D σ H ⟨S, st, env, k, er, q⟩ => fin_ok (b := .cont) q k er trivial
  · exact PS.weak ps_retN fun D σ H q => st_retN q
  · rename_i e p
    exact PS.weak (ps_ret (fe e).pe) fun D σ H q => st_ret q
  · rename_i t a b p
    exact PS.weak (ps_if (fe t).pt (blk_ps ihs a) (blk_ps ihs b)) fun D σ H q => st_if q
  · rename_i t b p
    exact PS.weak (ps_while hp (fe t).pt (blk_ps ihs b)) fun D σ H q => st_wh q
  · rename_i tg it b p
    split
    · rename_i hs
      split
      · rename_i t ht
        exact PS.weak (ps_for hp c.calm (iter_ok (fun e => (fe e).pe) (fun a h => star_step sx a h) c (g.blt _ (by decide +kernel)) it) (targ_ok c ht) (blk_ps ihs b) (noSet_ok hs)) fun D σ H q => st_for q
      · exact ps_bad
    · exact ps_bad
  · rename_i x px op e p
    split
    · rename_i hx
      split
      · rename_i i hi
        have hN : X.N[i]? = some x := by rw [c.nm]; exact ixOf hi
        by_cases ha : op = .Add
        · subst ha
          exact PS.weak (ps_aug nN hN (loc_of c hx) (fe e).pe ip_add (c.fn x hx)) fun D σ H q => (st_aug q).elim (fun z => z.2) fun z => by cases z.1
        · by_cases hs : op = .Sub
          · subst hs
            exact PS.weak (ps_aug nN hN (loc_of c hx) (fe e).pe ip_sub (c.fn x hx)) fun D σ H q => (st_aug q).elim (fun z => by cases z.1) fun z => z.2
          · exact PS.none fun D σ H q => (st_aug q).elim (fun z => ha z.1) fun z => hs z.1
      · exact ps_bad
    · exact ps_bad
  · rename_i ts kk p1 es k2 p2 p
    split
    · rename_i h0
      split
      · rename_i is hi
        split
        · rename_i hz
          exact ev_par0 c h0 hi hz (ev_args (fun e => (fe e).pe) es)
        · exact ps_bad
      · exact ps_bad
    · rename_i h1
      split
      · rename_i is hi
        split
        · rename_i nd
          exact ev_par c h1 hi nd (ev_args (fun e => (fe e).pe) es)
        · exact ps_bad
      · exact ps_bad
    · exact ps_bad
  · exact ps_bad
  · rename_i o i ps e p h1
    have ha : ∀ v, assign (.Subscript o i ps) X.env v = (do
        let ov ← holding [v] (eval o X.env)
        let iv ← holding [v, ov] (eval i X.env)
        standAt ps
        holding [v, ov, iv] (setItem ov iv v)
        release [v, ov, iv] []) := fun v => by
      cases i <;> first | rfl | exact absurd rfl (h1 _ _ _ _)
    exact PS.weak (ps_asg (fe e).pe (pg_sub (fe o).pe (fe i).pe (put_q (by have := c.hu; omega)) ha) (show swapsWith e (some (.Subscript o i ps)) p.line X.env = pure false from swT (fun _ _ => by intro z; cases z) _ _) rfl rfl) fun D σ H q => st_put q
  · rename_i t e p h1 h2 h3
    split
    · rename_i ct ht
      rcases targ_shape ht with ⟨x, px, rfl⟩ | ⟨ts, kk, pt, rfl⟩
      · by_cases hc : isComp e = true
        · cases e with
          | ListComp elt gs scope pos => exact asg_lc c g (ev_ok n) hb ht
          | SetComp => exact PS.none fun D σ H ⟨_, _, _, _, _, q⟩ => q
          | DictComp => exact PS.none fun D σ H ⟨_, _, _, _, _, q⟩ => q
          | _ => cases hc
        · exact asg_plain c ht (fe e).pe (swF (by simpa using hc) _ _ _) rfl
      · refine asg_plain c ht (fe e).pe (swT (fun _ _ => by intro z; cases z) _ _) (storesF (fun ts' k' p' es k2 p2 z => ?_) (fun _ _ z => by cases z) _)
        obtain ⟨z1, z2⟩ := z
        subst z2
        exact h1 _ _ _ _ _ _ rfl rfl
    · exact ps_bad
  · exact ps_bad
/-- THE STATEMENTS -/
theorem evS_ok (c : Cok X sx) (g : Gok X G call k) {n : Nat} : ∀ (m : Nat) (s : Stmt), PS X s (tsv X.K X.mg (evS G call (evE G call (n + 1)) m sx s))
  | 0, s => ps_bad
  | m + 1, s => stepS_ok c g (evS_ok c g m) s
end
end Pz

set_option Elab.async false
set_option linter.all false
set_option maxRecDepth 100000
set_option maxHeartbeats 2000000
namespace Pz
open PySem L2
section
variable {K : PySem.W.Frag} {mg : Str → Option Value} {S S' S2 : Lv} {H H' H2 : Hp} {st st' : Sto}
/-! ### a def is left -/
theorem RepV.cut {n : Nat} {v : V} {x : Vl} (h : locOk n x = true) (hn : n ≤ S.l.length) (r : RepV K mg S H v x) : RepV K mg ⟨S.l.take n, S.h⟩ H v x := by
  cases x with
  | p p => exact RepP.less (fun a z => z.elim (fun z => .inl (List.mem_of_mem_take z)) .inr) p v r
  | loc m =>
    obtain ⟨_, f⟩ := r
    have hm : m < n := of_decide_eq_true h
    refine ⟨by show m < (S.l.take n).length; rw [List.length_take]; omega, fun a e => ?_⟩
    have e : (S.l.take n)[m]? = some (some a) := e
    rw [List.getElem?_take_of_lt hm] at e
    exact f a e
theorem RepVs.cut {n : Nat} (hn : n ≤ S.l.length) : ∀ {vs : List V} {xs : List Vl}, xs.all (locOk n) = true → RepVs K mg S H vs xs → RepVs K mg ⟨S.l.take n, S.h⟩ H vs xs
  | [], [], _, _ => trivial
  | v :: vs, x :: xs, h, r => by
    rw [List.all_cons, Bool.and_eq_true] at h
    exact ⟨RepV.cut h.1 hn r.1, RepVs.cut hn h.2 r.2⟩
  | [], _ :: _, _, r => r.elim
  | _ :: _, [], _, r => r.elim
theorem StOk.cut {n : Nat} (k : StOk K mg S st H) (hn : n ≤ st.length) (h : (st.take n).all (cellOk n) = true) : StOk K mg ⟨S.l.take n, S.h⟩ (st.take n) H := by
  have hl : n ≤ S.l.length := by rw [k.len]; exact hn
  have at' : ∀ {m : Nat} {a : Addr}, (S.l.take n)[m]? = some (some a) → m < n ∧ S.l[m]? = some (some a) := fun {m a} e => by
    by_cases hm : m < n
    · rw [List.getElem?_take_of_lt hm] at e; exact ⟨hm, e⟩
    · rw [List.getElem?_eq_none (by rw [List.length_take]; omega)] at e; cases e
  refine ⟨by show (S.l.take n).length = _; rw [List.length_take, List.length_take, k.len], fun m m' a e e' => k.inj m m' a (at' e).2 (at' e').2, fun m c e d => ?_, fun m a e => ?_, fun a ha => ?_⟩
  · have hm : m < n := by
      by_cases hm : m < n
      · exact hm
      · rw [List.getElem?_eq_none (by rw [List.length_take]; omega)] at e; cases e
    have hc := List.all_eq_true.mp h c (List.mem_of_getElem? e)
    rw [List.getElem?_take_of_lt hm] at e
    obtain ⟨a, ea, ok⟩ := k.cell m c e d
    refine ⟨a, by show (S.l.take n)[m]? = _; rw [List.getElem?_take_of_lt hm]; exact ea, ?_⟩
    cases c with
    | dead => trivial
    | lst => obtain ⟨xs, e1, r⟩ := ok; exact ⟨xs, e1, RepVs.cut hl hc r⟩
    | dic => obtain ⟨xs, e1, z, r⟩ := ok; exact ⟨xs, e1, z, RepVs.cut hl hc r⟩
    | dit => obtain ⟨xs, e1, z, r⟩ := ok; exact ⟨xs, e1, z, RepVs.cut hl hc r⟩
    | obj => obtain ⟨C, dx, fs, e1, m, z, r⟩ := ok; exact ⟨C, dx, fs, e1, m, z, RepVs.cut hl hc r⟩
  · obtain ⟨hm, e⟩ := at' e
    obtain ⟨c, ec, d⟩ := k.gone m a e
    exact ⟨c, by rw [List.getElem?_take_of_lt hm]; exact ec, d⟩
  · obtain ⟨n1, q⟩ := k.hid a ha
    exact ⟨fun z => n1 (List.mem_of_mem_take z), q⟩
theorem Step.cut {n : Nat} (s : Step S H S' H') (hn : S.l.length = n) : Step S H ⟨S'.l.take n, S'.h⟩ H' := by
  have := s.len
  refine ⟨by show _ ≤ (S'.l.take n).length; rw [List.length_take]; omega, fun m a hm e => ?_, fun a o e nn => ⟨(s.keep a o e nn).1, fun z => (s.keep a o e nn).2 (List.mem_of_mem_take z)⟩, s.hid, s.tup, s.frz⟩
  have e : (S'.l.take n)[m]? = some (some a) := e
  rw [List.getElem?_take_of_lt (by omega)] at e
  exact s.live m a hm e
theorem leave_ok {n : Nat} {v : Vl} {w : V} {s1 : Sto} {Q : VK} (hn : S.l.length = n) (s : Step S H S' H') (k : StOk K mg S' s1 H') (r : RepV K mg S' H' w v) (h : OutV K mg (leave n v s1) S H Q) : Q w H' := by
  unfold leave at h
  have hl : n ≤ s1.length := by rw [← k.len, ← hn]; exact s.len
  split at h
  · rename_i hv
    split at h
    · rename_i hc
      exact h _ H' w (s.cut hn) (k.cut hl hc) (RepV.cut hv (by rw [k.len]; exact hl) r)
    · exact h.elim
  · unfold pure1 at h
    split at h
    · rename_i x s2 e
      obtain ⟨S2, t, k2, p⟩ := frz_ok deep s1 S' v w x s2 k r e
      have h : OutV K mg (if (s2.take n).all (cellOk n) then .ok (.p x) (s2.take n) else .bad) S H Q := h
      have hl2 : n ≤ s2.length := by rw [← k2.len]; exact Nat.le_trans (by rw [k.len]; exact hl) t.len
      split at h
      · rename_i hc
        exact h _ H' w ((s.trans t).cut hn) (k2.cut hl2 hc) (RepV.cut (x := .p x) rfl (by rw [k2.len]; exact hl2) p)
      · exact h.elim
    · exact h.elim
end
/-! ### the defs -/
/-- what the written part shows of a def -/
structure DfF (K : PySem.W.Frag) (mg : Str → Option Value) (d : Df) (f : Addr) (fd : FuncData) : Prop where
  at' : mg d.name = some (.ref f)
  kp : PySem.W.keepIn K (.ref f) = true
  fn : ∃ (oc : Value) (od : Option Addr) (qual : Str) (params : Arguments) (dV kV doc pm : Value) (an : Option Addr) (cdv ct : Value) (osl : Array (Option Value)),
    fd = PySem.W.fnOf d.name qual params d.body d.sc dV kV doc pm an cdv ct ∧ K.lookup f = some ⟨oc, od, .func fd, osl⟩ ∧ PySem.W.codeIn K cdv qual = true
  sc : FnScope d.N d.ps d.sc
  bd : Binds K fd d.ps []
  pt : ∀ n ks ix, (n, ks) ∈ d.pats → kwIx d.ps n ks = some ix → ∀ (s : Shared) (us ws : List Value), K.In s.heap → us.length = n → ws.length = ks.length →
    ∃ zs, (ix.mapM fun i => (us ++ ws)[i]?) = some zs ∧ BindsTo s fd ⟨us, ks.zip ws⟩ (d.ps.zip zs)
/-- the module as the evaluator sees it -/
structure GF (K : PySem.W.Frag) (mg : Str → Option Value) (G : Gl) : Prop where
  blt : ∀ x ∈ bltNames, mg x = none
  const : ∀ x p, G.consts.lookup x = some p → ∃ u v, mg x = some u ∧ RelV v u ∧ ∀ L H, RepP K mg L H v p
  defs : ∀ x d, G.def? x = some d → ∃ f fd, DfF K mg d f fd
theorem callAt_len (G : Gl) : ∀ (k : Nat) (x : Str) (d : Df) (as : List Vl) (st : Sto), G.def? x = some d → as.length ≠ d.ps.length → callAt G k x as st = .bad
  | 0, _, _, _, _, _, _ => rfl
  | k + 1, x, d, as, st, h, hl => by
    unfold callAt
    rw [h]
    show runDf G (callAt G k) d as st = .bad
    unfold runDf
    rw [if_neg hl]
section
variable {P : Program} {w : World} {K : PySem.W.Frag} {mg : Str → Option Value} {base : Heap}
theorem start_env {S : Lv} {H : Hp} {N : List Str} {vs : List V} {as : List Vl} (r : RepVs K mg S H vs as) : EnvR (K := K) (mg := mg) S H (L2.start N vs) (as.map some ++ List.replicate (N.length - as.length) none) := by
  unfold L2.start
  rw [r.length]
  refine All2.append ?_ ?_
  · have : ∀ (vs : List V) (as : List Vl), RepVs K mg S H vs as → EnvR (K := K) (mg := mg) S H (vs.map some) (as.map some) := by
      intro vs
      induction vs with
      | nil => intro as r; cases as with
        | nil => trivial
        | cons => exact r.elim
      | cons v vs ih => intro as r; cases as with
        | nil => exact r.elim
        | cons a as => exact ⟨⟨v, rfl, r.1⟩, ih as r.2⟩
    exact this vs as r
  · generalize N.length - as.length = n
    induction n with
    | zero => trivial
    | succ n ih => exact ⟨trivial, ih⟩
theorem def_run {G : Gl} (GG : GF K mg G) {k : Nat} (ih : ∀ x d, G.def? x = some d → ∀ f fd, DfF K mg d f fd → FnG P w K mg base k f fd d.ps (spE K mg (callAt G k) d)) {x : Str} {d : Df} (hx : G.def? x = some d) {f : Addr} {fd : FuncData} (F : DfF K mg d f fd) :
    FnG P w K mg base (k + 1) f fd d.ps (spE K mg (callAt G (k + 1)) d) := by
  obtain ⟨oc, od, qual, params, dV, kV, doc, pm, an, cdv, ct, osl, efd, lk, hcd⟩ := F.fn
  refine ⟨fun A outer s H args us vs Q hr hg e0 hb r hsp => ?_⟩
  subst efd
  obtain ⟨hl, S, st, as, kk, ras, hout⟩ := hsp
  have inK : K.In s.heap := e0.mod.kin.keeps fun b o e => (e0.bs b o e).1
  have noLim : s.heap.NoLimit := e0.mod.nolimit.keeps fun b o e => (e0.bs b o e).1
  have kinds : ∀ y ∈ d.ps.zip us, d.sc.names.lookup y.1 = some .local ∨ (d.sc.names.lookup y.1 = some .cell ∧ ((cellsFrom (s.heap.objs.size + 1) d.sc.names []).lookup y.1).isSome = true) := by
    intro y hy
    rcases F.sc.par y.1 (List.of_mem_zip (show (y.1, y.2) ∈ d.ps.zip us from hy)).1 with q | q
    · exact Or.inl q
    · exact Or.inr ⟨q, PySem.W.cellsFrom_some _ _ _ (.inl q)⟩
  refine codeAny_call_function hr.depth (inK _ _ lk) rfl F.sc.co F.sc.gen rfl (PySem.W.codeRec_of inK hcd) (hb _ _ _ _ ?_)
  refine wpAny_newFunctionEnv_cells F.sc.kind kinds fun env he s1 x1 => ?_
  subst he
  refine ⟨noLim.keeps x1.toInCall.keep, codeAny_func ?_⟩
  -- the context of the body
  have I0 := inv_start (CX := CX0) (P := P) (E := E0) (cd := cdv) (qual := qual) (f := f) F.sc hr.hd e0 hl r x1
  generalize hX : cxOf CX0 P w K mg base d.N qual d.sc f cdv A outer s H E0 = X at I0
  have cok : Cok X.nox ⟨d.N, d.sc, d.mu, none⟩ := by
    subst hX
    refine ⟨rfl, rfl, rfl, F.sc.nd, rfl, fun _ _ => .inl rfl, ?_, hg⟩
    have := hr.un
    show A.units + 3 + 70 < cLine
    omega
  have gok : Gok X.nox G (callAt G k) k := by
    subst hX
    refine ⟨GG.blt, GG.const, fun y e he => ?_, hr.deeper _, fun y e as st he hn => callAt_len G k y e as st he hn⟩
    obtain ⟨f', fd', F'⟩ := GG.defs y e he
    have nm := def_name he
    exact ⟨f', fd', by rw [← nm]; exact F'.at', F'.kp, ih y e he f' fd' F', F'.bd, F'.pt⟩
  have body := (blk_ps (evS_ok (n := 29) cok gok depthS) d.body).nox
  have hout : OutV K mg (callAt G (k + 1) d.name as st) S H Q := hout
  have hcall : callAt G (k + 1) d.name as st = runDf G (callAt G k) d as st := by
    have nm := def_name hx
    show (match G.def? d.name with | some d => runDf G (callAt G k) d as st | none => .bad) = _
    rw [nm, hx]
  rw [hcall] at hout
  unfold runDf at hout
  rw [if_pos (ras.length.symm.trans hl)] at hout
  have start' := start_env (N := d.N) ras
  have want : tsv K mg (bodyOf G (callAt G k) d) { nx := fun _ H' => Q .non H', rt := Q } (L2.start d.N vs) H := by
    obtain ⟨⟨f1, e1⟩, st1, eq, h1⟩ := res_ok hout
    refine ⟨S, st, _, kk, start', Out.intro eq fun S1 H1 b s1 k1 r1 => ?_⟩
    obtain ⟨fl, τ⟩ := b
    obtain ⟨er1, r1⟩ := r1
    cases f1 with
    | next => cases fl with
      | next =>
        have h1 : OutV K mg (if d.keep then .ok (.p .non) st1 else leave st.length (.p .non) st1) S H Q := h1
        split at h1
        · exact h1 S1 H1 V.non s1 k1 (mkNon S1 H1)
        · exact leave_ok kk.len s1 k1 (mkNon S1 H1) h1
      | _ => exact r1.elim
    | ret v => cases fl with
      | ret w =>
        have h1 : OutV K mg (if d.keep then .ok v st1 else leave st.length v st1) S H Q := h1
        split at h1
        · exact h1 S1 H1 w s1 k1 r1
        · exact leave_ok kk.len s1 k1 r1 h1
      | _ => exact r1.elim
    | _ => exact h1.elim
  have done := body.run [] s1 (L2.start d.N vs) H _ I0 (by subst hX; exact want)
  subst hX
  refine wpAny_mono done (fun fl s' hs => ?_) fun e s' hs => hs
  match fl, hs with
  | .ret u, ⟨v, σ', H', J, rv, q⟩ => exact ⟨v, H', J.os, J.bare, J.base, J.hok, rv, q⟩
  | .next, ⟨σ', H', J, q⟩ => exact ⟨V.non, H', J.os, J.bare, J.base, J.hok, rfl, q⟩
  | .brk, ⟨_, _, _, q⟩ => exact False.elim q
  | .cont, ⟨_, _, _, q⟩ => exact False.elim q
end
end Pz

set_option Elab.async false
set_option linter.all false
set_option maxRecDepth 100000
set_option maxHeartbeats 2000000
namespace Pz
open PySem L2 PySem.Spec PyProof.Rows
section
variable {P : Program} {w : World} {K : PySem.W.Frag} {mg : Str → Option Value} {base : Heap}
/-- THE DEFS: every def of the module does what the evaluator says, k calls deep -/
theorem run_all {G : Gl} (GG : GF K mg G) : ∀ (k : Nat) (x : Str) (d : Df), G.def? x = some d → ∀ f fd, DfF K mg d f fd → FnG P w K mg base k f fd d.ps (spE K mg (callAt G k) d)
  | 0, x, d, hx, f, fd, F => ⟨fun A outer s H args us vs Q hr hg e0 hb r hsp => by
      obtain ⟨_, S, st, as, _, _, h⟩ := hsp
      exact h.elim⟩
  | k + 1, x, d, hx, f, fd, F => def_run GG (fun y e he f' fd' F' => run_all GG k y e he f' fd' F') hx F
theorem rep_scr_of {S : Lv} {H : Hp} {a : Addr} {ns : List Int} (h : SqL K H a (ns.map V.int)) (hs : ∀ b, ¬ inS S b) : RepV K mg S H (.ref a) (.p (.scr ns)) := by
  show RepP K mg (inS S) H _ _
  simp only [RepP]
  refine ⟨a, rfl, ?_⟩
  rcases h with h | h
  · exact .inl ⟨h, hs a⟩
  · exact .inr (.inr h)
/-- the end of a run from the top -/
def Top (s₁ : Shared) (r : Result) (s' : Shared) : Prop := r = .ok (.ret (.bool true)) ∧ OldK s₁.heap s'.heap ∧ s'.os = s₁.os ∧ AllBare s'.gens
/-- the law, called at the top, where nothing is tracked but the script -/
theorem top_core {mb : Str → Option Value} {fa a : Addr} {s₁ : Shared} {vs : List Value} {H : Hp} {k : Nat} {fd : FuncData} {x : Str} {sp : List V → Hp → VK → Prop}
    (KX : K.In s₁.heap)
    (hns : s₁.heap.Ns mainGlobals mg)
    (hb : s₁.heap.Ns builtinsNs mb)
    (hbb : ∀ x : Str, x ≠ "__name__" → mb x = bootBuiltins x)
    (hlim : s₁.heap.NoLimit)
    (hg : s₁.gens = #[])
    (ha : s₁.heap.get? a = some { cls := .type "list", data := .seq vs.toArray })
    (hr : Room k callerA)
    (F : ∀ base : Heap, FnG P w K mg base k fa fd [x] sp)
    (bind : BindsTo s₁ fd ⟨[.ref a], []⟩ [(x, .ref a)])
    (want : sp [.ref a] H (fun v _ => v = .bl true))
    (shape : ∀ b, H b = none ∨ ∃ o us, H b = some (.frz o (.lst us)))
    (hok : HOk P w H s₁.heap)
    (only : ∀ b, H b ≠ none → b = a)
    (free : H a ≠ none → K.lookup a = none) :
    codeAny (model P w) callerA (.call (.ref fa) ⟨[.ref a], []⟩) (Top s₁) s₁ := by
  have keep : ∀ {b : Addr} {o : Obj}, s₁.heap.get? b = some o → H b = none → (hidT s₁.heap H).get? b = some o :=
    fun e n => hidT_get e n
  have undict : ∀ {b : Addr} {o : Obj} {es : Array DictEntry} {ep : Nat}, s₁.heap.get? b = some o → o.data = .dict es ep → H b = none := by
    intro b o es ep e d
    rcases hq : H b with _ | u
    · rfl
    · have eb := only b (by rw [hq]; exact Option.some_ne_none u)
      rw [eb, ha] at e
      injection e with e
      rw [← e] at d
      exact absurd d (by intro z; cases z)
  have names : ∀ {b : Addr} {m : Str → Option Value}, s₁.heap.Ns b m → (hidT s₁.heap H).Ns b m := by
    intro b m hm
    obtain ⟨o, es, ep, e, d, r⟩ := hm
    exact ⟨o, es, ep, keep e (undict e d), d, r⟩
  have inK : K.In (hidT s₁.heap H) := by
    intro b o e
    refine keep (KX b o e) ?_
    rcases hq : H b with _ | u
    · rfl
    · have hne : H b ≠ none := by rw [hq]; exact Option.some_ne_none u
      have eb := only b hne
      rw [eb] at e hne
      rw [free hne] at e
      cases e
  have world : Mod K mg (hidT s₁.heap H) := by
    refine ⟨inK, names hns, ⟨mb, names hb, hbb⟩, ?_⟩
    obtain ⟨mc, h1, h2⟩ := hlim
    exact ⟨mc, names h1, h2⟩
  have entry : Env0 P w K mg (hidT s₁.heap H) callerA [] s₁ H := by
    refine ⟨rfl, world, fun b o e => of_hidT e, Nat.le_of_eq (hidT_size _ _), trivial, fun b hb => ?_, hok, .of_eq hg⟩
    cases (show b ∈ ([] : List Addr) from hb)
  have run := (F (hidT s₁.heap H)).run callerA [] s₁ H ⟨[.ref a], []⟩ [.ref a] [.ref a] _ hr rfl entry bind (.cons rfl .nil) want
  refine codeAny_mono run fun r s' h => ?_
  match r, h with
  | .error _, h => exact False.elim h
  | .ok .next, h => exact False.elim h
  | .ok .brk, h => exact False.elim h
  | .ok .cont, h => exact False.elim h
  | .ok (.ret u), ⟨v, H', os, bare, un, hok', r', q⟩ =>
    have q' : v = .bl true := q
    rw [q'] at r'
    have hu : u = Value.bool true := r'
    rw [hu]
    refine ⟨rfl, OldK.of_keep fun b o e => ?_, os, bare⟩
    rcases hq : H b with _ | u0
    · exact un.keep b o e hq (fun z => by cases (show b ∈ ([] : List Addr) from z)) (by simp)
    · rcases shape b with z | ⟨ob, us, z⟩
      · rw [hq] at z; cases z
      · have at1 := (hok b _ z).1
        have at2 := (hok' b _ (un.frzs b ob _ z)).1
        rw [e] at at1
        injection at1 with at1
        rw [at1]
        exact at2
theorem top_call {mb : Str → Option Value} {fa a : Addr} {s₁ : Shared} {vs : List Value} {ns : List Int} {k : Nat} {fd : FuncData} {x : Str} {sp : List V → Hp → VK → Prop}
    (KX : K.In s₁.heap)
    (hns : s₁.heap.Ns mainGlobals mg)
    (hb : s₁.heap.Ns builtinsNs mb)
    (hbb : ∀ x : Str, x ≠ "__name__" → mb x = bootBuiltins x)
    (hlim : s₁.heap.NoLimit)
    (hg : s₁.gens = #[])
    (ha : s₁.heap.get? a = some { cls := .type "list", data := .seq vs.toArray })
    (hi : IntsAre vs ns)
    (hl : ns.length ≤ sizeLine)
    (hr : Room k callerA)
    (F : ∀ base : Heap, FnG P w K mg base k fa fd [x] sp)
    (bind : BindsTo s₁ fd ⟨[.ref a], []⟩ [(x, .ref a)])
    (want : ∀ H : Hp, SqL K H a (ns.map V.int) → sp [.ref a] H (fun v _ => v = .bl true)) :
    codeAny (model P w) callerA (.call (.ref fa) ⟨[.ref a], []⟩) (Top s₁) s₁ := by
  have rv := vals_ints hi
  have hlv : (ns.map V.int).length ≤ sizeLine := by rw [List.length_map]; exact hl
  rcases hk : K.lookup a with _ | o
  · have top : (fun b => if b = a then some (HO.frz { cls := .type "list", data := .seq vs.toArray } (.lst (ns.map V.int))) else none) a = some (HO.frz { cls := .type "list", data := .seq vs.toArray } (.lst (ns.map V.int))) := if_pos rfl
    refine top_core KX hns hb hbb hlim hg ha hr F bind (want (fun b => if b = a then some (.frz { cls := .type "list", data := .seq vs.toArray } (.lst (ns.map V.int))) else none) (.inl (.inr ⟨_, top⟩))) ?_ ?_ ?_ fun _ => hk
    · intro b
      by_cases e : b = a
      · exact .inr ⟨_, _, if_pos e⟩
      · exact .inl (if_neg e)
    · intro b u z
      by_cases e : b = a
      · have z1 : some (HO.frz { cls := .type "list", data := .seq vs.toArray } (.lst (ns.map V.int))) = some u := (if_pos e).symm.trans z
        injection z1 with z1
        rw [← z1, e]
        exact ⟨ha, hlv, vs, _, rv, ha⟩
      · have z1 : (none : Option HO) = some u := (if_neg e).symm.trans z
        cases z1
    · intro b z
      by_cases e : b = a
      · exact e
      · exact absurd (if_neg e) z
  · have e := KX a o hk
    rw [ha] at e
    injection e with e
    subst e
    refine top_core KX hns hb hbb hlim hg ha hr F bind (want (fun _ => none) (.inr ⟨_, vs.toArray, _, hk, rfl, rfl, rfl, ?_, ?_⟩)) ?_ ?_ ?_ ?_
    · rw [List.size_toArray, hi.length]; exact hl
    · simpa using rv
    · exact fun _ => .inl rfl
    · intro b u z
      cases (show (none : Option HO) = some u from z)
    · exact fun b z => absurd rfl z
    · exact fun z => absurd rfl z
end
/-- what is left of a law: its text in the written part, and that the evaluator says True -/
theorem law_holds {l : PySem.W.OpenLaw} {n k : Nat} {q : Program} {loose : List Str} {XP : (Str → Option Value) → Heap → Prop} {YP : World → Heap → Prop} {d : DefRec} {K : Params → PySem.W.Frag} {G : Gl} {dL : Df} {x : Str}
    (hn : l.most = some n)
    (hn2 : n ≤ sizeLine)
    (hdf : d.params.defaults = [])
    (hr : Room k callerA)
    (hY : ∀ (w : World) (h : Heap), YP w h → (K w.params).In h)
    (hd : G.def? d.name = some dL)
    (hx : dL.ps = [x])
    (F : ∀ (w : World) (mg : Str → Option Value) (h : Heap), (K w.params).In h → h.Ns mainGlobals mg → GF (K w.params) mg G)
    (pure : ∀ ns : List Int, ns.length ≤ n → ∃ st, callAt G k d.name [.p (.scr ns)] [] = .ok (.p (.bl true)) st) :
    PySem.W.WalkO q loose XP YP l.row.toRowW d [] (fun f vs => PySem.call f vs) := by
  refine Att.attach_call hn hdf fun w s₀ s₁ mg mb fa o pm cd doc a vs ns G1 Y ho hd1 hcd hmg hobj hints hlen hg => ?_
  have KX := hY w _ Y
  have GG := F w mg _ KX G1.T.g
  obtain ⟨f, fd, D⟩ := GG.defs d.name dL hd
  have nm := def_name hd
  have ef : f = fa := by
    have h1 := D.at'
    rw [nm, hmg] at h1
    injection h1 with h1
    injection h1 with h1
    exact h1.symm
  subst ef
  have bind := D.bd s₁ [.ref a] KX (by rw [hx]; rfl)
  rw [hx] at bind
  refine top_call (k := k) (x := x) (sp := spE (K w.params) mg (callAt G k) dL) KX G1.T.g G1.T.b G1.T.builtins G1.T.nolimit hg hobj hints (Nat.le_trans hlen hn2) hr (fun base => ?_) bind fun H hS => ?_
  · rw [← hx]
    exact run_all GG k d.name dL hd f fd D
  · obtain ⟨st, e⟩ := pure ns hlen
    refine ⟨by rw [hx]; rfl, ⟨[], []⟩, [], [.p (.scr ns)], ?_, ⟨rep_scr_of hS ?_, trivial⟩, ?_⟩
    · exact ⟨rfl, fun _ _ _ h => by simp at h, fun _ _ h => by simp at h, fun _ _ h => by simp at h, fun _ h => by simp at h⟩
    · exact fun b z => z.elim (by simp) (by simp)
    · rw [nm, e]
      exact fun S' H' b _ _ r => rep_bl r
end Pz

set_option Elab.async false
set_option linter.all false
set_option maxRecDepth 100000
set_option maxHeartbeats 2000000
namespace Pz
open PySem L2
def topS (i : Nat) : Stmt := PySem.Challenge.pw_pairsopen_k23_primes.main.body.getD i (.Pass ⟨0, 0, 0, 0⟩)
def d0 : Df := ⟨"is_integer_below", ["bound", "thing"], ["bound", "thing"], defScope (topS 2), defBody (topS 2), [], false, []⟩
def d1 : Df := ⟨"is_prime", ["thing"], ["thing", "divisor"], defScope (topS 3), defBody (topS 3), [], false, [(0, ["thing"])]⟩
def d2 : Df := ⟨"next_prime", ["number"], ["number", "found"], defScope (topS 4), defBody (topS 4), [], false, [(0, ["number"])]⟩
def d3 : Df := ⟨"_law_deck", ["_law_script"], ["_law_script", "_law_cell", "_law_cells", "_law_mixed"], defScope (topS 6), defBody (topS 6), [24011024070, 24021024037], true, []⟩
def d4 : Df := ⟨"_law_draw", ["_law_deck_here", "_law_many"], ["_law_deck_here", "_law_many", "_law_mixed", "_law_cell"], defScope (topS 7), defBody (topS 7), [], false, []⟩
def d5 : Df := ⟨"_law_pick", ["_law_deck_here", "_law_some"], ["_law_deck_here", "_law_some"], defScope (topS 8), defBody (topS 8), [], false, []⟩
def d6 : Df := ⟨"_law_primes", [], ["_law_left", "_law_found", "_law_k"], defScope (topS 9), defBody (topS 9), [40051040053], false, []⟩
def d7 : Df := ⟨"_law_is_one", ["_law_known", "_law_it"], ["_law_known", "_law_it", "_law_k"], defScope (topS 10), defBody (topS 10), [], false, []⟩
def d8 : Df := ⟨"_law_odd", ["_law_deck_here", "_law_known"], ["_law_deck_here", "_law_known", "_law_way", "_law_odd_here"], defScope (topS 11), defBody (topS 11), [], false, []⟩
def d9 : Df := ⟨"_law_next", ["_law_known", "_law_it"], ["_law_known", "_law_it", "_law_found"], defScope (topS 12), defBody (topS 12), [], false, []⟩
def d10 : Df := ⟨"law", ["_law_script"], ["_law_script", "_law_deck_here", "_law_known", "_law_k", "_law_some", "_law_it", "_law_due"], defScope (topS 13), defBody (topS 13), [], false, []⟩
def GG : Gl := ⟨[d0, d1, d2, d3, d4, d5, d6, d7, d8, d9, d10], [("BEYOND_PRIMES", .int 1000000)]⟩
theorem sc0 : FnScope d0.N d0.ps d0.sc := ⟨rfl, rfl, rfl, by decide +kernel, rfl, by decide +kernel, by decide +kernel⟩
theorem df0 {K : PySem.W.Frag} {mg : Str → Option Value} {f : Addr} {oc : Value} {od an : Option Addr} {osl : Array (Option Value)} {kV doc pm cdv ct : Value} (a : mg "is_integer_below" = some (.ref f)) (k : PySem.W.keepIn K (.ref f) = true)
    (l : K.lookup f = some ⟨oc, od, .func (PySem.W.fnOf "is_integer_below" "is_integer_below" (defArgs (topS 2)) (defBody (topS 2)) (defScope (topS 2)) .none kV doc pm an cdv ct), osl⟩) (c : PySem.W.codeIn K cdv "is_integer_below" = true) : DfF K mg d0 f (PySem.W.fnOf "is_integer_below" "is_integer_below" (defArgs (topS 2)) (defBody (topS 2)) (defScope (topS 2)) .none kV doc pm an cdv ct) := by
  refine ⟨a, k, ⟨_, _, "is_integer_below", _, _, _, _, _, _, _, _, _, rfl, l, c⟩, sc0, .all fun us hl => match us, hl with | [_, _], _ => rfl, ?_⟩
  intro n ks ix hp hx s us ws _ h1 h2
  cases (show (n, ks) ∈ ([] : List (Nat × List Str)) from hp)
theorem sc1 : FnScope d1.N d1.ps d1.sc := ⟨rfl, rfl, rfl, by decide +kernel, rfl, by decide +kernel, by decide +kernel⟩
theorem df1 {K : PySem.W.Frag} {mg : Str → Option Value} {f : Addr} {oc : Value} {od an : Option Addr} {osl : Array (Option Value)} {kV doc pm cdv ct : Value} (a : mg "is_prime" = some (.ref f)) (k : PySem.W.keepIn K (.ref f) = true)
    (l : K.lookup f = some ⟨oc, od, .func (PySem.W.fnOf "is_prime" "is_prime" (defArgs (topS 3)) (defBody (topS 3)) (defScope (topS 3)) .none kV doc pm an cdv ct), osl⟩) (c : PySem.W.codeIn K cdv "is_prime" = true) : DfF K mg d1 f (PySem.W.fnOf "is_prime" "is_prime" (defArgs (topS 3)) (defBody (topS 3)) (defScope (topS 3)) .none kV doc pm an cdv ct) := by
  refine ⟨a, k, ⟨_, _, "is_prime", _, _, _, _, _, _, _, _, _, rfl, l, c⟩, sc1, .all fun us hl => match us, hl with | [_], _ => rfl, ?_⟩
  intro n ks ix hp hx s us ws _ h1 h2
  simp only [d1, List.mem_cons, List.not_mem_nil, or_false, Prod.mk.injEq] at hp
  obtain ⟨rfl, rfl⟩ := hp
  match us, ws, h1, h2 with
  | [], [w0], _, _ => exact ⟨[w0], by cases (show some [0] = some ix from hx); rfl, .of_eq rfl⟩
theorem sc2 : FnScope d2.N d2.ps d2.sc := ⟨rfl, rfl, rfl, by decide +kernel, rfl, by decide +kernel, by decide +kernel⟩
theorem df2 {K : PySem.W.Frag} {mg : Str → Option Value} {f : Addr} {oc : Value} {od an : Option Addr} {osl : Array (Option Value)} {kV doc pm cdv ct : Value} (a : mg "next_prime" = some (.ref f)) (k : PySem.W.keepIn K (.ref f) = true)
    (l : K.lookup f = some ⟨oc, od, .func (PySem.W.fnOf "next_prime" "next_prime" (defArgs (topS 4)) (defBody (topS 4)) (defScope (topS 4)) .none kV doc pm an cdv ct), osl⟩) (c : PySem.W.codeIn K cdv "next_prime" = true) : DfF K mg d2 f (PySem.W.fnOf "next_prime" "next_prime" (defArgs (topS 4)) (defBody (topS 4)) (defScope (topS 4)) .none kV doc pm an cdv ct) := by
  refine ⟨a, k, ⟨_, _, "next_prime", _, _, _, _, _, _, _, _, _, rfl, l, c⟩, sc2, .all fun us hl => match us, hl with | [_], _ => rfl, ?_⟩
  intro n ks ix hp hx s us ws _ h1 h2
  simp only [d2, List.mem_cons, List.not_mem_nil, or_false, Prod.mk.injEq] at hp
  obtain ⟨rfl, rfl⟩ := hp
  match us, ws, h1, h2 with
  | [], [w0], _, _ => exact ⟨[w0], by cases (show some [0] = some ix from hx); rfl, .of_eq rfl⟩
theorem sc3 : FnScope d3.N d3.ps d3.sc := ⟨rfl, rfl, rfl, by decide +kernel, rfl, by decide +kernel, by decide +kernel⟩
theorem df3 {K : PySem.W.Frag} {mg : Str → Option Value} {f : Addr} {oc : Value} {od an : Option Addr} {osl : Array (Option Value)} {kV doc pm cdv ct : Value} (a : mg "_law_deck" = some (.ref f)) (k : PySem.W.keepIn K (.ref f) = true)
    (l : K.lookup f = some ⟨oc, od, .func (PySem.W.fnOf "_law_deck" "_law_deck" (defArgs (topS 6)) (defBody (topS 6)) (defScope (topS 6)) .none kV doc pm an cdv ct), osl⟩) (c : PySem.W.codeIn K cdv "_law_deck" = true) : DfF K mg d3 f (PySem.W.fnOf "_law_deck" "_law_deck" (defArgs (topS 6)) (defBody (topS 6)) (defScope (topS 6)) .none kV doc pm an cdv ct) := by
  refine ⟨a, k, ⟨_, _, "_law_deck", _, _, _, _, _, _, _, _, _, rfl, l, c⟩, sc3, .all fun us hl => match us, hl with | [_], _ => rfl, ?_⟩
  intro n ks ix hp hx s us ws _ h1 h2
  cases (show (n, ks) ∈ ([] : List (Nat × List Str)) from hp)
theorem sc4 : FnScope d4.N d4.ps d4.sc := ⟨rfl, rfl, rfl, by decide +kernel, rfl, by decide +kernel, by decide +kernel⟩
theorem df4 {K : PySem.W.Frag} {mg : Str → Option Value} {f : Addr} {oc : Value} {od an : Option Addr} {osl : Array (Option Value)} {kV doc pm cdv ct : Value} (a : mg "_law_draw" = some (.ref f)) (k : PySem.W.keepIn K (.ref f) = true)
    (l : K.lookup f = some ⟨oc, od, .func (PySem.W.fnOf "_law_draw" "_law_draw" (defArgs (topS 7)) (defBody (topS 7)) (defScope (topS 7)) .none kV doc pm an cdv ct), osl⟩) (c : PySem.W.codeIn K cdv "_law_draw" = true) : DfF K mg d4 f (PySem.W.fnOf "_law_draw" "_law_draw" (defArgs (topS 7)) (defBody (topS 7)) (defScope (topS 7)) .none kV doc pm an cdv ct) := by
  refine ⟨a, k, ⟨_, _, "_law_draw", _, _, _, _, _, _, _, _, _, rfl, l, c⟩, sc4, .all fun us hl => match us, hl with | [_, _], _ => rfl, ?_⟩
  intro n ks ix hp hx s us ws _ h1 h2
  cases (show (n, ks) ∈ ([] : List (Nat × List Str)) from hp)
theorem sc5 : FnScope d5.N d5.ps d5.sc := ⟨rfl, rfl, rfl, by decide +kernel, rfl, by decide +kernel, by decide +kernel⟩
theorem df5 {K : PySem.W.Frag} {mg : Str → Option Value} {f : Addr} {oc : Value} {od an : Option Addr} {osl : Array (Option Value)} {kV doc pm cdv ct : Value} (a : mg "_law_pick" = some (.ref f)) (k : PySem.W.keepIn K (.ref f) = true)
    (l : K.lookup f = some ⟨oc, od, .func (PySem.W.fnOf "_law_pick" "_law_pick" (defArgs (topS 8)) (defBody (topS 8)) (defScope (topS 8)) .none kV doc pm an cdv ct), osl⟩) (c : PySem.W.codeIn K cdv "_law_pick" = true) : DfF K mg d5 f (PySem.W.fnOf "_law_pick" "_law_pick" (defArgs (topS 8)) (defBody (topS 8)) (defScope (topS 8)) .none kV doc pm an cdv ct) := by
  refine ⟨a, k, ⟨_, _, "_law_pick", _, _, _, _, _, _, _, _, _, rfl, l, c⟩, sc5, .all fun us hl => match us, hl with | [_, _], _ => rfl, ?_⟩
  intro n ks ix hp hx s us ws _ h1 h2
  cases (show (n, ks) ∈ ([] : List (Nat × List Str)) from hp)
theorem sc6 : FnScope d6.N d6.ps d6.sc := ⟨rfl, rfl, rfl, by decide +kernel, rfl, by decide +kernel, by decide +kernel⟩
theorem df6 {K : PySem.W.Frag} {mg : Str → Option Value} {f : Addr} {oc : Value} {od an : Option Addr} {osl : Array (Option Value)} {kV doc pm cdv ct : Value} (a : mg "_law_primes" = some (.ref f)) (k : PySem.W.keepIn K (.ref f) = true)
    (l : K.lookup f = some ⟨oc, od, .func (PySem.W.fnOf "_law_primes" "_law_primes" (defArgs (topS 9)) (defBody (topS 9)) (defScope (topS 9)) .none kV doc pm an cdv ct), osl⟩) (c : PySem.W.codeIn K cdv "_law_primes" = true) : DfF K mg d6 f (PySem.W.fnOf "_law_primes" "_law_primes" (defArgs (topS 9)) (defBody (topS 9)) (defScope (topS 9)) .none kV doc pm an cdv ct) := by
  refine ⟨a, k, ⟨_, _, "_law_primes", _, _, _, _, _, _, _, _, _, rfl, l, c⟩, sc6, .all fun us hl => match us, hl with | [], _ => rfl, ?_⟩
  intro n ks ix hp hx s us ws _ h1 h2
  cases (show (n, ks) ∈ ([] : List (Nat × List Str)) from hp)
theorem sc7 : FnScope d7.N d7.ps d7.sc := ⟨rfl, rfl, rfl, by decide +kernel, rfl, by decide +kernel, by decide +kernel⟩
theorem df7 {K : PySem.W.Frag} {mg : Str → Option Value} {f : Addr} {oc : Value} {od an : Option Addr} {osl : Array (Option Value)} {kV doc pm cdv ct : Value} (a : mg "_law_is_one" = some (.ref f)) (k : PySem.W.keepIn K (.ref f) = true)
    (l : K.lookup f = some ⟨oc, od, .func (PySem.W.fnOf "_law_is_one" "_law_is_one" (defArgs (topS 10)) (defBody (topS 10)) (defScope (topS 10)) .none kV doc pm an cdv ct), osl⟩) (c : PySem.W.codeIn K cdv "_law_is_one" = true) : DfF K mg d7 f (PySem.W.fnOf "_law_is_one" "_law_is_one" (defArgs (topS 10)) (defBody (topS 10)) (defScope (topS 10)) .none kV doc pm an cdv ct) := by
  refine ⟨a, k, ⟨_, _, "_law_is_one", _, _, _, _, _, _, _, _, _, rfl, l, c⟩, sc7, .all fun us hl => match us, hl with | [_, _], _ => rfl, ?_⟩
  intro n ks ix hp hx s us ws _ h1 h2
  cases (show (n, ks) ∈ ([] : List (Nat × List Str)) from hp)
theorem sc8 : FnScope d8.N d8.ps d8.sc := ⟨rfl, rfl, rfl, by decide +kernel, rfl, by decide +kernel, by decide +kernel⟩
theorem df8 {K : PySem.W.Frag} {mg : Str → Option Value} {f : Addr} {oc : Value} {od an : Option Addr} {osl : Array (Option Value)} {kV doc pm cdv ct : Value} (a : mg "_law_odd" = some (.ref f)) (k : PySem.W.keepIn K (.ref f) = true)
    (l : K.lookup f = some ⟨oc, od, .func (PySem.W.fnOf "_law_odd" "_law_odd" (defArgs (topS 11)) (defBody (topS 11)) (defScope (topS 11)) .none kV doc pm an cdv ct), osl⟩) (c : PySem.W.codeIn K cdv "_law_odd" = true) : DfF K mg d8 f (PySem.W.fnOf "_law_odd" "_law_odd" (defArgs (topS 11)) (defBody (topS 11)) (defScope (topS 11)) .none kV doc pm an cdv ct) := by
  refine ⟨a, k, ⟨_, _, "_law_odd", _, _, _, _, _, _, _, _, _, rfl, l, c⟩, sc8, .all fun us hl => match us, hl with | [_, _], _ => rfl, ?_⟩
  intro n ks ix hp hx s us ws _ h1 h2
  cases (show (n, ks) ∈ ([] : List (Nat × List Str)) from hp)
theorem sc9 : FnScope d9.N d9.ps d9.sc := ⟨rfl, rfl, rfl, by decide +kernel, rfl, by decide +kernel, by decide +kernel⟩
theorem df9 {K : PySem.W.Frag} {mg : Str → Option Value} {f : Addr} {oc : Value} {od an : Option Addr} {osl : Array (Option Value)} {kV doc pm cdv ct : Value} (a : mg "_law_next" = some (.ref f)) (k : PySem.W.keepIn K (.ref f) = true)
    (l : K.lookup f = some ⟨oc, od, .func (PySem.W.fnOf "_law_next" "_law_next" (defArgs (topS 12)) (defBody (topS 12)) (defScope (topS 12)) .none kV doc pm an cdv ct), osl⟩) (c : PySem.W.codeIn K cdv "_law_next" = true) : DfF K mg d9 f (PySem.W.fnOf "_law_next" "_law_next" (defArgs (topS 12)) (defBody (topS 12)) (defScope (topS 12)) .none kV doc pm an cdv ct) := by
  refine ⟨a, k, ⟨_, _, "_law_next", _, _, _, _, _, _, _, _, _, rfl, l, c⟩, sc9, .all fun us hl => match us, hl with | [_, _], _ => rfl, ?_⟩
  intro n ks ix hp hx s us ws _ h1 h2
  cases (show (n, ks) ∈ ([] : List (Nat × List Str)) from hp)
theorem sc10 : FnScope d10.N d10.ps d10.sc := ⟨rfl, rfl, rfl, by decide +kernel, rfl, by decide +kernel, by decide +kernel⟩
theorem df10 {K : PySem.W.Frag} {mg : Str → Option Value} {f : Addr} {oc : Value} {od an : Option Addr} {osl : Array (Option Value)} {kV doc pm cdv ct : Value} (a : mg "law" = some (.ref f)) (k : PySem.W.keepIn K (.ref f) = true)
    (l : K.lookup f = some ⟨oc, od, .func (PySem.W.fnOf "law" "law" (defArgs (topS 13)) (defBody (topS 13)) (defScope (topS 13)) .none kV doc pm an cdv ct), osl⟩) (c : PySem.W.codeIn K cdv "law" = true) : DfF K mg d10 f (PySem.W.fnOf "law" "law" (defArgs (topS 13)) (defBody (topS 13)) (defScope (topS 13)) .none kV doc pm an cdv ct) := by
  refine ⟨a, k, ⟨_, _, "law", _, _, _, _, _, _, _, _, _, rfl, l, c⟩, sc10, .all fun us hl => match us, hl with | [_], _ => rfl, ?_⟩
  intro n ks ix hp hx s us ws _ h1 h2
  cases (show (n, ks) ∈ ([] : List (Nat × List Str)) from hp)
theorem gf {K : PySem.W.Frag} {mg : Str → Option Value} {h : Heap} (X : K.In h) (N : h.Ns mainGlobals mg)
    {f0 : Addr} {od0 an0 : Option Addr} {sl0 : Array (Option Value)} {oc0 kV0 dc0 pm0 cd0 ct0 : Value}
    {f1 : Addr} {od1 an1 : Option Addr} {sl1 : Array (Option Value)} {oc1 kV1 dc1 pm1 cd1 ct1 : Value}
    {f2 : Addr} {od2 an2 : Option Addr} {sl2 : Array (Option Value)} {oc2 kV2 dc2 pm2 cd2 ct2 : Value}
    {f3 : Addr} {od3 an3 : Option Addr} {sl3 : Array (Option Value)} {oc3 kV3 dc3 pm3 cd3 ct3 : Value}
    {f4 : Addr} {od4 an4 : Option Addr} {sl4 : Array (Option Value)} {oc4 kV4 dc4 pm4 cd4 ct4 : Value}
    {f5 : Addr} {od5 an5 : Option Addr} {sl5 : Array (Option Value)} {oc5 kV5 dc5 pm5 cd5 ct5 : Value}
    {f6 : Addr} {od6 an6 : Option Addr} {sl6 : Array (Option Value)} {oc6 kV6 dc6 pm6 cd6 ct6 : Value}
    {f7 : Addr} {od7 an7 : Option Addr} {sl7 : Array (Option Value)} {oc7 kV7 dc7 pm7 cd7 ct7 : Value}
    {f8 : Addr} {od8 an8 : Option Addr} {sl8 : Array (Option Value)} {oc8 kV8 dc8 pm8 cd8 ct8 : Value}
    {f9 : Addr} {od9 an9 : Option Addr} {sl9 : Array (Option Value)} {oc9 kV9 dc9 pm9 cd9 ct9 : Value}
    {f10 : Addr} {od10 an10 : Option Addr} {sl10 : Array (Option Value)} {oc10 kV10 dc10 pm10 cd10 ct10 : Value}
    {t0 : Tok}
    (a0 : PySem.W.nsIn K mainGlobals "is_integer_below" = some (some (.ref f0)))
    (l0 : K.lookup f0 = some ⟨oc0, od0, .func (PySem.W.fnOf "is_integer_below" "is_integer_below" (defArgs (topS 2)) (defBody (topS 2)) (defScope (topS 2)) .none kV0 dc0 pm0 an0 cd0 ct0), sl0⟩)
    (c0 : PySem.W.codeIn K cd0 "is_integer_below" = true) (k0 : PySem.W.keepIn K (.ref f0) = true)
    (a1 : PySem.W.nsIn K mainGlobals "is_prime" = some (some (.ref f1)))
    (l1 : K.lookup f1 = some ⟨oc1, od1, .func (PySem.W.fnOf "is_prime" "is_prime" (defArgs (topS 3)) (defBody (topS 3)) (defScope (topS 3)) .none kV1 dc1 pm1 an1 cd1 ct1), sl1⟩)
    (c1 : PySem.W.codeIn K cd1 "is_prime" = true) (k1 : PySem.W.keepIn K (.ref f1) = true)
    (a2 : PySem.W.nsIn K mainGlobals "next_prime" = some (some (.ref f2)))
    (l2 : K.lookup f2 = some ⟨oc2, od2, .func (PySem.W.fnOf "next_prime" "next_prime" (defArgs (topS 4)) (defBody (topS 4)) (defScope (topS 4)) .none kV2 dc2 pm2 an2 cd2 ct2), sl2⟩)
    (c2 : PySem.W.codeIn K cd2 "next_prime" = true) (k2 : PySem.W.keepIn K (.ref f2) = true)
    (a3 : PySem.W.nsIn K mainGlobals "_law_deck" = some (some (.ref f3)))
    (l3 : K.lookup f3 = some ⟨oc3, od3, .func (PySem.W.fnOf "_law_deck" "_law_deck" (defArgs (topS 6)) (defBody (topS 6)) (defScope (topS 6)) .none kV3 dc3 pm3 an3 cd3 ct3), sl3⟩)
    (c3 : PySem.W.codeIn K cd3 "_law_deck" = true) (k3 : PySem.W.keepIn K (.ref f3) = true)
    (a4 : PySem.W.nsIn K mainGlobals "_law_draw" = some (some (.ref f4)))
    (l4 : K.lookup f4 = some ⟨oc4, od4, .func (PySem.W.fnOf "_law_draw" "_law_draw" (defArgs (topS 7)) (defBody (topS 7)) (defScope (topS 7)) .none kV4 dc4 pm4 an4 cd4 ct4), sl4⟩)
    (c4 : PySem.W.codeIn K cd4 "_law_draw" = true) (k4 : PySem.W.keepIn K (.ref f4) = true)
    (a5 : PySem.W.nsIn K mainGlobals "_law_pick" = some (some (.ref f5)))
    (l5 : K.lookup f5 = some ⟨oc5, od5, .func (PySem.W.fnOf "_law_pick" "_law_pick" (defArgs (topS 8)) (defBody (topS 8)) (defScope (topS 8)) .none kV5 dc5 pm5 an5 cd5 ct5), sl5⟩)
    (c5 : PySem.W.codeIn K cd5 "_law_pick" = true) (k5 : PySem.W.keepIn K (.ref f5) = true)
    (a6 : PySem.W.nsIn K mainGlobals "_law_primes" = some (some (.ref f6)))
    (l6 : K.lookup f6 = some ⟨oc6, od6, .func (PySem.W.fnOf "_law_primes" "_law_primes" (defArgs (topS 9)) (defBody (topS 9)) (defScope (topS 9)) .none kV6 dc6 pm6 an6 cd6 ct6), sl6⟩)
    (c6 : PySem.W.codeIn K cd6 "_law_primes" = true) (k6 : PySem.W.keepIn K (.ref f6) = true)
    (a7 : PySem.W.nsIn K mainGlobals "_law_is_one" = some (some (.ref f7)))
    (l7 : K.lookup f7 = some ⟨oc7, od7, .func (PySem.W.fnOf "_law_is_one" "_law_is_one" (defArgs (topS 10)) (defBody (topS 10)) (defScope (topS 10)) .none kV7 dc7 pm7 an7 cd7 ct7), sl7⟩)
    (c7 : PySem.W.codeIn K cd7 "_law_is_one" = true) (k7 : PySem.W.keepIn K (.ref f7) = true)
    (a8 : PySem.W.nsIn K mainGlobals "_law_odd" = some (some (.ref f8)))
    (l8 : K.lookup f8 = some ⟨oc8, od8, .func (PySem.W.fnOf "_law_odd" "_law_odd" (defArgs (topS 11)) (defBody (topS 11)) (defScope (topS 11)) .none kV8 dc8 pm8 an8 cd8 ct8), sl8⟩)
    (c8 : PySem.W.codeIn K cd8 "_law_odd" = true) (k8 : PySem.W.keepIn K (.ref f8) = true)
    (a9 : PySem.W.nsIn K mainGlobals "_law_next" = some (some (.ref f9)))
    (l9 : K.lookup f9 = some ⟨oc9, od9, .func (PySem.W.fnOf "_law_next" "_law_next" (defArgs (topS 12)) (defBody (topS 12)) (defScope (topS 12)) .none kV9 dc9 pm9 an9 cd9 ct9), sl9⟩)
    (c9 : PySem.W.codeIn K cd9 "_law_next" = true) (k9 : PySem.W.keepIn K (.ref f9) = true)
    (a10 : PySem.W.nsIn K mainGlobals "law" = some (some (.ref f10)))
    (l10 : K.lookup f10 = some ⟨oc10, od10, .func (PySem.W.fnOf "law" "law" (defArgs (topS 13)) (defBody (topS 13)) (defScope (topS 13)) .none kV10 dc10 pm10 an10 cd10 ct10), sl10⟩)
    (c10 : PySem.W.codeIn K cd10 "law" = true) (k10 : PySem.W.keepIn K (.ref f10) = true)
    (v0 : PySem.W.nsIn K mainGlobals "BEYOND_PRIMES" = some (some (.int 1000000 t0)))
    (z0 : PySem.W.nsIn K mainGlobals "len" = some none)
    (z1 : PySem.W.nsIn K mainGlobals "int" = some none)
    (z2 : PySem.W.nsIn K mainGlobals "list" = some none)
    (z3 : PySem.W.nsIn K mainGlobals "tuple" = some none)
    (z4 : PySem.W.nsIn K mainGlobals "max" = some none)
    (z5 : PySem.W.nsIn K mainGlobals "min" = some none)
    (z6 : PySem.W.nsIn K mainGlobals "sum" = some none)
    (z7 : PySem.W.nsIn K mainGlobals "all" = some none)
    (z8 : PySem.W.nsIn K mainGlobals "any" = some none)
    (z9 : PySem.W.nsIn K mainGlobals "sorted" = some none)
    (z10 : PySem.W.nsIn K mainGlobals "repr" = some none)
    (z11 : PySem.W.nsIn K mainGlobals "str" = some none)
    (z12 : PySem.W.nsIn K mainGlobals "bool" = some none)
    (z13 : PySem.W.nsIn K mainGlobals "abs" = some none)
    (z14 : PySem.W.nsIn K mainGlobals "range" = some none)
    (z15 : PySem.W.nsIn K mainGlobals "isinstance" = some none)
    (z16 : PySem.W.nsIn K mainGlobals "dict" = some none) : GF K mg GG := by
  refine ⟨?_, ?_, ?_⟩
  · simp only [bltNames, List.forall_mem_cons, List.not_mem_nil, false_implies, implies_true, and_true]
    exact ⟨PySem.W.mg_none_of X N z0, PySem.W.mg_none_of X N z1, PySem.W.mg_none_of X N z2, PySem.W.mg_none_of X N z3, PySem.W.mg_none_of X N z4, PySem.W.mg_none_of X N z5, PySem.W.mg_none_of X N z6, PySem.W.mg_none_of X N z7, PySem.W.mg_none_of X N z8, PySem.W.mg_none_of X N z9, PySem.W.mg_none_of X N z10, PySem.W.mg_none_of X N z11, PySem.W.mg_none_of X N z12, PySem.W.mg_none_of X N z13, PySem.W.mg_none_of X N z14, PySem.W.mg_none_of X N z15, PySem.W.mg_none_of X N z16⟩
  · intro x p hp
    have hm := PySem.mem_of_lookup hp
    revert hm
    generalize hq : (x, p) = q
    have all : ∀ q ∈ GG.consts, ∃ u v, mg q.1 = some u ∧ RelV v u ∧ ∀ L H, RepP K mg L H v q.2 := by
      show ∀ q ∈ [(("BEYOND_PRIMES" : Str), (.int 1000000 : P))], _
      simp only [List.forall_mem_cons, List.not_mem_nil, false_implies, implies_true, and_true]
      exact ⟨_, .int 1000000, PySem.W.mg_of X N v0, ⟨_, rfl⟩, fun L H => by simp only [RepP]⟩
    intro hm
    have r := all q hm
    subst hq
    exact r
  · intro x d hd
    have hm : d ∈ GG.defs := List.mem_of_find?_eq_some hd
    revert d
    suffices all : ∀ d ∈ GG.defs, ∃ f fd, DfF K mg d f fd from fun d _ hm => all d hm
    show ∀ d ∈ [d0, d1, d2, d3, d4, d5, d6, d7, d8, d9, d10], _
    simp only [List.forall_mem_cons, List.not_mem_nil, false_implies, implies_true, and_true]
    exact ⟨⟨_, _, df0 (PySem.W.mg_of X N a0) k0 l0 c0⟩, ⟨_, _, df1 (PySem.W.mg_of X N a1) k1 l1 c1⟩, ⟨_, _, df2 (PySem.W.mg_of X N a2) k2 l2 c2⟩, ⟨_, _, df3 (PySem.W.mg_of X N a3) k3 l3 c3⟩, ⟨_, _, df4 (PySem.W.mg_of X N a4) k4 l4 c4⟩, ⟨_, _, df5 (PySem.W.mg_of X N a5) k5 l5 c5⟩, ⟨_, _, df6 (PySem.W.mg_of X N a6) k6 l6 c6⟩, ⟨_, _, df7 (PySem.W.mg_of X N a7) k7 l7 c7⟩, ⟨_, _, df8 (PySem.W.mg_of X N a8) k8 l8 c8⟩, ⟨_, _, df9 (PySem.W.mg_of X N a9) k9 l9 c9⟩, ⟨_, _, df10 (PySem.W.mg_of X N a10) k10 l10 c10⟩⟩
theorem b0 (call : Caller) : bodyOf GG call d0 =
  sRet
    (cAnd (cIsi Ty.int (cName 1))
      (cAnd (cNot (cIsi Ty.bool (cName 1))) (cChn CmpOp.LtE CmpOp.Lt (cP (P.int 0)) (cName 1) (cName 0)))) := rfl
theorem b1 (call : Caller) : bodyOf GG call d1 =
  sSeq
    (sIf
      (bTru
        (cOr
          (cNot
            (cCall call "is_integer_below"
              (aCons (cP (P.int 1000000)) (aCons (cName 0) aNil))))
          (cCmp CmpOp.Lt (cName 0) (cP (P.int 2)))))
      (sRet (cP (P.bl false))) sNext)
    (sSeq (sSet (tNm 1) (cP (P.int 2)))
      (sSeq
        (sWh (bTru (cCmp CmpOp.LtE (cBin Operator.Mult false (cName 1) (cName 1)) (cName 0)))
          (sSeq
            (sIf (bTru (cCmp CmpOp.Eq (cBin Operator.Mod false (cName 0) (cName 1)) (cP (P.int 0))))
              (sRet (cP (P.bl false))) sNext)
            (sAug 1 Operator.Add (cP (P.int 1)))))
        (sRet (cP (P.bl true))))) := rfl
theorem b2 (call : Caller) : bodyOf GG call d2 =
  sSeq (sSet (tNm 1) (cBi Bi.max false (aCons (cName 0) (aCons (cP (P.int 2)) aNil))))
    (sSeq
      (sWh (bTru (cNot (cCall call "is_prime" (aCons (cName 1) aNil))))
        (sAug 1 Operator.Add (cP (P.int 1))))
      (sRet (cName 1))) := rfl
theorem b3 (call : Caller) : bodyOf GG call d3 =
  sSeq
    (sPar [tNm 2, tNm 3]
      (aCons (cBi Bi.list false (aCons (cSl false (cName 0) oNone (oSome (cP (P.int 63)))) aNil))
        (aCons (cP (P.int 136823)) aNil)))
    (sSeq
      (sFor (iVal (cName 2)) (tNm 1)
        (sSet (tNm 3)
          (cBin Operator.Mod false
            (cBi Bi.int false
              (aCons
                (cBin Operator.Add false
                  (cBin Operator.Add false (cBin Operator.Mult false (cName 3) (cP (P.int 39373)))
                    (cBin Operator.Mod false (cBi Bi.int false (aCons (cName 1) aNil))
                      (cP (P.int 2147483563))))
                  (cP (P.int 234)))
                aNil))
            (cP (P.int 2147483629)))))
      (sRet
        (cDic true [Sum.inr "cells", Sum.inr "mixed", Sum.inr "turn"]
          (aCons (cRev true (cName 2)) (aCons (cName 3) (aCons (cP (P.int 0)) aNil)))))) := rfl
theorem b4 (call : Caller) : bodyOf GG call d4 =
  sSeq
    (sPut (cName 0) (cP (P.str "turn"))
      (cBin Operator.Add false (cIx (cName 0) (cP (P.str "turn"))) (cP (P.int 1))))
    (sSeq
      (sSet (tNm 2)
        (cBin Operator.Add false (cIx (cName 0) (cP (P.str "mixed")))
          (cBin Operator.Mult false
            (cBin Operator.Mult false (cP (P.int 60923)) (cIx (cName 0) (cP (P.str "turn"))))
            (cIx (cName 0) (cP (P.str "turn"))))))
      (sSeq
        (sIf (bTru (cCmp CmpOp.NotEq (cIx (cName 0) (cP (P.str "cells"))) (cLst false aNil)))
          (sSeq (sSet (tNm 3) (cMe Me.pop false (cIx (cName 0) (cP (P.str "cells"))) aNil))
            (sSeq
              (sIf
                (bTru
                  (cCmp CmpOp.GtE (cName 3)
                    (cBin Operator.Pow false (cP (P.int 10)) (cP (P.int 18)))))
                (sSeq
                  (sExp
                    (cMe Me.append false (cIx (cName 0) (cP (P.str "cells")))
                      (aCons (cBin Operator.FloorDiv false (cName 3) (cName 1)) aNil)))
                  (sRet (cBin Operator.Mod false (cBi Bi.int false (aCons (cName 3) aNil)) (cName 1))))
                sNext)
              (sSet (tNm 2)
                (cBin Operator.Add false (cName 2)
                  (cBin Operator.Mod false (cBi Bi.int false (aCons (cName 3) aNil))
                    (cP (P.int 2147483587)))))))
          sNext)
        (sSeq
          (sSet (tNm 2)
            (cBin Operator.Mod false
              (cBi Bi.int false
                (aCons
                  (cBin Operator.Add false
                    (cBin Operator.Mult false (cBin Operator.Mod false (cName 2) (cP (P.int 2147483579)))
                      (cP (P.int 48271)))
                    (cIx (cName 0) (cP (P.str "turn"))))
                  aNil))
              (cP (P.int 2147483647))))
          (sSeq
            (sSet (tNm 2)
              (cBin Operator.Mod false
                (cBi Bi.int false
                  (aCons
                    (cBin Operator.Add false
                      (cBin Operator.Add false (cBin Operator.Mult false (cName 2) (cName 2))
                        (cBin Operator.Mult false (cP (P.int 40692))
                          (cIx (cName 0) (cP (P.str "turn")))))
                      (cP (P.int 54)))
                    aNil))
                (cP (P.int 2147483563))))
            (sRet
              (cBin Operator.Mod false
                (cBin Operator.FloorDiv false
                  (cBin Operator.Mod false
                    (cBi Bi.int false (aCons (cBin Operator.Mult false (cName 2) (cP (P.int 69621))) aNil))
                    (cP (P.int 2147483629)))
                  (cP (P.int 64)))
                (cName 1))))))) := rfl
theorem b5 (call : Caller) : bodyOf GG call d5 =
  sRet
    (cIx (cName 1)
      (cCall call "_law_draw" (aCons (cName 0) (aCons (cBi Bi.len false (aCons (cName 1) aNil)) aNil)))) := rfl
theorem b6 (call : Caller) : bodyOf GG call d6 =
  sSeq
    (sPar [tNm 0, tNm 1]
      (aCons (cLRg false (iRg2 (cP (P.int 2)) (cP (P.int 1000)))) (aCons (cLst true aNil) aNil)))
    (sSeq
      (sWh (bTru (cCmp CmpOp.NotEq (cName 0) (cLst false aNil)))
        (sSeq (sExp (cMe Me.append false (cName 1) (aCons (cIx (cName 0) (cP (P.int 0))) aNil)))
          (sSet (tNm 0)
            (cLc false [2] (iVal (cName 0)) (tNm 2)
              (bTru
                (cCmp CmpOp.NotEq (cBin Operator.Mod false (cName 2) (cIx (cName 0) (cP (P.int 0))))
                  (cP (P.int 0))))
              (cName 2)))))
      (sRet (cName 1))) := rfl
theorem b7 (call : Caller) : bodyOf GG call d7 =
  sSeq
    (sIf
      (bTru
        (cOr (cNot (cIsi Ty.int (cName 1)))
          (cOr (cIsi Ty.bool (cName 1))
            (cNot
              (cChn CmpOp.Lt CmpOp.Lt (cP (P.int 1)) (cName 1)
                (cBin Operator.Pow false (cP (P.int 10)) (cP (P.int 6))))))))
      (sRet (cP (P.bl false))) sNext)
    (sRet
      (cCmp CmpOp.Eq
        (cLc false [2] (iVal (cName 0)) (tNm 2)
          (bTru
            (cAnd (cCmp CmpOp.LtE (cBin Operator.Mult false (cName 2) (cName 2)) (cName 1))
              (cCmp CmpOp.Eq (cBin Operator.Mod false (cName 1) (cName 2)) (cP (P.int 0)))))
          (cName 2))
        (cLst false aNil))) := rfl
theorem b8 (call : Caller) : bodyOf GG call d8 =
  sSeq (sSet (tNm 2) (cCall call "_law_draw" (aCons (cName 0) (aCons (cP (P.int 8)) aNil))))
    (sSeq
      (sIf (bTru (cCmp CmpOp.Eq (cName 2) (cP (P.int 0))))
        (sRet
          (cBin Operator.Mult false (cCall call "_law_pick" (aCons (cName 0) (aCons (cName 1) aNil)))
            (cCall call "_law_pick" (aCons (cName 0) (aCons (cName 1) aNil)))))
        sNext)
      (sSeq
        (sIf (bTru (cCmp CmpOp.Eq (cName 2) (cP (P.int 1))))
          (sRet
            (cCall call "_law_draw"
              (aCons (cName 0)
                (aCons (cBin Operator.Pow false (cP (P.int 10)) (cP (P.int 6))) aNil))))
          sNext)
        (sSeq
          (sIf (bTru (cCmp CmpOp.Eq (cName 2) (cP (P.int 2))))
            (sRet
              (cBin Operator.Sub false
                (cCall call "_law_draw" (aCons (cName 0) (aCons (cP (P.int 1000)) aNil)))
                (cP (P.int 10))))
            sNext)
          (sSeq
            (sIf (bTru (cCmp CmpOp.Eq (cName 2) (cP (P.int 3))))
              (sRet
                (cCall call "_law_pick"
                  (aCons (cName 0)
                    (aCons
                      (cLst false
                        (aCons (cP (P.int 0))
                          (aCons (cP (P.int 1))
                            (aCons (cP (P.int 2))
                              (aCons (cP (P.int 3))
                                (aCons (cP (P.int 4))
                                  (aCons (cP (P.int 961))
                                    (aCons (cP (P.int 1009))
                                      (aCons (cP (P.int 65537))
                                        (aCons (cP (P.int 99991))
                                          (aCons (cP (P.int 999983))
                                            (aCons (cP (P.int 994009))
                                              (aCons
                                                (cBin Operator.Pow false (cP (P.int 10))
                                                  (cP (P.int 6)))
                                                (aCons (cP (P.int 1000003))
                                                  (aCons (cP (P.int 1299709)) aNil)))))))))))))))
                      aNil))))
              sNext)
            (sSeq
              (sIf (bTru (cCmp CmpOp.Eq (cName 2) (cP (P.int 4))))
                (sRet (cCall call "_law_pick" (aCons (cName 0) (aCons (cName 1) aNil)))) sNext)
              (sSeq
                (sSet (tNm 3)
                  (cLst false
                    (aCons (cP P.non)
                      (aCons (cP (P.bl true))
                        (aCons (cP (P.bl false))
                          (aCons (cP (P.str "2"))
                            (aCons (cP (P.str ""))
                              (aCons (cTup (aCons (cP (P.int 2)) aNil))
                                (aCons (cLst false (aCons (cP (P.int 3)) aNil))
                                  (aCons (cDic false [] aNil)
                                    (aCons (cDic false [Sum.inl 5] (aCons (cP (P.int 7)) aNil))
                                      (aCons
                                        (cBin Operator.Pow false (cP (P.int 10)) (cP (P.int 39)))
                                        (aCons
                                          (cBin Operator.Add false
                                            (cBin Operator.Pow false (cP (P.int 10))
                                              (cP (P.int 39)))
                                            (cP (P.int 7)))
                                          (aCons (cNeg (cP (P.int 7)))
                                            (aCons
                                              (cNeg
                                                (cBin Operator.Pow false (cP (P.int 10))
                                                  (cP (P.int 39))))
                                              (aCons (cTup aNil)
                                                (aCons (cP (P.str "7")) aNil)))))))))))))))))
                (sRet (cCall call "_law_pick" (aCons (cName 0) (aCons (cName 3) aNil)))))))))) := rfl
theorem b9 (call : Caller) : bodyOf GG call d9 =
  sSeq (sSet (tNm 2) (cBi Bi.max false (aCons (cName 1) (aCons (cP (P.int 2)) aNil))))
    (sSeq
      (sWh (bTru (cNot (cCall call "_law_is_one" (aCons (cName 0) (aCons (cName 2) aNil)))))
        (sSet (tNm 2) (cBin Operator.Add false (cName 2) (cP (P.int 1)))))
      (sRet (cName 2))) := rfl
theorem b10 (call : Caller) : bodyOf GG call d10 =
  sSeq (sSet (tNm 1) (cCall call "_law_deck" (aCons (cName 0) aNil)))
    (sSeq (sSet (tNm 2) (cCall call "_law_primes" aNil))
      (sSeq
        (sFor (iRg1 (cP (P.int 16))) (tNm 3)
          (sSeq (sSet (tNm 5) (cCall call "_law_odd" (aCons (cName 1) (aCons (cName 2) aNil))))
            (sSeq (sSet (tNm 6) (cCall call "_law_is_one" (aCons (cName 2) (aCons (cName 5) aNil))))
              (sIf
                (bTru
                  (cCmp CmpOp.NotEq
                    (cBi Bi.repr false
                      (aCons
                        (cLst false
                          (aCons (cCall call "is_prime" (aCons (cName 5) aNil))
                            (aCons (cCallK call "is_prime" [0] aNil (aCons (cName 5) aNil)) aNil)))
                        aNil))
                    (cBi Bi.repr false (aCons (cLst false (aCons (cName 6) (aCons (cName 6) aNil))) aNil))))
                (sRet (cP (P.bl false))) sNext))))
        (sSeq
          (sFor (iRg1 (cP (P.int 6))) (tNm 3)
            (sSeq
              (sSet (tNm 5)
                (cCall call "_law_pick"
                  (aCons (cName 1)
                    (aCons
                      (cLst false
                        (aCons (cNeg (cP (P.int 5)))
                          (aCons (cP (P.int 0))
                            (aCons (cP (P.int 1))
                              (aCons (cP (P.int 2))
                                (aCons (cP (P.int 3))
                                  (aCons (cP (P.int 113))
                                    (aCons (cP (P.int 114))
                                      (aCons (cP (P.int 99991))
                                        (aCons (cP (P.int 99992))
                                          (aCons (cP (P.int 99999))
                                            (aCons
                                              (cCall call "_law_draw"
                                                (aCons (cName 1)
                                                  (aCons
                                                    (cBin Operator.Pow false (cP (P.int 10))
                                                      (cP (P.int 5)))
                                                    aNil)))
                                              aNil))))))))))))
                      aNil))))
              (sSeq (sSet (tNm 6) (cCall call "_law_next" (aCons (cName 2) (aCons (cName 5) aNil))))
                (sIf
                  (bTru
                    (cCmp CmpOp.NotEq
                      (cBi Bi.repr false
                        (aCons
                          (cLst false
                            (aCons (cCall call "next_prime" (aCons (cName 5) aNil))
                              (aCons (cCallK call "next_prime" [0] aNil (aCons (cName 5) aNil))
                                (aCons (cCall call "next_prime" (aCons (cName 6) aNil)) aNil))))
                          aNil))
                      (cBi Bi.repr false
                        (aCons (cLst false (aCons (cName 6) (aCons (cName 6) (aCons (cName 6) aNil)))) aNil))))
                  (sRet (cP (P.bl false))) sNext))))
          (sSeq
            (sSet (tNm 4)
              (cLst false
                (aCons (cP (P.int 341))
                  (aCons (cP (P.int 561))
                    (aCons (cP (P.int 645))
                      (aCons (cP (P.int 1105))
                        (aCons (cP (P.int 1729))
                          (aCons (cP (P.int 2047))
                            (aCons (cP (P.int 2465))
                              (aCons (cP (P.int 3277))
                                (aCons (cP (P.int 4033))
                                  (aCons (cP (P.int 15841))
                                    (aCons (cP (P.int 29341))
                                      (aCons (cP (P.int 65281))
                                        (aCons (cP (P.int 486737))
                                          (aCons (cP (P.int 873181)) aNil))))))))))))))))
            (sSeq
              (sIf
                (bTru
                  (cOr
                    (cCmp CmpOp.NotEq
                      (cLc false [5] (iVal (cName 4)) (tNm 5)
                        (bTru
                          (cCmp CmpOp.IsNot (cCall call "is_prime" (aCons (cName 5) aNil))
                            (cP (P.bl false))))
                        (cName 5))
                      (cLst false aNil))
                    (cCmp CmpOp.NotEq (cCall call "next_prime" (aCons (cP (P.int 2047)) aNil))
                      (cP (P.int 2053)))))
                (sRet (cP (P.bl false))) sNext)
              (sRet
                (cCmp CmpOp.Eq
                  (cBi Bi.repr false
                    (aCons
                      (cLc false [3] (iRg1 (cP (P.int 9))) (tNm 3) bYes
                        (cCall call "is_prime" (aCons (cName 3) aNil)))
                      aNil))
                  (cBi Bi.repr false
                    (aCons
                      (cLc false [3] (iRg1 (cP (P.int 9))) (tNm 3) bYes
                        (cCmp CmpOp.In (cName 3)
                          (cTup
                            (aCons (cP (P.int 2))
                              (aCons (cP (P.int 3))
                                (aCons (cP (P.int 5)) (aCons (cP (P.int 7)) aNil)))))))
                      aNil))))))))) := rfl
end Pz

set_option Elab.async false
set_option linter.all false
set_option maxRecDepth 100000
set_option maxHeartbeats 4000000
namespace Pz
open PySem L2
theorem Res.bind_k {α β : Type} (a : α) (st : Sto) (k : α → Sto → Res β) : Res.bind (.ok a st) k = k a st := rfl
theorem run_df (G : Gl) (call : Caller) (d : Df) (vs : List Vl) (st : Sto) (h : vs.length = d.ps.length) : runDf G call d vs st = (bodyOf G call d (vs.map some ++ List.replicate (d.N.length - vs.length) none) st).bind fun q s1 =>
      match q.1 with
      | .ret v => if d.keep then .ok v s1 else leave st.length v s1
      | .next => if d.keep then .ok (.p .non) s1 else leave st.length (.p .non) s1
      | _ => .bad := by unfold runDf; rw [if_pos h] <;> rfl
theorem c4 (k : Nat) (vs : List Vl) (st : Sto) : callAt GG (k + 1) "_law_draw" vs st = runDf GG (callAt GG k) d4 vs st := rfl
theorem c3 (k : Nat) (vs : List Vl) (st : Sto) : callAt GG (k + 1) "_law_deck" vs st = runDf GG (callAt GG k) d3 vs st := rfl
/-- the deck in the store -/
def DK (cells : List Int) (m t : Int) : Sto := [.lst (cells.map fun i => .p (.int i)), .dic [.inr "cells", .inr "mixed", .inr "turn"] [.loc 0, .p (.int m), .p (.int t)]]
theorem int_lst (cells : List Int) : dataPs (cells.map .int) = some (cells.map .int) := by
  induction cells with
  | nil => rfl
  | cons i r ih => show (match dataP (.int i) with | some d => (dataPs (r.map .int)).map (d :: ·) | none => none) = _; rw [ih]; rfl

theorem eqv_all_nil (xs : List PyData) : PyData.eqvAll xs [] = xs.isEmpty := by cases xs <;> rfl
theorem depth_ints (ns : List Int) : PyData.depthAll (ns.map .int) = 0 := by
  induction ns with
  | nil => rfl
  | cons i r ih => show max (PyData.depth (.int i)) (PyData.depthAll (r.map .int)) = 0; rw [ih]; rfl
theorem lay_ints (ns : List Int) : PyData.canLayAll0 (ns.map .int) = true := by
  induction ns with
  | nil => rfl
  | cons i r ih => show (PyData.canLay0 (.int i) && PyData.canLayAll0 (r.map .int)) = true; rw [ih]; rfl
theorem eq_nil (ns : List Int) : eqD (.lst (ns.map .int)) (.lst []) = some ns.isEmpty := by
  have h : dataP (.lst (ns.map .int)) = some (.list (ns.map .int)) := by
    show (dataPs (ns.map .int)).map PyData.list = _
    rw [int_lst]; rfl
  have h2 : dataP (.lst []) = some (.list []) := rfl
  unfold eqD
  rw [h, h2]
  have hs : SeqAt.shaped (.list (ns.map .int)) = true := by
    unfold SeqAt.shaped
    rw [show PyData.canLay0 (.list (ns.map .int)) = true from lay_ints ns, show PyData.depth (.list (ns.map .int)) = PyData.depthAll (ns.map .int) + 1 by simp only [PyData.depth], depth_ints]; rfl
  show (if SeqAt.shaped (.list (ns.map .int)) && SeqAt.shaped (.list []) then some (PyData.eqv (.list (ns.map .int)) (.list [])) else none) = _
  rw [hs, show SeqAt.shaped (.list []) = true from rfl]
  show some (PyData.eqvAll (ns.map .int) []) = _
  rw [eqv_all_nil, List.isEmpty_map]
theorem peeks_ints (st : Sto) (n : Nat) (ns : List Int) : peeks st n (ns.map fun i => .p (.int i)) = some (ns.map .int) := by
  induction ns with
  | nil => rw [List.map_nil, peeks]; rfl
  | cons i r ih => rw [List.map_cons, peeks, ih]; rw [show peek st n (.p (.int i)) = some (.int i) by cases n <;> simp [peek]]; rfl
theorem pk_lst (st : Sto) (n : Nat) (ns : List Int) (h : st[n]? = some (.lst (ns.map fun i => .p (.int i)))) : pk (.loc n) st = some (.lst (ns.map .int)) := by
  unfold pk deep
  simp only [peek, h, peeks_ints, Option.map_some]
theorem pk_p (st : Sto) (x : P) : pk (.p x) st = some x := by
  unfold pk deep
  simp only [peek]
theorem ix_turn (c m t) : ixV (.loc 1) (.p (.str "turn")) (DK c m t) = some (.p (.int t)) := rfl
theorem ix_mixed (c m t) : ixV (.loc 1) (.p (.str "mixed")) (DK c m t) = some (.p (.int m)) := rfl
theorem ix_cells (c m t) : ixV (.loc 1) (.p (.str "cells")) (DK c m t) = some (.loc 0) := rfl
theorem put_turn (c m t x) : setV (.loc 1) (.p (.str "turn")) (.p (.int x)) (DK c m t) = some (DK c m x) := rfl
theorem ne_cells (c m t) : cmpV .NotEq (.loc 0) (.p (.lst [])) (DK c m t) = some (!c.isEmpty) := by
  show (match pk (.loc 0) (DK c m t), pk (.p (.lst [])) (DK c m t) with
    | some x, some y => (eqD x y).map (!·)
    | _, _ => none) = _
  rw [pk_lst (DK c m t) 0 c rfl, pk_p]
  show (eqD (.lst (c.map .int)) (.lst [])).map (!·) = _
  rw [eq_nil]; rfl
theorem lo_cells (c m t) : listOf (.loc 0) (DK c m t) = some (c.map fun i => Vl.p (.int i)) := rfl
theorem app_cells (c m t) (x : Int) (h : c.length < 1000) : meV .append false (.loc 0) [.p (.int x)] (DK c m t) = .ok (.p .non) (DK (c ++ [x]) m t) := by
  show (if (c.map fun i => Vl.p (.int i)).length < sizeLine then Res.ok (Vl.p .non) ((DK c m t).set 0 (.lst ((c.map fun i => Vl.p (.int i)) ++ [Vl.p (.int x)]))) else .bad) = _
  rw [if_pos (by rw [List.length_map]; exact Nat.lt_of_lt_of_le h (by decide))]
  unfold DK
  rw [List.map_append]; rfl
theorem pop_cells (c m t) (x : Int) : meV .pop false (.loc 0) [] (DK (c ++ [x]) m t) = .ok (.p (.int x)) (DK c m t) := by
  show (match ((c ++ [x]).map fun i => Vl.p (.int i))[((c ++ [x]).map fun i => Vl.p (.int i)).length - 1]? with
    | some y => Res.ok y ((DK (c ++ [x]) m t).set 0 (.lst ((c ++ [x]).map fun i => Vl.p (.int i)).dropLast))
    | none => .bad) = _
  have h1 : ((c ++ [x]).map fun i => Vl.p (.int i)) = (c.map fun i => Vl.p (.int i)) ++ [.p (.int x)] := by rw [List.map_append]; rfl
  rw [h1, List.dropLast_concat, List.length_append, List.length_singleton, Nat.add_sub_cancel, List.getElem?_append_right (Nat.le_refl _), Nat.sub_self]
  rfl
theorem op_add_ok (mu i j st) : binV .Add mu (.p (.int i)) (.p (.int j)) st = .ok (.p (.int (i + j))) st := rfl
theorem op_sub_ok (mu i j st) : binV .Sub mu (.p (.int i)) (.p (.int j)) st = .ok (.p (.int (i - j))) st := rfl
theorem op_mul_ok (mu i j st) (h : CMul i j) : binV .Mult mu (.p (.int i)) (.p (.int j)) st = .ok (.p (.int (i * j))) st := by
  show ofO ((if CMul i j then some (i * j) else none).map fun k => Vl.p (.int k)) st = _
  rw [if_pos h]; rfl
theorem op_mod_ok (mu i j st) (h : j ≠ 0) : binV .Mod mu (.p (.int i)) (.p (.int j)) st = .ok (.p (.int (i.fmod j))) st := by
  show ofO ((if j ≠ 0 then some (i.fmod j) else none).map fun k => Vl.p (.int k)) st = _
  rw [if_pos h]; rfl
theorem op_div_ok (mu i j st) (h : CDivN i j) : binV .FloorDiv mu (.p (.int i)) (.p (.int j)) st = .ok (.p (.int (i.fdiv j))) st := by
  show ofO ((if CDivN i j then some (i.fdiv j) else none).map fun k => Vl.p (.int k)) st = _
  rw [if_pos h]; rfl
theorem op_pow_ok (mu i j st) (h : CPow i j) : binV .Pow mu (.p (.int i)) (.p (.int j)) st = .ok (.p (.int (i ^ j.toNat))) st := by
  show ofO ((if CPow i j then some (i ^ j.toNat) else none).map fun k => Vl.p (.int k)) st = _
  rw [if_pos h]; rfl
theorem int_ok (mu i st) : biV .int mu [.p (.int i)] st = .ok (.p (.int i)) st := rfl
theorem new0 (st) : newL false [] st = .ok (.p (.lst [])) st := by
  unfold newL pureL
  rw [if_pos (by simp)]
  simp [frzs, Res.bind]
theorem tr_bl (b st) : truP (.p (.bl b)) st = some b := rfl
theorem ge_ok (i j st) : cmpV .GtE (.p (.int i)) (.p (.int j)) st = some (decide (j ≤ i)) := rfl
theorem ofO_some {α : Type} (a : α) (st) : ofO (some a) st = .ok a st := rfl
theorem fm_ge (i j : Int) (h : 0 < j) : 0 ≤ i.fmod j := Int.fmod_nonneg_of_pos _ h
theorem fm_lt (i j : Int) (h : 0 < j) : i.fmod j < j := Int.fmod_lt_of_pos _ h
theorem repN2 : List.replicate (0 + 1 + 1 + 1 + 1 - (0 + 1 + 1)) (none : Option Vl) = [none, none] := rfl
theorem leave_p (c0 : List Int) (m0 t0 : Int) (c : List Int) (m t : Int) (x : P) : leave (DK c0 m0 t0).length (.p x) (DK c m t) = .ok (.p x) (DK c m t) := by
  show (if (DK c m t).all (cellOk 2) then Res.ok (Vl.p x) (DK c m t) else .bad) = _
  rw [if_pos]
  show ((c.map fun i => Vl.p (.int i)).all (locOk 2) && true) = true
  rw [Bool.and_true, List.all_map]
  exact List.all_eq_true.mpr fun _ _ => rfl
theorem draw_ok (k : Nat) (cells : List Int) (m t many : Int) (hc : cells.length < 100) (ht : 0 ≤ t ∧ t < 1000000) (hn : 0 < many ∧ many < 1000000000) :
    ∃ r cells', callAt GG (k + 1) "_law_draw" [.loc 1, .p (.int many)] (DK cells m t) = .ok (.p (.int r)) (DK cells' m (t + 1)) ∧ 0 ≤ r ∧ r < many ∧ cells'.length ≤ cells.length := by
  rw [c4, run_df _ _ _ _ _ rfl, b4]
  have n1 : many ≠ 0 := by omega
  have h1 : ∀ b : Int, CMul 60923 b := fun b => .inl (by decide)
  have h2 : ∀ b : Int, CMul b (t + 1) := fun b => .inr (by omega)
  have h3 : CPow 10 18 := ⟨by decide, by decide, by decide⟩
  have h4 : ∀ b : Int, CDivN b many := fun b => ⟨n1, by omega⟩
  have h5 : ∀ b : Int, CMul b 48271 := fun b => .inr (by decide)
  have h6 : ∀ b : Int, CMul (b.fmod 2147483647) (b.fmod 2147483647) := fun b => .inl ⟨by have := fm_ge b 2147483647 (by decide); omega, by have := fm_lt b 2147483647 (by decide); omega⟩
  have h7 : ∀ b : Int, CMul b 69621 := fun b => .inr (by decide)
  have p18 : (10 : Int) ^ Int.toNat 18 = 10 ^ 18 := rfl
  have appC : ∀ (c : List Int) (m t y : Int), c.length < 1000 → meV .append false (.loc 0) [.p (.int y)] (DK c m t) = .ok (.p .non) (DK (c ++ [y]) m t) := fun c m t y h => app_cells c m t y h
  have h8 : ∀ b : Int, CDivN b 64 := fun b => ⟨by decide, by decide⟩
  rcases List.eq_nil_or_concat cells with rfl | ⟨init, x, rfl⟩
  · simp only [sSeq, sSet, sPut, sIf, sRet, sNext, sExp, cBin, cIx, cName, cP, cMe, cBi, cCmp, cLst, bTru, aCons, aNil, tNm, Res.bind_k, d4, List.map_cons, List.map_nil, List.cons_append, List.nil_append, List.getElem?_cons_zero, List.getElem?_cons_succ, List.set_cons_zero, List.set_cons_succ,
      ix_turn, ix_mixed, ix_cells, put_turn, op_add_ok, op_mul_ok, op_mod_ok, op_div_ok, op_pow_ok, int_ok, ofO_some, h1, h2, h3, h4, h5, h6, h7, h8, n1, ne_eq, not_false_eq_true, new0, ne_cells, tr_bl, Option.map_some, List.isEmpty_nil, Bool.not_true, Bool.false_eq_true, if_false,
      List.length_cons, List.length_nil, Int.reduceEq, Int.reduceNe, repN2, leave_p]
    exact ⟨_, [], rfl, fm_ge _ _ hn.1, fm_lt _ _ hn.1, Nat.le_refl _⟩
  · rw [List.concat_eq_append] at hc ⊢
    have e1 : (init ++ [x]).isEmpty = false := by cases init <;> rfl
    rw [List.length_append, List.length_singleton] at hc ⊢
    have hi : init.length < 1000 := by omega
    by_cases hb : 10 ^ 18 ≤ x
    · simp only [sSeq, sSet, sPut, sIf, sRet, sNext, sExp, cBin, cIx, cName, cP, cMe, cBi, cCmp, cLst, bTru, aCons, aNil, tNm, Res.bind_k, d4, List.map_cons, List.map_nil, List.cons_append, List.nil_append, List.getElem?_cons_zero, List.getElem?_cons_succ, List.set_cons_zero, List.set_cons_succ,
      ix_turn, ix_mixed, ix_cells, put_turn, op_add_ok, op_mul_ok, op_mod_ok, op_div_ok, op_pow_ok, int_ok, ofO_some, h1, h2, h3, h4, h5, h6, h7, h8, n1, ne_eq, not_false_eq_true, new0, ne_cells, tr_bl, Option.map_some, List.isEmpty_nil, Bool.not_true, Bool.false_eq_true, if_false,
      List.length_cons, List.length_nil, Int.reduceEq, Int.reduceNe, repN2, leave_p, e1, Bool.not_false, if_true, lo_cells, Option.isSome_some, pop_cells, ge_ok, p18, hb, decide_true, appC, hi]
      exact ⟨_, init ++ [x.fdiv many], rfl, fm_ge _ _ hn.1, fm_lt _ _ hn.1, by simp⟩
    · simp only [sSeq, sSet, sPut, sIf, sRet, sNext, sExp, cBin, cIx, cName, cP, cMe, cBi, cCmp, cLst, bTru, aCons, aNil, tNm, Res.bind_k, d4, List.map_cons, List.map_nil, List.cons_append, List.nil_append, List.getElem?_cons_zero, List.getElem?_cons_succ, List.set_cons_zero, List.set_cons_succ,
      ix_turn, ix_mixed, ix_cells, put_turn, op_add_ok, op_mul_ok, op_mod_ok, op_div_ok, op_pow_ok, int_ok, ofO_some, h1, h2, h3, h4, h5, h6, h7, h8, n1, ne_eq, not_false_eq_true, new0, ne_cells, tr_bl, Option.map_some, List.isEmpty_nil, Bool.not_true, Bool.false_eq_true, if_false,
      List.length_cons, List.length_nil, Int.reduceEq, Int.reduceNe, repN2, leave_p, e1, Bool.not_false, if_true, lo_cells, Option.isSome_some, pop_cells, ge_ok, p18, hb, decide_false]
      exact ⟨_, init, rfl, fm_ge _ _ hn.1, fm_lt _ _ hn.1, Nat.le_succ _⟩
end Pz

set_option Elab.async false
set_option linter.all false
set_option maxRecDepth 100000
set_option maxHeartbeats 4000000
namespace Pz
open PySem L2
/-! ### the deck is made -/
abbrev iv (ns : List Int) : List Vl := ns.map fun i => .p (.int i)
theorem frzs_p (n : Nat) (st : Sto) (xs : List P) : frzs n st (xs.map .p) = some (xs, st) := by
  induction xs with
  | nil => simp [frzs]
  | cons x r ih => rw [List.map_cons, frzs, show frz n st (.p x) = some (x, st) by cases n <;> simp [frz]]; show Option.map _ (frzs n st (r.map .p)) = _; rw [ih]; rfl
theorem new_p (xs : List P) (st : Sto) (h : xs.length ≤ 1000000) : newL false (xs.map .p) st = .ok (.p (.lst xs)) st := by
  unfold newL pureL
  rw [if_pos (by rw [List.length_map]; exact Nat.le_trans h (by decide)), frzs_p]
  rfl
theorem iv_p (ns : List Int) : iv ns = (ns.map P.int).map Vl.p := by rw [List.map_map]; rfl
theorem new_iv (ns : List Int) (st : Sto) (h : ns.length ≤ 1000000) : newL false (iv ns) st = .ok (.p (.lst (ns.map .int))) st := by
  rw [iv_p, new_p _ _ (by rw [List.length_map]; exact h)]
theorem new_mu (xs : List Vl) (st : Sto) (h : xs.length ≤ 1000000) : newL true xs st = .ok (.loc st.length) (st ++ [.lst xs]) := by
  unfold newL
  rw [if_pos (Nat.le_trans h (by decide))]; rfl
theorem repN3 : List.replicate (0 + 1 + 1 + 1 + 1 - (0 + 1)) (none : Option Vl) = [none, none, none] := rfl
theorem deck_for (k : Nat) (c : List Int) (u v : Option Vl) (st : Sto) : ∀ (xs : List Int) (w : Option Vl) (m : Int), ∃ w' m', forP (tNm 1) (sSet (tNm 3)
          (cBin Operator.Mod false
            (cBi Bi.int false
              (aCons
                (cBin Operator.Add false
                  (cBin Operator.Add false (cBin Operator.Mult false (cName 3) (cP (P.int 39373)))
                    (cBin Operator.Mod false (cBi Bi.int false (aCons (cName 1) aNil))
                      (cP (P.int 2147483563))))
                  (cP (P.int 234)))
                aNil))
            (cP (P.int 2147483629)))) (xs.map .int) [u, w, v, some (.p (.int m))] st = .ok (.next, [u, w', v, some (.p (.int m'))]) st
  | [], w, m => ⟨w, m, rfl⟩
  | x :: xs, w, m => by
    have h1 : CMul m 39373 := .inr (by decide)
    obtain ⟨w', m', e⟩ := deck_for k c u v st xs (some (.p (.int x))) ((m * 39373 + x.fmod 2147483563 + 234).fmod 2147483629)
    refine ⟨w', m', ?_⟩
    rw [← e, List.map_cons, forP]
    simp only [sSet, cBin, cName, cP, cBi, aCons, aNil, tNm, Res.bind_k, List.getElem?_cons_zero, List.getElem?_cons_succ, List.set_cons_zero, List.set_cons_succ, op_add_ok, op_mul_ok, op_mod_ok, int_ok, h1, ne_eq, not_false_eq_true, Int.reduceEq, after]
theorem nodup3 : ([Sum.inr "cells", Sum.inr "mixed", Sum.inr "turn"] : List Key).Nodup := by decide +kernel
theorem deck_ok (k : Nat) (ns : List Int) (hn : ns.length ≤ 63) : ∃ cells m, cells.length ≤ 63 ∧ callAt GG (k + 1) "_law_deck" [.p (.scr ns)] [] = .ok (.loc 1) (DK cells m 0) := by
  rw [c3, run_df _ _ _ _ _ rfl, b3]
  have hl : (cutL ns none (some 63)).length ≤ 63 := Nat.le_trans (cut_len ns none (some 63)) hn
  generalize hc : cutL ns none (some 63) = cs at hl
  obtain ⟨w', m', e⟩ := deck_for k cs (some (.p (.scr ns))) (some (.p (.lst (cs.map .int)))) [] cs none 136823
  refine ⟨cs.reverse, m', by rw [List.length_reverse]; exact hl, ?_⟩
  have s1 : slV false (.p (.scr ns)) none (some 63) [] = .ok (.p (.lst (cs.map .int))) [] := by
    show newL false (iv (cutL ns none (some 63))) [] = _
    rw [hc, new_iv _ _ (by omega)]
  have s2 : biV .list false [.p (.lst (cs.map .int))] [] = .ok (.p (.lst (cs.map .int))) [] := by
    show newL false ((cs.map P.int).map .p) [] = _
    rw [new_p _ _ (by rw [List.length_map]; omega)]
  have s3 : revV true (.p (.lst (cs.map .int))) [] = .ok (.loc 0) [.lst (iv cs.reverse)] := by
    show newL true ((cs.map P.int).map Vl.p).reverse [] = _
    rw [new_mu _ _ (by simp; omega), ← iv_p, ← List.map_reverse]; rfl
  simp only [sSeq, sPar, sFor, iVal, sRet, cSl, oNone, oSome, cName, cP, cBi, cRev, cDic, aCons, aNil, tGo, tNm, Res.bind_k, d3, List.map_cons, List.map_nil, List.cons_append, List.nil_append, List.getElem?_cons_zero, List.getElem?_cons_succ, List.set_cons_zero, List.set_cons_succ,
    List.length_cons, List.length_nil, repN3, s1, s2, s3]
  simp only [e, Res.bind_k, List.getElem?_cons_zero, List.getElem?_cons_succ, List.length_cons, List.length_nil, s3, if_true]
  rw [if_pos ⟨trivial, nodup3, by decide⟩]
  rfl
end Pz

set_option Elab.async false
set_option linter.all false
set_option maxRecDepth 100000
set_option maxHeartbeats 4000000
namespace Pz
open PySem L2
/-! ### primes by trial -/
/-- a divisor from d on, up to the root -/
def Dv (n d : Int) : Prop := ∃ e, d ≤ e ∧ e * e ≤ n ∧ n.fmod e = 0
def isPb (n : Int) : Bool := decide (2 ≤ n) && decide (n < 1000000) && (List.range 1000).all fun e => decide ((e : Int) < 2) || decide (n < (e : Int) * e) || decide (n.fmod e ≠ 0)
theorem isPb_iff {n : Int} (h : 2 ≤ n) (h2 : n < 1000000) : isPb n = true ↔ ¬ Dv n 2 := by
  unfold isPb
  rw [decide_eq_true h, decide_eq_true h2, Bool.and_self, Bool.true_and, List.all_eq_true]
  constructor
  · rintro q ⟨e, e1, e2, e3⟩
    have hlt : e < 1000 := by
      by_cases z : e < 1000
      · exact z
      · have : (1000 : Int) * 1000 ≤ e * e := Int.mul_le_mul (by omega) (by omega) (by decide) (by omega)
        omega
    have hq := q e.toNat (List.mem_range.mpr (by omega))
    have hc : ((e.toNat : Nat) : Int) = e := Int.toNat_of_nonneg (by omega)
    rw [hc] at hq
    simp only [Bool.or_eq_true, decide_eq_true_eq] at hq
    omega
  · intro q e he
    simp only [Bool.or_eq_true, decide_eq_true_eq]
    by_cases h3 : (e : Int) < 2
    · exact .inl (.inl h3)
    · by_cases h4 : n < (e : Int) * e
      · exact .inl (.inr h4)
      · refine .inr fun z => q ⟨e, by omega, by omega, z⟩
theorem repN1 : List.replicate (0 + 1 + 1 - (0 + 1)) (none : Option Vl) = [none] := rfl
theorem c0 (k : Nat) (vs : List Vl) (st : Sto) : callAt GG (k + 1) "is_integer_below" vs st = runDf GG (callAt GG k) d0 vs st := rfl
theorem c1 (k : Nat) (vs : List Vl) (st : Sto) : callAt GG (k + 1) "is_prime" vs st = runDf GG (callAt GG k) d1 vs st := rfl
theorem isi_int (x : P) (st : Sto) : tyIs .int (.p x) st = tyIs .int (.p x) [] := by cases x <;> rfl
theorem isi_bool (x : P) (st : Sto) : tyIs .bool (.p x) st = tyIs .bool (.p x) [] := by cases x <;> rfl
/-- what the law hands in -/
def plainV : P → Bool
  | .non | .bl _ | .int _ | .str _ | .tup _ | .lst _ | .dic _ _ => true
  | _ => false
def inB (b : Int) : P → Bool
  | .int n => decide (0 ≤ n) && decide (n < b)
  | _ => false
/-- stores that a def may leave as they are -/
def Fine (st : Sto) : Prop := st.all (cellOk st.length) = true
theorem leave_f {st : Sto} (h : Fine st) (x : P) : leave st.length (.p x) st = .ok (.p x) st := by
  show (if (st.take st.length).all (cellOk st.length) then Res.ok (Vl.p x) (st.take st.length) else .bad) = _
  rw [List.take_length, if_pos (show st.all (cellOk st.length) = true from h)]
theorem fine_DK (c : List Int) (m t : Int) : Fine (DK c m t) := by
  show ((c.map fun i => Vl.p (.int i)).all (locOk 2) && true) = true
  rw [Bool.and_true, List.all_map]
  exact List.all_eq_true.mpr fun _ _ => rfl
theorem le_ok (i j st) : cmpV .LtE (.p (.int i)) (.p (.int j)) st = some (decide (i ≤ j)) := rfl
theorem lt_ok (i j st) : cmpV .Lt (.p (.int i)) (.p (.int j)) st = some (decide (i < j)) := rfl
theorem eq_ok (i j st) : cmpV .Eq (.p (.int i)) (.p (.int j)) st = some (decide (i = j)) := by
  show (match pk (.p (.int i)) st, pk (.p (.int j)) st with | some x, some y => eqD x y | _, _ => none) = _
  rw [pk_p, pk_p]
  show some (i == j) = _
  rw [Bool.beq_eq_decide_eq]
theorem ne_ok (i j st) : cmpV .NotEq (.p (.int i)) (.p (.int j)) st = some (!decide (i = j)) := by
  show (match pk (.p (.int i)) st, pk (.p (.int j)) st with | some x, some y => (eqD x y).map (!·) | _, _ => none) = _
  rw [pk_p, pk_p]
  show some (!(i == j)) = _
  rw [Bool.beq_eq_decide_eq]
theorem below_ok (k : Nat) (b : Int) (x : P) (hx : plainV x = true) (st : Sto) (hf : Fine st) : callAt GG (k + 1) "is_integer_below" [.p (.int b), .p x] st = .ok (.p (.bl (inB b x))) st := by
  rw [c0, run_df _ _ _ _ _ rfl, b0]
  simp only [sRet, cAnd, cNot, cIsi, cChn, cName, cP, d0, List.map_cons, List.map_nil, List.cons_append, List.nil_append, List.getElem?_cons_zero, List.getElem?_cons_succ, Res.bind_k, List.length_cons, List.length_nil, Nat.sub_self, List.replicate_zero]
  cases x with
  | int n =>
    simp only [tyIs, Option.map_some, ofO_some, Res.bind_k, tr_bl, Bool.not_false, le_ok, lt_ok, inB]
    by_cases h : 0 ≤ n
    · simp only [h, decide_true, Res.bind_k, ofO_some, Option.map_some, leave_f hf, Bool.true_and]; rfl
    · simp only [h, decide_false, Res.bind_k, ofO_some, Option.map_some, leave_f hf, Bool.false_and]; rfl
  | bl c => exact leave_f hf _
  | non => exact leave_f hf _
  | str c => exact leave_f hf _
  | tup c => exact leave_f hf _
  | lst c => exact leave_f hf _
  | dic c d => exact leave_f hf _
  | _ => cases hx

abbrev pT : CB := bTru (cCmp CmpOp.LtE (cBin Operator.Mult false (cName 1) (cName 1)) (cName 0))
abbrev pB : CS := sSeq (sIf (bTru (cCmp CmpOp.Eq (cBin Operator.Mod false (cName 0) (cName 1)) (cP (P.int 0)))) (sRet (cP (P.bl false))) sNext) (sAug 1 Operator.Add (cP (P.int 1)))
theorem isp_loop {n : Int} (hn : n < 1000000) (st : Sto) : ∀ (f : Nat) (d : Int), 2 ≤ d → d ≤ 2000 → (2001 - d).toNat < f →
    (Dv n d ∧ ∃ e, whF pT pB f [some (.p (.int n)), some (.p (.int d))] st = .ok (.ret (.p (.bl false)), e) st) ∨ (¬ Dv n d ∧ ∃ e, whF pT pB f [some (.p (.int n)), some (.p (.int d))] st = .ok (.next, e) st)
  | 0, d, _, _, h => by omega
  | f + 1, d, h1, h2, h3 => by
    have m1 : CMul d d := .inl ⟨by omega, by omega⟩
    have m2 : ¬ d = 0 := by omega
    by_cases hd : d * d ≤ n
    · have hlt : d < 1000 := by
        by_cases z : d < 1000
        · exact z
        · have : (1000 : Int) * 1000 ≤ d * d := Int.mul_le_mul (by omega) (by omega) (by decide) (by omega)
          omega
      by_cases hm : n.fmod d = 0
      · refine .inl ⟨⟨d, Int.le_refl _, hd, hm⟩, [some (.p (.int n)), some (.p (.int d))], ?_⟩
        unfold whF
        simp only [pT, pB, bTru, cCmp, cBin, cName, cP, sSeq, sIf, sRet, List.getElem?_cons_zero, List.getElem?_cons_succ, Res.bind_k, op_mul_ok, op_mod_ok, m1, m2, ne_eq, not_false_eq_true, le_ok, eq_ok, hd, hm, decide_true, Option.map_some, ofO_some, tr_bl, if_true, after]
      · have step : whF pT pB (f + 1) [some (.p (.int n)), some (.p (.int d))] st = whF pT pB f [some (.p (.int n)), some (.p (.int (d + 1)))] st := by
          rw [whF]
          simp only [pT, pB, bTru, cCmp, cBin, cName, cP, sSeq, sIf, sRet, sNext, sAug, List.getElem?_cons_zero, List.getElem?_cons_succ, Res.bind_k, op_mul_ok, op_mod_ok, m1, m2, ne_eq, not_false_eq_true, le_ok, eq_ok, hd, hm, decide_true, decide_false, Option.map_some, ofO_some, tr_bl, if_true, Bool.false_eq_true, if_false, after, List.set_cons_zero, List.set_cons_succ]
        rw [step]
        have back : Dv n d → Dv n (d + 1) := fun ⟨e, e1, e2, e3⟩ => by
          by_cases z : e = d
          · subst z; exact absurd e3 hm
          · exact ⟨e, by omega, e2, e3⟩
        have fwd : Dv n (d + 1) → Dv n d := fun ⟨e, e1, e2, e3⟩ => ⟨e, by omega, e2, e3⟩
        rcases isp_loop hn st f (d + 1) (by omega) (by omega) (by omega) with ⟨a, b⟩ | ⟨a, b⟩
        · exact .inl ⟨fwd a, b⟩
        · exact .inr ⟨fun z => a (back z), b⟩
    · refine .inr ⟨fun ⟨e, e1, e2, e3⟩ => ?_, [some (.p (.int n)), some (.p (.int d))], ?_⟩
      · have : d * d ≤ e * e := Int.mul_le_mul e1 e1 (by omega) (by omega)
        omega
      · unfold whF
        simp only [pT, pB, bTru, cCmp, cBin, cName, cP, List.getElem?_cons_zero, List.getElem?_cons_succ, Res.bind_k, op_mul_ok, m1, le_ok, hd, decide_false, Option.map_some, ofO_some, tr_bl, Bool.false_eq_true, if_false]
/-- what is_prime says of a value -/
def prV : P → Bool
  | .int n => isPb n
  | _ => false
theorem prime_ok (k : Nat) (x : P) (hx : plainV x = true) (st : Sto) (hf : Fine st) : callAt GG (k + 2) "is_prime" [.p x] st = .ok (.p (.bl (prV x))) st := by
  rw [c1, run_df _ _ _ _ _ rfl, b1]
  have hb := below_ok k 1000000 x hx st hf
  have hr : (if d1.keep = true then Res.ok (Vl.p (.bl false)) st else leave st.length (.p (.bl false)) st) = .ok (.p (.bl false)) st := leave_f hf _
  by_cases h : inB 1000000 x = true ∧ ¬ (∃ n, x = .int n ∧ n < 2)
  · obtain ⟨h1, h2⟩ := h
    cases x with
    | int n =>
      have hn : 0 ≤ n ∧ n < 1000000 := by
        have h1 : (decide (0 ≤ n) && decide (n < 1000000)) = true := h1
        simpa using h1
      have h2 : ¬ n < 2 := fun z => h2 ⟨n, rfl, z⟩
      have t : turns = 1099511627776 := rfl
      simp only [sSeq, sIf, sSet, sRet, sNext, cOr, cNot, cCall, cCmp, bTru, cName, cP, aCons, aNil, tNm, List.map_cons, List.map_nil, List.cons_append, List.nil_append, List.getElem?_cons_zero, List.getElem?_cons_succ, List.set_cons_zero, List.set_cons_succ, Res.bind_k, hb, h1, tr_bl, Option.map_some, ofO_some, Bool.not_true,
        lt_ok, h2, decide_false, Bool.false_eq_true, if_false, d1, List.length_cons, List.length_nil, repN1]
      rcases isp_loop hn.2 st turns 2 (by decide) (by decide) (by rw [t]; decide) with ⟨a, e, b⟩ | ⟨a, e, b⟩
      · have b' : sWh pT pB [some (.p (.int n)), some (.p (.int 2))] st = .ok (.ret (.p (.bl false)), e) st := b
        rw [b']
        have hv : prV (.int n) = false := by
          show isPb n = false
          rw [Bool.eq_false_iff]
          exact fun z => (isPb_iff (by omega) hn.2).mp z a
        rw [hv]
        exact leave_f hf _
      · have b' : sWh pT pB [some (.p (.int n)), some (.p (.int 2))] st = .ok (.next, e) st := b
        rw [b']
        have hv : prV (.int n) = true := (isPb_iff (by omega) hn.2).mpr a
        rw [hv]
        exact leave_f hf _
    | _ => cases h1
  · have hv : prV x = false := by
      cases x with
      | int n =>
        show isPb n = false
        rw [Bool.eq_false_iff]
        intro z
        unfold isPb at z
        simp only [Bool.and_eq_true, decide_eq_true_eq] at z
        apply h
        refine ⟨?_, ?_⟩
        · show (decide (0 ≤ n) && decide (n < 1000000)) = true
          simp only [Bool.and_eq_true, decide_eq_true_eq]
          omega
        · rintro ⟨m, e, hm⟩
          cases e
          omega
      | _ => rfl
    rw [hv]
    by_cases h1 : inB 1000000 x = true
    · have h2 : ∃ n, x = .int n ∧ n < 2 := Classical.byContradiction fun z => h ⟨h1, z⟩
      obtain ⟨n, rfl, h2⟩ := h2
      simp only [sSeq, sIf, sSet, sRet, sNext, cOr, cNot, cCall, cCmp, bTru, cName, cP, aCons, aNil, tNm, List.map_cons, List.map_nil, List.cons_append, List.nil_append, List.getElem?_cons_zero, List.getElem?_cons_succ, List.set_cons_zero, List.set_cons_succ, Res.bind_k, hb, h1, tr_bl, Option.map_some, ofO_some, Bool.not_true,
        lt_ok, h2, decide_true, if_true, d1, List.length_cons, List.length_nil, repN1]
      exact leave_f hf _
    · have h1 : inB 1000000 x = false := by simpa using h1
      simp only [sSeq, sIf, sSet, sRet, sNext, cOr, cNot, cCall, cCmp, bTru, cName, cP, aCons, aNil, tNm, List.map_cons, List.map_nil, List.cons_append, List.nil_append, List.getElem?_cons_zero, List.getElem?_cons_succ, List.set_cons_zero, List.set_cons_succ, Res.bind_k, hb, h1, tr_bl, Option.map_some, ofO_some, Bool.not_false,
        if_true, d1, List.length_cons, List.length_nil, repN1]
      exact leave_f hf _
end Pz

set_option Elab.async false
set_option linter.all false
set_option maxRecDepth 100000
set_option maxHeartbeats 4000000
namespace Pz
open PySem L2
/-! ### the law's primes -/
def siv : Nat → List Int → List Int
  | 0, _ => []
  | _, [] => []
  | f + 1, p :: r => p :: siv f ((p :: r).filter fun k => decide (k.fmod p ≠ 0))
theorem siv_sub : ∀ (f : Nat) (xs : List Int), ∀ p ∈ siv f xs, p ∈ xs
  | 0, _, p, h => by cases h
  | _ + 1, [], p, h => by cases h
  | f + 1, q :: r, p, h => by
    rcases List.mem_cons.mp (show p ∈ q :: siv f ((q :: r).filter fun k => decide (k.fmod q ≠ 0)) from h) with rfl | h
    · exact List.mem_cons_self
    · exact (List.mem_filter.mp (siv_sub f _ p h)).1
theorem fil_len (p : Int) (r : List Int) : ((p :: r).filter fun k => decide (k.fmod p ≠ 0)).length ≤ r.length := by
  have : p.fmod p = 0 := Int.fmod_self
  rw [List.filter_cons, if_neg (by simp [this])]
  exact List.length_filter_le _ _
theorem siv_div : ∀ (f : Nat) (xs : List Int), xs.length ≤ f → ∀ x ∈ xs, ∃ p ∈ siv f xs, x.fmod p = 0
  | _, [], _, x, h => by cases h
  | 0, _ :: _, h, _, _ => by cases h
  | f + 1, p :: r, hl, x, h => by
    by_cases hx : x.fmod p = 0
    · exact ⟨p, List.mem_cons_self, hx⟩
    · have hm : x ∈ (p :: r).filter fun k => decide (k.fmod p ≠ 0) := List.mem_filter.mpr ⟨h, by simpa using hx⟩
      obtain ⟨q, h1, h2⟩ := siv_div f _ (Nat.le_trans (fil_len p r) (by simpa using hl)) x hm
      exact ⟨q, List.mem_cons_of_mem _ h1, h2⟩
def two : List Int := (List.range 998).map fun i => 2 + (i : Nat)
def known : List Int := siv 998 two
theorem mem_two {x : Int} : x ∈ two ↔ 2 ≤ x ∧ x < 1000 := by
  unfold two
  rw [List.mem_map]
  constructor
  · rintro ⟨i, hi, rfl⟩
    have := List.mem_range.mp hi
    omega
  · rintro ⟨h1, h2⟩
    exact ⟨(x - 2).toNat, List.mem_range.mpr (by omega), by omega⟩
theorem known_ge {p : Int} (h : p ∈ known) : 2 ≤ p ∧ p < 1000 := mem_two.mp (siv_sub _ _ p h)
/-- the law's test is trial division -/
theorem one_iff {n : Int} (h : 2 ≤ n) (h2 : n < 1000000) : (known.filter fun k => decide (k * k ≤ n) && decide (n.fmod k = 0)).isEmpty = isPb n := by
  rw [Bool.eq_iff_iff, isPb_iff h h2, List.isEmpty_iff, List.filter_eq_nil_iff]
  constructor
  · rintro q ⟨d, d1, d2, d3⟩
    have hlt : d < 1000 := by
      by_cases z : d < 1000
      · exact z
      · have : (1000 : Int) * 1000 ≤ d * d := Int.mul_le_mul (by omega) (by omega) (by decide) (by omega)
        omega
    obtain ⟨p, hp, hd⟩ := siv_div 998 two (by unfold two; simp) d (mem_two.mpr ⟨d1, hlt⟩)
    obtain ⟨p1, p2⟩ := known_ge hp
    have dv : p ∣ d := Int.dvd_of_fmod_eq_zero hd
    have le : p ≤ d := Int.le_of_dvd (by omega) dv
    have dn : p ∣ n := Int.dvd_trans dv (Int.dvd_of_fmod_eq_zero d3)
    refine q p hp ?_
    rw [Bool.and_eq_true, decide_eq_true_eq, decide_eq_true_eq]
    refine ⟨?_, Int.fmod_eq_zero_of_dvd dn⟩
    have : p * p ≤ d * d := Int.mul_le_mul le le (by omega) (by omega)
    omega
  · rintro q p hp z
    rw [Bool.and_eq_true, decide_eq_true_eq, decide_eq_true_eq] at z
    exact q ⟨p, (known_ge hp).1, z.1, z.2⟩
theorem c7 (k : Nat) (vs : List Vl) (st : Sto) : callAt GG (k + 1) "_law_is_one" vs st = runDf GG (callAt GG k) d7 vs st := rfl
abbrev oT : CB := bTru
          (cAnd (cCmp CmpOp.LtE (cBin Operator.Mult false (cName 2) (cName 2)) (cName 1))
            (cCmp CmpOp.Eq (cBin Operator.Mod false (cName 1) (cName 2)) (cP (P.int 0))))
theorem one_lc {n : Int} (u : Option Vl) (st : Sto) : ∀ (xs : List Int) (acc : List Int), (∀ x ∈ xs, 2 ≤ x ∧ x < 1000) → acc.length + xs.length ≤ 100000 →
    lcP (tNm 2) oT (cName 2) [u, some (.p (.int n)), none] (xs.map .int) (iv acc) st = .ok (iv (acc ++ xs.filter fun k => decide (k * k ≤ n) && decide (n.fmod k = 0))) st
  | [], acc, _, _ => by rw [List.map_nil, List.filter_nil, List.append_nil]; rfl
  | x :: xs, acc, h, hl => by
    obtain ⟨h1, h2⟩ := h x List.mem_cons_self
    have m1 : CMul x x := .inl ⟨by omega, by omega⟩
    have m2 : ¬ x = 0 := by omega
    have al : (iv acc).length < sizeLine := by
      rw [List.length_map]
      rw [List.length_cons] at hl
      exact Nat.lt_of_lt_of_le (show acc.length < 200000 by omega) (by decide)
    have ih := fun a (ha : a.length ≤ acc.length + 1) => one_lc u st (n := n) xs a (fun y hy => h y (List.mem_cons_of_mem _ hy)) (by rw [List.length_cons] at hl; omega)
    rw [List.map_cons, lcP]
    unfold lcTurn
    by_cases a : x * x ≤ n
    · by_cases b : n.fmod x = 0
      · rw [List.filter_cons_of_pos (by simp [a, b])]
        have e : iv acc ++ [Vl.p (.int x)] = iv (acc ++ [x]) := by simp [iv]
        have r := ih (acc ++ [x]) (by simp)
        rw [List.append_assoc, List.singleton_append] at r
        simp only [tNm, oT, bTru, cAnd, cCmp, cBin, cName, cP, List.set_cons_zero, List.set_cons_succ, List.getElem?_cons_zero, List.getElem?_cons_succ, Res.bind_k, op_mul_ok, op_mod_ok, m1, m2, ne_eq, not_false_eq_true, le_ok, eq_ok, a, b, decide_true, Option.map_some, ofO_some, tr_bl, if_true, al, e]
        exact r
      · rw [List.filter_cons_of_neg (by simp [b])]
        simp only [tNm, oT, bTru, cAnd, cCmp, cBin, cName, cP, List.set_cons_zero, List.set_cons_succ, List.getElem?_cons_zero, List.getElem?_cons_succ, Res.bind_k, op_mul_ok, op_mod_ok, m1, m2, ne_eq, not_false_eq_true, le_ok, eq_ok, a, b, decide_true, decide_false, Option.map_some, ofO_some, tr_bl, Bool.false_eq_true, if_false]
        exact ih acc (by omega)
    · rw [List.filter_cons_of_neg (by simp [a])]
      simp only [tNm, oT, bTru, cAnd, cCmp, cBin, cName, cP, List.set_cons_zero, List.set_cons_succ, List.getElem?_cons_zero, List.getElem?_cons_succ, Res.bind_k, op_mul_ok, m1, ne_eq, not_false_eq_true, le_ok, eq_ok, a, decide_false, Option.map_some, ofO_some, tr_bl, Bool.false_eq_true, if_false]
      exact ih acc (by omega)
def KN : Vl := .p (.lst (known.map .int))
theorem siv_len : ∀ (f : Nat) (xs : List Int), (siv f xs).length ≤ f
  | 0, _ => Nat.le_refl _
  | _ + 1, [] => Nat.zero_le _
  | f + 1, p :: r => Nat.succ_le_succ (siv_len f _)
theorem known_len : known.length ≤ 998 := siv_len _ _
theorem eq_nilV (ns : List Int) (st : Sto) : cmpV .Eq (.p (.lst (ns.map .int))) (.p (.lst [])) st = some ns.isEmpty := by
  show (match pk (.p (.lst (ns.map .int))) st, pk (.p (.lst [])) st with | some x, some y => eqD x y | _, _ => none) = _
  rw [pk_p, pk_p]
  exact eq_nil ns
theorem p6 : (10 : Int) ^ Int.toNat 6 = 1000000 := rfl
theorem one_ok (k : Nat) (x : P) (hx : plainV x = true) (st : Sto) (hf : Fine st) : callAt GG (k + 1) "_law_is_one" [KN, .p x] st = .ok (.p (.bl (prV x))) st := by
  rw [c7, run_df _ _ _ _ _ rfl, b7]
  have cp : CPow 10 6 := ⟨by decide, by decide, by decide⟩
  cases x with
  | int n =>
    by_cases h1 : 1 < n
    · by_cases h2 : n < 1000000
      · have l := one_lc (n := n) (some KN) st known [] (fun x hx => known_ge hx) (by have := known_len; simp; omega)
        have nw := new_iv (known.filter fun k => decide (k * k ≤ n) && decide (n.fmod k = 0)) st (Nat.le_trans (List.length_filter_le _ _) (by have := known_len; omega))
        have hv : (known.filter fun k => decide (k * k ≤ n) && decide (n.fmod k = 0)).isEmpty = prV (.int n) := one_iff (by omega) h2
        simp only [sSeq, sIf, sRet, sNext, cOr, cNot, cIsi, cChn, cLst, cLc, iVal, KN, wipeE, aNil, bTru, cName, cP, cBin, d7, List.map_cons, List.map_nil, List.cons_append, List.nil_append, List.getElem?_cons_zero, List.getElem?_cons_succ, List.set_cons_zero, List.set_cons_succ, Res.bind_k, tyIs, tr_bl, Option.map_some, ofO_some, Bool.not_true, Bool.not_false,
          lt_ok, op_pow_ok, cp, p6, h1, h2, decide_true, Bool.false_eq_true, if_false, List.length_cons, List.length_nil, repN1]
        have hc : cLc false [2] (iVal (cName 0)) (tNm 2)
                (bTru
                  (cAnd (cCmp CmpOp.LtE (cBin Operator.Mult false (cName 2) (cName 2)) (cName 1))
                    (cCmp CmpOp.Eq (cBin Operator.Mod false (cName 1) (cName 2)) (cP (P.int 0)))))
                (cName 2) [some (Vl.p (P.lst (List.map P.int known))), some (Vl.p (P.int n)), none] st = .ok (.p (.lst ((known.filter fun k => decide (k * k ≤ n) && decide (n.fmod k = 0)).map .int))) st := by
          show Res.bind (lcP (tNm 2) oT (cName 2) [some KN, some (.p (.int n)), none] (known.map .int) [] st) (fun ys s2 => newL false ys s2) = _
          have l : lcP (tNm 2) oT (cName 2) [some KN, some (.p (.int n)), none] (known.map .int) [] st = .ok (iv (known.filter fun k => decide (k * k ≤ n) && decide (n.fmod k = 0))) st := l
          rw [l]
          exact nw
        simp only [cCmp, hc, cLst, aNil, Res.bind_k, new0, eq_nilV, hv, Option.map_some, ofO_some]
        exact leave_f hf _
      · have hv : prV (.int n) = false := by
          show isPb n = false
          unfold isPb
          rw [decide_eq_false h2, Bool.and_false, Bool.false_and]
        rw [hv]
        simp only [sSeq, sIf, sRet, sNext, cOr, cNot, cIsi, cChn, bTru, cName, cP, cBin, d7, List.map_cons, List.map_nil, List.cons_append, List.nil_append, List.getElem?_cons_zero, List.getElem?_cons_succ, List.set_cons_zero, List.set_cons_succ, Res.bind_k, tyIs, tr_bl, Option.map_some, ofO_some, Bool.not_true, Bool.not_false,
          lt_ok, op_pow_ok, cp, p6, h1, h2, decide_true, decide_false, if_true, List.length_cons, List.length_nil, repN1]
        exact leave_f hf _
    · have hv : prV (.int n) = false := by
        show isPb n = false
        unfold isPb
        rw [decide_eq_false (show ¬ 2 ≤ n by omega), Bool.false_and, Bool.false_and]
      rw [hv]
      simp only [sSeq, sIf, sRet, sNext, cOr, cNot, cIsi, cChn, bTru, cName, cP, cBin, d7, List.map_cons, List.map_nil, List.cons_append, List.nil_append, List.getElem?_cons_zero, List.getElem?_cons_succ, List.set_cons_zero, List.set_cons_succ, Res.bind_k, tyIs, tr_bl, Option.map_some, ofO_some, Bool.not_true, Bool.not_false,
        lt_ok, op_pow_ok, cp, p6, h1, decide_true, decide_false, if_true, List.length_cons, List.length_nil, repN1]
      exact leave_f hf _
  | bl c => exact leave_f hf _
  | non => exact leave_f hf _
  | str c => exact leave_f hf _
  | tup c => exact leave_f hf _
  | lst c => exact leave_f hf _
  | dic c d => exact leave_f hf _
  | _ => cases hx
end Pz

set_option Elab.async false
set_option linter.all false
set_option maxRecDepth 100000
set_option maxHeartbeats 4000000
namespace Pz
open PySem L2
theorem repN0 : List.replicate (0 + 1 + 1 + 1 - 0) (none : Option Vl) = [none, none, none] := rfl
theorem c6 (k : Nat) (vs : List Vl) (st : Sto) : callAt GG (k + 1) "_law_primes" vs st = runDf GG (callAt GG k) d6 vs st := rfl
def DK3 (c : List Int) (m t : Int) (acc : List Int) : Sto := DK c m t ++ [.lst (iv acc)]
theorem app3 (c m t acc) (x : Int) (mu) (h : acc.length < 100000) : meV .append mu (.loc 2) [.p (.int x)] (DK3 c m t acc) = .ok (.p .non) (DK3 c m t (acc ++ [x])) := by
  show (if (iv acc).length < sizeLine then Res.ok (Vl.p .non) ((DK3 c m t acc).set 2 (.lst (iv acc ++ [Vl.p (.int x)]))) else .bad) = _
  rw [if_pos (by rw [List.length_map]; exact Nat.lt_of_lt_of_le h (by decide))]
  unfold DK3
  rw [show iv (acc ++ [x]) = iv acc ++ [Vl.p (.int x)] by simp [iv]]; rfl
theorem lo3 (c m t acc) : listOf (.loc 2) (DK3 c m t acc) = some (iv acc) := rfl
theorem ix_head (p : Int) (r : List Int) (st : Sto) : ixV (.p (.lst ((p :: r).map .int))) (.p (.int 0)) st = some (.p (.int p)) := by
  show atI (((p :: r).map P.int).map Vl.p) 0 = _
  simp [atI, ixN]
theorem ne_nilV (ns : List Int) (st : Sto) : cmpV .NotEq (.p (.lst (ns.map .int))) (.p (.lst [])) st = some (!ns.isEmpty) := by
  show (match pk (.p (.lst (ns.map .int))) st, pk (.p (.lst [])) st with | some x, some y => (eqD x y).map (!·) | _, _ => none) = _
  rw [pk_p, pk_p]
  show (eqD (.lst (ns.map .int)) (.lst [])).map (!·) = _
  rw [eq_nil]; rfl
abbrev sT : CB := bTru (cCmp CmpOp.NotEq (cBin Operator.Mod false (cName 2) (cIx (cName 0) (cP (P.int 0)))) (cP (P.int 0)))
theorem siv_lc (p : Int) (r : List Int) (hp : p ≠ 0) (st : Sto) (v : Option Vl) : ∀ (xs acc : List Int), acc.length + xs.length ≤ 100000 →
    lcP (tNm 2) sT (cName 2) [some (.p (.lst ((p :: r).map .int))), v, none] (xs.map .int) (iv acc) st = .ok (iv (acc ++ xs.filter fun k => decide (k.fmod p ≠ 0))) st
  | [], acc, _ => by rw [List.map_nil, List.filter_nil, List.append_nil]; rfl
  | x :: xs, acc, hl => by
    have al : (iv acc).length < sizeLine := by
      rw [List.length_map]
      rw [List.length_cons] at hl
      exact Nat.lt_of_lt_of_le (show acc.length < 200000 by omega) (by decide)
    have ih := fun a (ha : a.length ≤ acc.length + 1) => siv_lc p r hp st v xs a (by rw [List.length_cons] at hl; omega)
    have hp' : ¬ p = 0 := hp
    rw [List.map_cons (f := P.int) (a := x), lcP]
    unfold lcTurn
    by_cases b : x.fmod p = 0
    · rw [List.filter_cons_of_neg (by simp [b])]
      simp only [tNm, sT, bTru, cCmp, cBin, cIx, cName, cP, List.set_cons_zero, List.set_cons_succ, List.getElem?_cons_zero, List.getElem?_cons_succ, Res.bind_k, ix_head, op_mod_ok, hp', ne_eq, not_false_eq_true, ne_ok, b, decide_true, Option.map_some, ofO_some, tr_bl, Bool.not_true, Bool.false_eq_true, if_false]
      exact ih acc (by omega)
    · rw [List.filter_cons_of_pos (by simp [b])]
      have e : iv acc ++ [Vl.p (.int x)] = iv (acc ++ [x]) := by simp [iv]
      have q := ih (acc ++ [x]) (by simp)
      rw [List.append_assoc, List.singleton_append] at q
      simp only [tNm, sT, bTru, cCmp, cBin, cIx, cName, cP, List.set_cons_zero, List.set_cons_succ, List.getElem?_cons_zero, List.getElem?_cons_succ, Res.bind_k, ix_head, op_mod_ok, hp', ne_eq, not_false_eq_true, ne_ok, b, decide_false, Option.map_some, ofO_some, tr_bl, Bool.not_false, if_true, al, e]
      exact q
abbrev qT : CB := bTru (cCmp CmpOp.NotEq (cName 0) (cLst false aNil))
abbrev qB : CS := sSeq (sExp (cMe Me.append false (cName 1) (aCons (cIx (cName 0) (cP (P.int 0))) aNil)))
          (sSet (tNm 0)
            (cLc false [2] (iVal (cName 0)) (tNm 2)
              (bTru
                (cCmp CmpOp.NotEq (cBin Operator.Mod false (cName 2) (cIx (cName 0) (cP (P.int 0))))
                  (cP (P.int 0))))
              (cName 2)))
theorem siv_loop (c : List Int) (m t : Int) : ∀ (f F : Nat) (xs acc : List Int) (w : Option Vl), xs.length ≤ f → f < F → acc.length + xs.length ≤ 998 → (∀ x ∈ xs, 2 ≤ x) →
    whF qT qB F [some (.p (.lst (xs.map .int))), some (.loc 2), w] (DK3 c m t acc) = .ok (.next, [some (.p (.lst [])), some (.loc 2), w]) (DK3 c m t (acc ++ siv f xs))
  | f, 0, _, _, _, _, h, _, _ => by omega
  | f, F + 1, [], acc, w, _, _, _, _ => by
    have e : siv f [] = [] := by cases f <;> rfl
    rw [e, List.append_nil, whF]
    have n0 := ne_nilV [] (DK3 c m t acc)
    rw [List.map_nil] at n0 ⊢
    simp only [qT, bTru, cCmp, cLst, aNil, cName, List.getElem?_cons_zero, Res.bind_k, new0, n0, List.isEmpty_nil, Bool.not_true, Option.map_some, ofO_some, tr_bl, Bool.false_eq_true, if_false]
  | 0, _ + 1, _ :: _, _, _, h, _, _, _ => by cases h
  | f + 1, F + 1, p :: r, acc, w, h1, h2, h3, h4 => by
    have hp : p ≠ 0 := by have := h4 p List.mem_cons_self; omega
    rw [List.length_cons] at h1 h3
    have fl := fil_len p r
    have ih := siv_loop c m t f F ((p :: r).filter fun k => decide (k.fmod p ≠ 0)) (acc ++ [p]) w (by omega) (by omega) (by rw [List.length_append, List.length_singleton]; omega) (fun x hx => h4 x (List.mem_filter.mp hx).1)
    rw [List.append_assoc, List.singleton_append] at ih
    have n0 := ne_nilV (p :: r) (DK3 c m t acc)
    have hc : cLc false [2] (iVal (cName 0)) (tNm 2) sT (cName 2) [some (.p (.lst ((p :: r).map .int))), some (.loc 2), w] (DK3 c m t (acc ++ [p])) = .ok (.p (.lst (((p :: r).filter fun k => decide (k.fmod p ≠ 0)).map .int))) (DK3 c m t (acc ++ [p])) := by
      show Res.bind (lcP (tNm 2) sT (cName 2) [some (.p (.lst ((p :: r).map .int))), some (.loc 2), none] ((p :: r).map .int) (iv []) (DK3 c m t (acc ++ [p]))) (fun ys s2 => newL false ys s2) = _
      rw [siv_lc p r hp _ _ (p :: r) [] (by simp; omega), List.nil_append]
      exact new_iv _ _ (by omega)
    have ha : acc.length < 100000 := by omega
    rw [whF]
    have step : (qT [some (.p (.lst ((p :: r).map .int))), some (.loc 2), w] (DK3 c m t acc)) = .ok true (DK3 c m t acc) := by
      simp only [qT, bTru, cCmp, cLst, aNil, cName, List.getElem?_cons_zero, Res.bind_k, new0, n0, List.isEmpty_cons, Bool.not_false, Option.map_some, ofO_some, tr_bl]
    have bod : (qB [some (.p (.lst ((p :: r).map .int))), some (.loc 2), w] (DK3 c m t acc)) = .ok (.next, [some (.p (.lst (((p :: r).filter fun k => decide (k.fmod p ≠ 0)).map .int))), some (.loc 2), w]) (DK3 c m t (acc ++ [p])) := by
      simp only [qB, sSeq, sExp, sSet, cMe, aCons, aNil, cIx, cName, cP, tNm, List.getElem?_cons_zero, List.getElem?_cons_succ, Res.bind_k, lo3, Option.isSome_some, if_true, ix_head, ofO_some, app3, ha]
      rw [hc]; rfl
    rw [step, Res.bind_k, if_pos rfl, bod]
    exact ih
theorem primes_ok (k : Nat) (c : List Int) (m t : Int) : callAt GG (k + 1) "_law_primes" [] (DK c m t) = .ok KN (DK c m t) := by
  rw [c6, run_df _ _ _ _ _ rfl, b6]
  have lp := siv_loop c m t 998 turns two [] none (by unfold two; simp) (by rw [show turns = 1099511627776 from rfl]; decide) (by unfold two; simp) (fun x hx => (mem_two.mp hx).1)
  have lp : sWh qT qB [some (.p (.lst (two.map .int))), some (.loc 2), none] (DK3 c m t []) = _ := lp
  have hr : cLRg false (iRg2 (cP (P.int 2)) (cP (P.int 1000))) [none, none, none] (DK c m t) = .ok (.p (.lst (two.map .int))) (DK c m t) := by
    show (if (rgP 2 998).length ≤ 2 ^ 24 then newL false ((rgP 2 998).map .p) (DK c m t) else .bad) = _
    rw [rg_len, if_pos (by decide), new_p _ _ (by rw [rg_len]; decide)]
    have : rgP 2 998 = two.map .int := by unfold rgP two; rw [List.map_map]; rfl
    rw [this]
  have hn : newL true [] (DK c m t) = .ok (.loc 2) (DK3 c m t []) := by
    rw [new_mu _ _ (by simp)]; rfl
  simp only [sSeq, sPar, sRet, cLst, aCons, aNil, cName, tGo, tNm, d6, List.map_cons, List.map_nil, List.cons_append, List.nil_append, List.getElem?_cons_zero, List.getElem?_cons_succ, List.set_cons_zero, List.set_cons_succ, Res.bind_k, List.length_cons, List.length_nil, repN0, hr, hn]
  rw [lp]
  have fz : pure1 (.loc 2) (DK3 c m t (known)) = .ok (.lst (known.map .int)) ((DK3 c m t known).set 2 .dead) := by
    unfold pure1 deep
    have : frz 6 (DK3 c m t known) (.loc 2) = (frzs 5 ((DK3 c m t known).set 2 .dead) (iv known)).map fun q => (.lst q.1, q.2) := by
      rw [frz]; rfl
    rw [this, iv_p, frzs_p]; rfl
  show leave 2 (.loc 2) (DK3 c m t ([] ++ known)) = _
  rw [List.nil_append]
  show Res.bind (pure1 (.loc 2) (DK3 c m t known)) (fun x s1 => if (s1.take 2).all (cellOk 2) then Res.ok (Vl.p x) (s1.take 2) else .bad) = _
  rw [fz]
  show (if (DK c m t).all (cellOk 2) then Res.ok KN (DK c m t) else .bad) = _
  rw [if_pos (show (DK c m t).all (cellOk 2) = true from fine_DK c m t)]
end Pz

set_option Elab.async false
set_option linter.all false
set_option maxRecDepth 100000
set_option maxHeartbeats 4000000
namespace Pz
open PySem L2
/-! ### the next prime -/
def nxt : Nat → Int → Int
  | 0, s => s
  | f + 1, s => if isPb s = true then s else nxt f (s + 1)
def nx (s : Int) : Int := nxt (100003 - s).toNat s
theorem top_prime : isPb 100003 = true := by decide +kernel
theorem nxt_ge : ∀ (f : Nat) (s : Int), s ≤ nxt f s ∧ nxt f s ≤ s + f
  | 0, s => ⟨Int.le_refl _, by show s ≤ s + 0; omega⟩
  | f + 1, s => by
    unfold nxt
    split
    · omega
    · have := nxt_ge f (s + 1)
      omega
theorem nxt_prime : ∀ (f : Nat) (s : Int), s + f = 100003 → isPb (nxt f s) = true
  | 0, s, h => by
    have : s = 100003 := by omega
    rw [this]; exact top_prime
  | f + 1, s, h => by
    unfold nxt
    split
    · assumption
    · exact nxt_prime f (s + 1) (by omega)
theorem nx_ok {s : Int} (h : s ≤ 100003) : isPb (nx s) = true ∧ s ≤ nx s ∧ nx s ≤ 100003 := by
  have g := nxt_ge (100003 - s).toNat s
  exact ⟨nxt_prime _ _ (by omega), g.1, by unfold nx; omega⟩
theorem nx_self {s : Int} (h : isPb s = true) : nx s = s := by
  unfold nx
  cases e : (100003 - s).toNat with
  | zero => rfl
  | succ f => unfold nxt; rw [if_pos h]
theorem nx_step {s : Int} (h : s < 100003) (h2 : ¬ isPb s = true) : nx s = nx (s + 1) := by
  unfold nx
  have e : (100003 - s).toNat = (100003 - (s + 1)).toNat + 1 := by omega
  rw [e]
  show (if isPb s = true then s else nxt _ (s + 1)) = _
  rw [if_neg h2]
theorem st_seq3 (a b : CS) (env : Env) (st : Sto) : sSeq a b env st = (a env st).bind fun q s1 => match q.1 with
  | .next => b q.2 s1
  | _ => .ok q s1 := rfl
theorem c2 (k : Nat) (vs : List Vl) (st : Sto) : callAt GG (k + 1) "next_prime" vs st = runDf GG (callAt GG k) d2 vs st := rfl
theorem c9 (k : Nat) (vs : List Vl) (st : Sto) : callAt GG (k + 1) "_law_next" vs st = runDf GG (callAt GG k) d9 vs st := rfl
def mx (n : Int) : Int := if 2 > n then 2 else n
theorem max_ok (i j mu st) : biV .max mu [.p (.int i), .p (.int j)] st = .ok (.p (.int (if j > i then j else i))) st := rfl
theorem np_loop (k : Nat) (u : Option Vl) (st : Sto) (hf : Fine st) : ∀ (f : Nat) (s : Int), s ≤ 100003 → (100003 - s).toNat < f →
    whF (bTru (cNot (cCall (callAt GG (k + 2)) "is_prime" (aCons (cName 1) aNil)))) (sAug 1 Operator.Add (cP (P.int 1))) f [u, some (.p (.int s))] st = .ok (.next, [u, some (.p (.int (nx s)))]) st
  | 0, s, _, h => by omega
  | f + 1, s, h1, h2 => by
    have pr : callAt GG (k + 2) "is_prime" [.p (.int s)] st = .ok (.p (.bl (isPb s))) st := prime_ok k (.int s) rfl st hf
    rw [whF]
    by_cases hs : isPb s = true
    · rw [nx_self hs]
      simp only [bTru, cNot, cCall, aCons, aNil, cName, List.getElem?_cons_zero, List.getElem?_cons_succ, Res.bind_k, pr, hs, tr_bl, Bool.not_true, Option.map_some, ofO_some, Bool.false_eq_true, if_false]
    · have hlt : s < 100003 := by
        by_cases z : s = 100003
        · rw [z] at hs; exact absurd top_prime hs
        · omega
      have hs' : isPb s = false := by simpa using hs
      rw [nx_step hlt hs]
      have ih := np_loop k u st hf f (s + 1) (by omega) (by omega)
      simp only [bTru, cNot, cCall, aCons, aNil, cName, cP, sAug, List.getElem?_cons_zero, List.getElem?_cons_succ, List.set_cons_zero, List.set_cons_succ, Res.bind_k, pr, hs', tr_bl, Bool.not_false, Option.map_some, ofO_some, if_true, after]
      exact ih
theorem mx_le {n : Int} (h : n ≤ 100003) : mx n ≤ 100003 := by unfold mx; split <;> omega
theorem turns_gt {s : Int} (h : 0 ≤ s) : (100003 - s).toNat < turns := by
  rw [show turns = 1099511627776 from rfl]; omega
theorem mx_ge (n : Int) : 0 ≤ mx n := by unfold mx; split <;> omega
theorem next_ok (k : Nat) (n : Int) (h : n ≤ 100003) (st : Sto) (hf : Fine st) : callAt GG (k + 3) "next_prime" [.p (.int n)] st = .ok (.p (.int (nx (mx n)))) st := by
  rw [c2, run_df _ _ _ _ _ rfl, b2]
  have lp := np_loop k (some (.p (.int n))) st hf turns (mx n) (mx_le h) (turns_gt (mx_ge n))
  have lp : sWh (bTru (cNot (cCall (callAt GG (k + 2)) "is_prime" (aCons (cName 1) aNil)))) (sAug 1 Operator.Add (cP (P.int 1))) [some (.p (.int n)), some (.p (.int (mx n)))] st = _ := lp
  have mm : (if 2 > n then 2 else n) = mx n := rfl
  simp only [sSeq, sSet, sRet, cBi, aCons, aNil, cName, cP, tNm, d2, List.map_cons, List.map_nil, List.cons_append, List.nil_append, List.getElem?_cons_zero, List.getElem?_cons_succ, List.set_cons_zero, List.set_cons_succ, Res.bind_k, List.length_cons, List.length_nil, repN1, max_ok, mm]
  rw [lp]
  exact leave_f hf _
theorem ln_loop (k : Nat) (u : Option Vl) (st : Sto) (hf : Fine st) : ∀ (f : Nat) (s : Int), s ≤ 100003 → (100003 - s).toNat < f →
    whF (bTru (cNot (cCall (callAt GG (k + 1)) "_law_is_one" (aCons (cName 0) (aCons (cName 2) aNil))))) (sSet (tNm 2) (cBin Operator.Add false (cName 2) (cP (P.int 1)))) f [some KN, u, some (.p (.int s))] st = .ok (.next, [some KN, u, some (.p (.int (nx s)))]) st
  | 0, s, _, h => by omega
  | f + 1, s, h1, h2 => by
    have pr : callAt GG (k + 1) "_law_is_one" [KN, .p (.int s)] st = .ok (.p (.bl (isPb s))) st := one_ok k (.int s) rfl st hf
    rw [whF]
    by_cases hs : isPb s = true
    · rw [nx_self hs]
      simp only [bTru, cNot, cCall, aCons, aNil, cName, List.getElem?_cons_zero, List.getElem?_cons_succ, Res.bind_k, pr, hs, tr_bl, Bool.not_true, Option.map_some, ofO_some, Bool.false_eq_true, if_false]
    · have hlt : s < 100003 := by
        by_cases z : s = 100003
        · rw [z] at hs; exact absurd top_prime hs
        · omega
      have hs' : isPb s = false := by simpa using hs
      rw [nx_step hlt hs]
      have ih := ln_loop k u st hf f (s + 1) (by omega) (by omega)
      simp only [bTru, cNot, cCall, aCons, aNil, cName, cP, cBin, sSet, tNm, List.getElem?_cons_zero, List.getElem?_cons_succ, List.set_cons_zero, List.set_cons_succ, Res.bind_k, pr, hs', tr_bl, Bool.not_false, Option.map_some, ofO_some, if_true, after, op_add_ok]
      exact ih
theorem lnext_ok (k : Nat) (n : Int) (h : n ≤ 100003) (st : Sto) (hf : Fine st) : callAt GG (k + 2) "_law_next" [KN, .p (.int n)] st = .ok (.p (.int (nx (mx n)))) st := by
  rw [c9, run_df _ _ _ _ _ rfl, b9]
  have lp := ln_loop k (some (.p (.int n))) st hf turns (mx n) (mx_le h) (turns_gt (mx_ge n))
  have lp : sWh (bTru (cNot (cCall (callAt GG (k + 1)) "_law_is_one" (aCons (cName 0) (aCons (cName 2) aNil))))) (sSet (tNm 2) (cBin Operator.Add false (cName 2) (cP (P.int 1)))) [some KN, some (.p (.int n)), some (.p (.int (mx n)))] st = _ := lp
  have mm : (if 2 > n then 2 else n) = mx n := rfl
  have s0 : sSet (tNm 2) (cBi Bi.max false (aCons (cName 1) (aCons (cP (P.int 2)) aNil))) [some KN, some (.p (.int n)), none] st = .ok (.next, [some KN, some (.p (.int n)), some (.p (.int (mx n)))]) st := rfl
  show Res.bind (sSeq _ _ [some KN, some (.p (.int n)), none] st) _ = _
  rw [st_seq3, s0, Res.bind_k]
  show Res.bind (sSeq _ _ [some KN, some (.p (.int n)), some (.p (.int (mx n)))] st) _ = _
  rw [st_seq3, lp]
  exact leave_f hf _
/-! ### picks -/
theorem c5 (k : Nat) (vs : List Vl) (st : Sto) : callAt GG (k + 1) "_law_pick" vs st = runDf GG (callAt GG k) d5 vs st := rfl
theorem c8 (k : Nat) (vs : List Vl) (st : Sto) : callAt GG (k + 1) "_law_odd" vs st = runDf GG (callAt GG k) d8 vs st := rfl
theorem ix_at (xs : List P) (r : Int) (h0 : 0 ≤ r) (h1 : r < xs.length) (st : Sto) : ∃ x ∈ xs, ixV (.p (.lst xs)) (.p (.int r)) st = some (.p x) := by
  have hr : r.toNat < xs.length := by omega
  refine ⟨xs[r.toNat], List.getElem_mem hr, ?_⟩
  show atI (xs.map Vl.p) r = _
  unfold atI ixN
  rw [List.length_map, if_pos h0, if_pos h1]
  show (xs.map Vl.p)[r.toNat]? = _
  rw [List.getElem?_map, List.getElem?_eq_getElem hr]; rfl
theorem len_ok (xs : List P) (mu st) : biV .len mu [.p (.lst xs)] st = .ok (.p (.int (xs.length : Int))) st := by
  show ofO ((some (xs.map Vl.p).length).map fun (n : Nat) => Vl.p (.int (n : Int))) st = _
  rw [List.length_map]; rfl
theorem pick_ok (k : Nat) (cells : List Int) (m t : Int) (xs : List P) (hc : cells.length < 100) (ht : 0 ≤ t ∧ t < 1000000) (hx : 0 < xs.length ∧ xs.length < 100000) :
    ∃ x cells', x ∈ xs ∧ callAt GG (k + 2) "_law_pick" [.loc 1, .p (.lst xs)] (DK cells m t) = .ok (.p x) (DK cells' m (t + 1)) ∧ cells'.length ≤ cells.length := by
  obtain ⟨r, c', e, r0, r1, hl⟩ := draw_ok k cells m t xs.length hc ht (by omega)
  obtain ⟨x, hm, ex⟩ := ix_at xs r r0 r1 (DK c' m (t + 1))
  refine ⟨x, c', hm, ?_, hl⟩
  rw [c5, run_df _ _ _ _ _ rfl, b5]
  simp only [sRet, cIx, cCall, cBi, aCons, aNil, cName, d5, List.map_cons, List.map_nil, List.cons_append, List.nil_append, List.getElem?_cons_zero, List.getElem?_cons_succ, Res.bind_k, List.length_cons, List.length_nil, Nat.sub_self, List.replicate_zero, len_ok, e, ex, ofO_some, leave_p]
  rfl
end Pz

set_option Elab.async false
set_option linter.all false
set_option maxRecDepth 100000
set_option maxHeartbeats 4000000
namespace Pz
open PySem L2
/-! ### the odd values -/
def oddL : List P := [.non, .bl true, .bl false, .str "2", .str "", .tup [.int 2], .lst [.int 3], .dic [] [], .dic [.inl 5] [.int 7], .int (10 ^ 39), .int (10 ^ 39 + 7), .int (-7), .int (-(10 ^ 39)), .tup [], .str "7"]
def someL : List P := [.int 0, .int 1, .int 2, .int 3, .int 961, .int 1009, .int 65537, .int 99991, .int 999983, .int 994009, .int 1000000, .int 1000003, .int 1299709]
theorem newT_p (xs : List P) (st : Sto) (h : xs.length ≤ 1000000) : newT (xs.map .p) st = .ok (.p (.tup xs)) st := by
  unfold newT pureL
  rw [if_pos (by rw [List.length_map]; exact Nat.le_trans h (by decide)), frzs_p]
  rfl
theorem dic_p (kl : List Key) (xs : List P) (st : Sto) (h : (xs.map Vl.p).length = kl.length ∧ kl.Nodup ∧ kl.length ≤ 15) : cDic false kl (fun _ st => .ok (xs.map .p) st) [] st = .ok (.p (.dic kl xs)) st := by
  show (if (xs.map Vl.p).length = kl.length ∧ kl.Nodup ∧ kl.length ≤ 15 then (if false = true then Res.ok (.loc st.length) (st ++ [.dic kl (xs.map .p)]) else (pureL (xs.map .p) st).bind fun ps s2 => Res.ok (Vl.p (.dic kl ps)) s2) else .bad) = _
  rw [if_pos h, if_neg (by decide)]
  unfold pureL
  rw [frzs_p]; rfl
theorem p39 : (10 : Int) ^ Int.toNat 39 = 10 ^ 39 := rfl
theorem a_cons (a : CE) (r : CA) (x : P) (xs : List P) (env : Env) (st : Sto) (h : a env st = .ok (.p x) st) (h2 : r env st = .ok (xs.map .p) st) : aCons a r env st = .ok ((x :: xs).map .p) st := by
  unfold aCons
  rw [h, Res.bind_k, h2]; rfl
theorem odd_lst (env : Env) (st : Sto) : cLst false
                  (aCons (cP P.non)
                    (aCons (cP (P.bl true))
                      (aCons (cP (P.bl false))
                        (aCons (cP (P.str "2"))
                          (aCons (cP (P.str ""))
                            (aCons (cTup (aCons (cP (P.int 2)) aNil))
                              (aCons (cLst false (aCons (cP (P.int 3)) aNil))
                                (aCons (cDic false [] aNil)
                                  (aCons (cDic false [Sum.inl 5] (aCons (cP (P.int 7)) aNil))
                                    (aCons
                                      (cBin Operator.Pow false (cP (P.int 10)) (cP (P.int 39)))
                                      (aCons
                                        (cBin Operator.Add false
                                          (cBin Operator.Pow false (cP (P.int 10)) (cP (P.int 39)))
                                          (cP (P.int 7)))
                                        (aCons (cNeg (cP (P.int 7)))
                                          (aCons
                                            (cNeg
                                              (cBin Operator.Pow false (cP (P.int 10)) (cP (P.int 39))))
                                            (aCons (cTup aNil)
                                              (aCons (cP (P.str "7")) aNil))))))))))))))) env st = .ok (.p (.lst oddL)) st := by
  have cp : CPow 10 39 := ⟨by decide, by decide, by decide⟩
  have pw : cBin Operator.Pow false (cP (P.int 10)) (cP (P.int 39)) env st = .ok (.p (.int (10 ^ 39))) st := by
    simp only [cBin, cP, Res.bind_k, op_pow_ok, cp, p39]
  unfold cLst
  rw [a_cons _ _ .non _ env st rfl (a_cons _ _ (.bl true) _ env st rfl (a_cons _ _ (.bl false) _ env st rfl (a_cons _ _ (.str "2") _ env st rfl (a_cons _ _ (.str "") _ env st rfl (a_cons _ _ (.tup [.int 2]) _ env st ?_
    (a_cons _ _ (.lst [.int 3]) _ env st ?_ (a_cons _ _ (.dic [] []) _ env st ?_ (a_cons _ _ (.dic [.inl 5] [.int 7]) _ env st ?_ (a_cons _ _ (.int (10 ^ 39)) _ env st pw (a_cons _ _ (.int (10 ^ 39 + 7)) _ env st ?_ (a_cons _ _ (.int (-7)) _ env st rfl
    (a_cons _ _ (.int (-(10 ^ 39))) _ env st ?_ (a_cons _ _ (.tup []) _ env st ?_ (a_cons _ _ (.str "7") [] env st rfl rfl))))))))))))))]
  · exact new_p oddL st (by decide)
  · exact newT_p [.int 2] st (by decide)
  · exact new_p [.int 3] st (by decide)
  · exact dic_p [] [] st ⟨rfl, by decide, by decide⟩
  · exact dic_p [.inl 5] [.int 7] st ⟨rfl, by decide, by decide⟩
  · show Res.bind (cBin Operator.Pow false (cP (P.int 10)) (cP (P.int 39)) env st) _ = _
    rw [pw]; rfl
  · show Res.bind (cBin Operator.Pow false (cP (P.int 10)) (cP (P.int 39)) env st) _ = _
    rw [pw]; rfl
  · exact newT_p [] st (by decide)
theorem some_lst (env : Env) (st : Sto) : cLst false
                      (aCons (cP (P.int 0))
                        (aCons (cP (P.int 1))
                          (aCons (cP (P.int 2))
                            (aCons (cP (P.int 3))
                              (aCons (cP (P.int 4))
                                (aCons (cP (P.int 961))
                                  (aCons (cP (P.int 1009))
                                    (aCons (cP (P.int 65537))
                                      (aCons (cP (P.int 99991))
                                        (aCons (cP (P.int 999983))
                                          (aCons (cP (P.int 994009))
                                            (aCons
                                              (cBin Operator.Pow false (cP (P.int 10)) (cP (P.int 6)))
                                              (aCons (cP (P.int 1000003))
                                                (aCons (cP (P.int 1299709)) aNil)))))))))))))) env st = .ok (.p (.lst ([0, 1, 2, 3, 4, 961, 1009, 65537, 99991, 999983, 994009, 1000000, 1000003, 1299709].map .int))) st := by
  have cp : CPow 10 6 := ⟨by decide, by decide, by decide⟩
  simp only [cLst, aCons, aNil, cP, cBin, Res.bind_k, op_pow_ok, cp, p6]
  exact new_p ([0, 1, 2, 3, 4, 961, 1009, 65537, 99991, 999983, 994009, 1000000, 1000003, 1299709].map .int) st (by decide)
theorem plain_odd : ∀ x ∈ oddL, plainV x = true := List.all_eq_true.mp (by rfl)
theorem plain_map (xs : List Int) : ∀ x ∈ xs.map P.int, ∃ n ∈ xs, x = .int n := fun x h => by
  obtain ⟨n, hn, rfl⟩ := List.mem_map.mp h
  exact ⟨n, hn, rfl⟩
theorem args2 (a b : CE) (env : Env) (st : Sto) (x y : Vl) (s1 s2 : Sto) (h : a env st = .ok x s1) (h2 : b env s1 = .ok y s2) : aCons a (aCons b aNil) env st = .ok [x, y] s2 := by
  unfold aCons
  rw [h, Res.bind_k, h2]; rfl
theorem nextE (env : Env) (st : Sto) : sNext env st = .ok (.next, env) st := rfl
theorem odd_ok (k : Nat) (cells : List Int) (m t : Int) (hc : cells.length < 100) (ht : 0 ≤ t ∧ t < 900000) :
    ∃ x cells' t', plainV x = true ∧ callAt GG (k + 3) "_law_odd" [.loc 1, KN] (DK cells m t) = .ok (.p x) (DK cells' m t') ∧ cells'.length ≤ cells.length ∧ 0 ≤ t' ∧ t' ≤ t + 3 := by
  obtain ⟨w, c1, e1, w0, w1, l1⟩ := draw_ok (k + 1) cells m t 8 hc (by omega) (by decide)
  have hk0 : 0 < (known.map P.int).length := by rw [List.length_map]; exact Nat.zero_lt_succ _
  have hk1 : (known.map P.int).length < 100000 := by have := known_len; rw [List.length_map]; omega
  rw [c8, run_df _ _ _ _ _ rfl, b8]
  have st0 : sSet (tNm 2) (cCall (callAt GG (k + 2)) "_law_draw" (aCons (cName 0) (aCons (cP (P.int 8)) aNil))) [some (.loc 1), some KN, none, none] (DK cells m t) = .ok (.next, [some (.loc 1), some KN, some (.p (.int w)), none]) (DK c1 m (t + 1)) := by
    simp only [sSet, cCall, aCons, aNil, cName, cP, tNm, List.getElem?_cons_zero, Res.bind_k, e1, List.set_cons_zero, List.set_cons_succ]
  show ∃ x cells' t', plainV x = true ∧ Res.bind (sSeq _ _ [some (.loc 1), some KN, none, none] (DK cells m t)) _ = _ ∧ _
  rw [st_seq3, st0, Res.bind_k]
  have tst : ∀ (j : Int) (env : Env) (st : Sto), env[2]? = some (some (.p (.int w))) → bTru (cCmp CmpOp.Eq (cName 2) (cP (P.int j))) env st = .ok (decide (w = j)) st := fun j env st h => by
    simp only [bTru, cCmp, cName, cP, h, Res.bind_k, eq_ok, Option.map_some, ofO_some, tr_bl]
  have ife : ∀ (j : Int) (a b : CS) (env : Env) (st : Sto), env[2]? = some (some (.p (.int w))) → sIf (bTru (cCmp CmpOp.Eq (cName 2) (cP (P.int j)))) a b env st = if w = j then a env st else b env st := fun j a b env st h => by
    unfold sIf
    rw [tst j env st h, Res.bind_k]
    by_cases q : w = j
    · rw [if_pos q, decide_eq_true q, if_pos rfl]
    · rw [if_neg q, decide_eq_false q, if_neg (by decide)]
  have envq : ([some (.loc 1), some KN, some (.p (.int w)), none] : Env)[2]? = some (some (.p (.int w))) := rfl
  dsimp only
  rw [st_seq3, ife 0 _ _ _ _ envq]
  by_cases q0 : w = 0
  · rw [if_pos q0]
    obtain ⟨x, c2, hx, e2, l2⟩ := pick_ok k c1 m (t + 1) (known.map .int) (by omega) (by omega) ⟨hk0, hk1⟩
    obtain ⟨y, c3, hy, e3, l3⟩ := pick_ok k c2 m (t + 1 + 1) (known.map .int) (by omega) (by omega) ⟨hk0, hk1⟩
    obtain ⟨i, hi, rfl⟩ := plain_map known x hx
    obtain ⟨j, hj, rfl⟩ := plain_map known y hy
    have := known_ge hi
    have cm : CMul i j := .inl ⟨by omega, by omega⟩
    have e2 : callAt GG (k + 2) "_law_pick" [.loc 1, KN] (DK c1 m (t + 1)) = _ := e2
    have e3 : callAt GG (k + 2) "_law_pick" [.loc 1, KN] (DK c2 m (t + 1 + 1)) = _ := e3
    refine ⟨.int (i * j), c3, t + 1 + 1 + 1, rfl, ?_, by omega, by omega, by omega⟩
    simp only [sRet, cBin, cCall, aCons, aNil, cName, List.getElem?_cons_zero, List.getElem?_cons_succ, Res.bind_k, e2, e3, op_mul_ok, cm, d8, leave_p]
    rfl
  rw [if_neg q0, nextE, Res.bind_k]
  dsimp only
  rw [st_seq3, ife 1 _ _ _ _ envq]
  by_cases q1 : w = 1
  · rw [if_pos q1]
    have cp : CPow 10 6 := ⟨by decide, by decide, by decide⟩
    obtain ⟨r, c2, e2, _, _, l2⟩ := draw_ok (k + 1) c1 m (t + 1) 1000000 (by omega) (by omega) (by decide)
    refine ⟨.int r, c2, t + 1 + 1, rfl, ?_, by omega, by omega, by omega⟩
    simp only [sRet, cBin, cCall, aCons, aNil, cName, cP, List.getElem?_cons_zero, List.getElem?_cons_succ, Res.bind_k, op_pow_ok, cp, p6, e2, d8, leave_p]
    rfl
  rw [if_neg q1, nextE, Res.bind_k]
  dsimp only
  rw [st_seq3, ife 2 _ _ _ _ envq]
  by_cases q2 : w = 2
  · rw [if_pos q2]
    obtain ⟨r, c2, e2, _, _, l2⟩ := draw_ok (k + 1) c1 m (t + 1) 1000 (by omega) (by omega) (by decide)
    refine ⟨.int (r - 10), c2, t + 1 + 1, rfl, ?_, by omega, by omega, by omega⟩
    simp only [sRet, cBin, cCall, aCons, aNil, cName, cP, List.getElem?_cons_zero, List.getElem?_cons_succ, Res.bind_k, op_sub_ok, e2, d8, leave_p]
    rfl
  rw [if_neg q2, nextE, Res.bind_k]
  dsimp only
  rw [st_seq3, ife 3 _ _ _ _ envq]
  by_cases q3 : w = 3
  · rw [if_pos q3]
    obtain ⟨x, c2, hx, e2, l2⟩ := pick_ok k c1 m (t + 1) ([0, 1, 2, 3, 4, 961, 1009, 65537, 99991, 999983, 994009, 1000000, 1000003, 1299709].map .int) (by omega) (by omega) (by decide)
    obtain ⟨i, hi, rfl⟩ := plain_map _ x hx
    refine ⟨.int i, c2, t + 1 + 1, rfl, ?_, by omega, by omega, by omega⟩
    unfold sRet cCall
    rw [args2 _ _ _ _ (.loc 1) _ _ _ rfl (some_lst _ _)]
    simp only [Res.bind_k, e2, d8, leave_p]
    rfl
  rw [if_neg q3, nextE, Res.bind_k]
  dsimp only
  rw [st_seq3, ife 4 _ _ _ _ envq]
  by_cases q4 : w = 4
  · rw [if_pos q4]
    obtain ⟨x, c2, hx, e2, l2⟩ := pick_ok k c1 m (t + 1) (known.map .int) (by omega) (by omega) ⟨hk0, hk1⟩
    obtain ⟨i, hi, rfl⟩ := plain_map known x hx
    have e2 : callAt GG (k + 2) "_law_pick" [.loc 1, KN] (DK c1 m (t + 1)) = _ := e2
    refine ⟨.int i, c2, t + 1 + 1, rfl, ?_, by omega, by omega, by omega⟩
    simp only [sRet, cCall, aCons, aNil, cName, List.getElem?_cons_zero, List.getElem?_cons_succ, Res.bind_k, e2, d8, leave_p]
    rfl
  rw [if_neg q4, nextE, Res.bind_k]
  dsimp only
  obtain ⟨x, c2, hx, e2, l2⟩ := pick_ok k c1 m (t + 1) oddL (by omega) (by omega) (by decide)
  refine ⟨x, c2, t + 1 + 1, plain_odd x hx, ?_, by omega, by omega, by omega⟩
  rw [st_seq3]
  unfold sSet
  rw [odd_lst]
  simp only [tNm, sRet, cCall, aCons, aNil, cName, List.getElem?_cons_zero, List.getElem?_cons_succ, List.set_cons_zero, List.set_cons_succ, Res.bind_k, e2, d8, leave_p]
  rfl
end Pz

set_option Elab.async false
set_option linter.all false
set_option maxRecDepth 100000
set_option maxHeartbeats 4000000
namespace Pz
open PySem L2
theorem strOk_app (a b : Str) : PyData.strOk (a ++ b) = (PyData.strOk a && PyData.strOk b) := by
  unfold PyData.strOk
  rw [Str.cps_append, Array.all_append]
theorem strOk_int (i : Int) : PyData.strOk (Str.ofString (toString i)) = true := by
  unfold PyData.strOk
  rw [← Array.all_toList, List.all_eq_true]
  intro c hc
  rw [decide_eq_true_eq]
  exact Nat.lt_of_not_le fun z => PyProof.Rows.int_text_free' c ⟨by omega, .inr (by omega)⟩ i hc
theorem rep_p (x : P) (mu st) : biV .repr mu [.p x] st = ofO ((reprP x).map fun s => .p (.str s)) st := by
  show (match pk (.p x) st with | some y => ofO ((reprP y).map fun s => Vl.p (.str s)) st | none => .bad) = _
  rw [pk_p]
theorem ne_str (s : Str) (h : PyData.strOk s = true) (st : Sto) : cmpV .NotEq (.p (.str s)) (.p (.str s)) st = some false := by
  show (match pk (.p (.str s)) st, pk (.p (.str s)) st with | some x, some y => (eqD x y).map (!·) | _, _ => none) = _
  rw [pk_p]
  have hs : SeqAt.shaped (.str s) = true := by
    unfold SeqAt.shaped
    rw [show PyData.canLay0 (.str s) = true from h]; rfl
  show (if SeqAt.shaped (.str s) && SeqAt.shaped (.str s) then some (PyData.eqv (.str s) (.str s)) else none).map (!·) = _
  rw [hs]
  show some (!(s == s)) = _
  rw [beq_self_eq_true]; rfl
def bb (b : Bool) : Str := if b then "[True, True]" else "[False, False]"
theorem rep_bb (b : Bool) : reprP (.lst [.bl b, .bl b]) = some (bb b) := by cases b <;> decide +kernel
theorem bb_ok (b : Bool) : PyData.strOk (bb b) = true := by cases b <;> decide +kernel
theorem rep_int3 (a : Int) (h0 : 0 ≤ a) (h1 : a ≤ 100003) : ∃ s, reprP (.lst [.int a, .int a, .int a]) = some s ∧ PyData.strOk s = true := by
  have e : dataP (.lst [.int a, .int a, .int a]) = some (.list [.int a, .int a, .int a]) := rfl
  have sh : PyData.shown (.int a) = Str.ofString (toString a) := rfl
  have ln : (PyData.shown (.int a)).length ≤ 10 := by rw [sh]; exact PySem.W.KT.len_num h0 (by omega)
  refine ⟨PyData.shown (.list [.int a, .int a, .int a]), ?_, ?_⟩
  · unfold reprP
    rw [e]
    have lg : a.natAbs.log2 < 1920 := by
      by_cases z : a.natAbs = 0
      · rw [z]; decide
      · exact (Nat.log2_lt z).mpr (Nat.lt_of_lt_of_le (show a.natAbs < 2 ^ 20 by omega) (Nat.pow_le_pow_right (by decide) (by decide)))
    have bk := PyData.shown_le_bulk 10 (by decide) (.list [.int a, .int a, .int a]) (by
      show (decide ((PyData.shown (.int a)).length ≤ 10) && (decide ((PyData.shown (.int a)).length ≤ 10) && (decide ((PyData.shown (.int a)).length ≤ 10) && true))) = true
      rw [decide_eq_true ln]; rfl)
    dsimp only
    rw [if_pos]
    refine ⟨?_, rfl, ?_, Nat.le_trans bk (show 12 * 3 + 10 ≤ sizeLine by decide)⟩
    rotate_left
    · simp [PyData.depth, PyData.depthAll]
    show (decide (a.natAbs.log2 < 1920) && (decide (a.natAbs.log2 < 1920) && (decide (a.natAbs.log2 < 1920) && true))) = true
    rw [decide_eq_true lg]; rfl
  · show PyData.strOk (listText [PyData.shown (.int a), PyData.shown (.int a), PyData.shown (.int a)]) = true
    rw [sh]
    unfold listText
    simp only [textFrom, strOk_app, strOk_int, Bool.and_true, Bool.true_and]
    decide +kernel
end Pz

set_option Elab.async false
set_option linter.all false
set_option maxRecDepth 100000
set_option maxHeartbeats 4000000
namespace Pz
open PySem L2
def B1 : CS := sSeq (sSet (tNm 5) (cCall (callAt GG 8) "_law_odd" (aCons (cName 1) (aCons (cName 2) aNil)))) (sSeq (sSet (tNm 6) (cCall (callAt GG 8) "_law_is_one" (aCons (cName 2) (aCons (cName 5) aNil)))) (sIf (bTru (cCmp CmpOp.NotEq (cBi Bi.repr false (aCons (cLst false (aCons (cCall (callAt GG 8) "is_prime" (aCons (cName 5) aNil)) (aCons (cCallK (callAt GG 8) "is_prime" [0] aNil (aCons (cName 5) aNil)) aNil))) aNil)) (cBi Bi.repr false (aCons (cLst false (aCons (cName 6) (aCons (cName 6) aNil))) aNil)))) (sRet (cP (P.bl false))) sNext))
def B2 : CS := sSeq (sSet (tNm 5) (cCall (callAt GG 8) "_law_pick" (aCons (cName 1) (aCons (cLst false (aCons (cNeg (cP (P.int 5))) (aCons (cP (P.int 0)) (aCons (cP (P.int 1)) (aCons (cP (P.int 2)) (aCons (cP (P.int 3)) (aCons (cP (P.int 113)) (aCons (cP (P.int 114)) (aCons (cP (P.int 99991)) (aCons (cP (P.int 99992)) (aCons (cP (P.int 99999)) (aCons (cCall (callAt GG 8) "_law_draw" (aCons (cName 1) (aCons (cBin Operator.Pow false (cP (P.int 10)) (cP (P.int 5))) aNil))) aNil)))))))))))) aNil)))) (sSeq (sSet (tNm 6) (cCall (callAt GG 8) "_law_next" (aCons (cName 2) (aCons (cName 5) aNil)))) (sIf (bTru (cCmp CmpOp.NotEq (cBi Bi.repr false (aCons (cLst false (aCons (cCall (callAt GG 8) "next_prime" (aCons (cName 5) aNil)) (aCons (cCallK (callAt GG 8) "next_prime" [0] aNil (aCons (cName 5) aNil)) (aCons (cCall (callAt GG 8) "next_prime" (aCons (cName 6) aNil)) aNil)))) aNil)) (cBi Bi.repr false (aCons (cLst false (aCons (cName 6) (aCons (cName 6) (aCons (cName 6) aNil)))) aNil)))) (sRet (cP (P.bl false))) sNext))
def P4 : CS := sSet (tNm 4) (cLst false (aCons (cP (P.int 341)) (aCons (cP (P.int 561)) (aCons (cP (P.int 645)) (aCons (cP (P.int 1105)) (aCons (cP (P.int 1729)) (aCons (cP (P.int 2047)) (aCons (cP (P.int 2465)) (aCons (cP (P.int 3277)) (aCons (cP (P.int 4033)) (aCons (cP (P.int 15841)) (aCons (cP (P.int 29341)) (aCons (cP (P.int 65281)) (aCons (cP (P.int 486737)) (aCons (cP (P.int 873181)) aNil)))))))))))))))
def P5 : CS := sIf (bTru (cOr (cCmp CmpOp.NotEq (cLc false [5] (iVal (cName 4)) (tNm 5) (bTru (cCmp CmpOp.IsNot (cCall (callAt GG 8) "is_prime" (aCons (cName 5) aNil)) (cP (P.bl false)))) (cName 5)) (cLst false aNil)) (cCmp CmpOp.NotEq (cCall (callAt GG 8) "next_prime" (aCons (cP (P.int 2047)) aNil)) (cP (P.int 2053))))) (sRet (cP (P.bl false))) sNext
def P6 : CS := sRet (cCmp CmpOp.Eq (cBi Bi.repr false (aCons (cLc false [3] (iRg1 (cP (P.int 9))) (tNm 3) bYes (cCall (callAt GG 8) "is_prime" (aCons (cName 3) aNil))) aNil)) (cBi Bi.repr false (aCons (cLc false [3] (iRg1 (cP (P.int 9))) (tNm 3) bYes (cCmp CmpOp.In (cName 3) (cTup (aCons (cP (P.int 2)) (aCons (cP (P.int 3)) (aCons (cP (P.int 5)) (aCons (cP (P.int 7)) aNil))))))) aNil)))

theorem b10' : bodyOf GG (callAt GG 8) d10 = sSeq (sSet (tNm 1) (cCall (callAt GG 8) "_law_deck" (aCons (cName 0) aNil))) (sSeq (sSet (tNm 2) (cCall (callAt GG 8) "_law_primes" aNil))
    (sSeq (sFor (iRg1 (cP (P.int 16))) (tNm 3) B1) (sSeq (sFor (iRg1 (cP (P.int 6))) (tNm 3) B2) (sSeq P4 (sSeq P5 P6))))) := b10 _
theorem callK1 (call : Caller) (f : Str) (a : CE) (env : Env) (st : Sto) : cCallK call f [0] aNil (aCons a aNil) env st = cCall call f (aCons a aNil) env st := by
  unfold cCallK cCall aCons aNil
  rw [Res.bind_k]
  cases a env st <;> rfl
abbrev EV (u0 w3 w4 w5 w6 : Option Vl) : Env := [u0, some (.loc 1), some KN, w3, w4, w5, w6]
theorem turn1 (c : List Int) (m t : Int) (u0 w3 w4 w5 w6 : Option Vl) (hc : c.length < 100) (ht : 0 ≤ t ∧ t < 900000) :
    ∃ w5' w6' c' t', B1 (EV u0 w3 w4 w5 w6) (DK c m t) = .ok (.next, EV u0 w3 w4 w5' w6') (DK c' m t') ∧ c'.length ≤ c.length ∧ 0 ≤ t' ∧ t' ≤ t + 3 := by
  obtain ⟨x, c', t', hx, e1, l1, l2, l3⟩ := odd_ok 5 c m t hc ht
  have e1 : callAt GG 8 "_law_odd" [.loc 1, KN] (DK c m t) = _ := e1
  have e2 : callAt GG 8 "_law_is_one" [KN, .p x] (DK c' m t') = _ := one_ok 7 x hx _ (fine_DK c' m t')
  have e3 : callAt GG 8 "is_prime" [.p x] (DK c' m t') = _ := prime_ok 6 x hx _ (fine_DK c' m t')
  have e4 : newL false [.p (.bl (prV x)), .p (.bl (prV x))] (DK c' m t') = .ok (.p (.lst [.bl (prV x), .bl (prV x)])) (DK c' m t') := new_p [.bl (prV x), .bl (prV x)] _ (by simp)
  have n0 := ne_str (bb (prV x)) (bb_ok _) (DK c' m t')
  refine ⟨some (.p x), some (.p (.bl (prV x))), c', t', ?_, l1, l2, l3⟩
  simp only [B1, EV, callK1, sSeq, sSet, sIf, sRet, sNext, cCall, cBi, cLst, cCmp, bTru, aCons, aNil, cName, cP, tNm, List.getElem?_cons_zero, List.getElem?_cons_succ, List.set_cons_zero, List.set_cons_succ, Res.bind_k, e1, e2, e3, e4, rep_p, rep_bb, Option.map_some, ofO_some, n0, tr_bl, Bool.false_eq_true, if_false]
theorem for1 (m : Int) (u0 w4 : Option Vl) : ∀ (xs : List P) (c : List Int) (t : Int) (w3 w5 w6 : Option Vl), c.length < 100 → 0 ≤ t → t + 3 * (xs.length : Int) < 900000 →
    ∃ w3' w5' w6' c' t', forP (tNm 3) B1 xs (EV u0 w3 w4 w5 w6) (DK c m t) = .ok (.next, EV u0 w3' w4 w5' w6') (DK c' m t') ∧ c'.length ≤ c.length ∧ 0 ≤ t' ∧ t' ≤ t + 3 * (xs.length : Int)
  | [], c, t, w3, w5, w6, _, h0, _ => ⟨w3, w5, w6, c, t, rfl, Nat.le_refl _, h0, by simp⟩
  | x :: xs, c, t, w3, w5, w6, hc, h0, h1 => by
    rw [List.length_cons] at h1
    obtain ⟨w5', w6', c', t', e, l1, l2, l3⟩ := turn1 c m t u0 (some (.p x)) w4 w5 w6 hc ⟨h0, by omega⟩
    obtain ⟨v3, v5, v6, c2, t2, e2, l4, l5, l6⟩ := for1 m u0 w4 xs c' t' (some (.p x)) w5' w6' (by omega) l2 (by omega)
    refine ⟨v3, v5, v6, c2, t2, ?_, by omega, l5, by rw [List.length_cons]; omega⟩
    rw [forP, ← e2]
    show Res.bind (B1 (EV u0 (some (.p x)) w4 w5 w6) (DK c m t)) _ = _
    rw [e]; rfl
def tgtL (r : Int) : List Int := [-5, 0, 1, 2, 3, 113, 114, 99991, 99992, 99999, r]
theorem turn2 (c : List Int) (m t : Int) (u0 w3 w4 w5 w6 : Option Vl) (hc : c.length < 100) (ht : 0 ≤ t ∧ t < 900000) :
    ∃ w5' w6' c' t', B2 (EV u0 w3 w4 w5 w6) (DK c m t) = .ok (.next, EV u0 w3 w4 w5' w6') (DK c' m t') ∧ c'.length ≤ c.length ∧ 0 ≤ t' ∧ t' ≤ t + 3 := by
  have cp : CPow 10 5 := ⟨by decide, by decide, by decide⟩
  have p5 : (10 : Int) ^ Int.toNat 5 = 100000 := rfl
  obtain ⟨r, c1, e0, r0, r1, l0⟩ := draw_ok 7 c m t 100000 hc (by omega) (by decide)
  have e0 : callAt GG 8 "_law_draw" [.loc 1, .p (.int 100000)] (DK c m t) = _ := e0
  obtain ⟨x, c2, hx, e1, l1⟩ := pick_ok 6 c1 m (t + 1) ((tgtL r).map .int) (by omega) (by omega) (by simp [tgtL])
  obtain ⟨n, hn, rfl⟩ := plain_map _ x hx
  have hn : n ≤ 100003 := by
    simp only [tgtL, List.mem_cons, List.not_mem_nil, or_false] at hn
    omega
  have e1 : callAt GG 8 "_law_pick" [.loc 1, .p (.lst ((tgtL r).map .int))] (DK c1 m (t + 1)) = _ := e1
  have ht2 : 0 ≤ t + 1 + 1 := by omega
  have ht3 : t + 1 + 1 ≤ t + 3 := by omega
  generalize t + 1 + 1 = t2 at e1 ht2 ht3
  have el : newL false [.p (.int (-5)), .p (.int 0), .p (.int 1), .p (.int 2), .p (.int 3), .p (.int 113), .p (.int 114), .p (.int 99991), .p (.int 99992), .p (.int 99999), .p (.int r)] (DK c1 m (t + 1)) = .ok (.p (.lst ((tgtL r).map .int))) (DK c1 m (t + 1)) := new_p ((tgtL r).map .int) _ (by simp [tgtL])
  obtain ⟨d1, d2, d3⟩ := nx_ok (mx_le hn)
  have h2 : (2 : Int) ≤ mx n := by unfold mx; split <;> omega
  have dd : mx (nx (mx n)) = nx (mx n) := by
    show (if 2 > nx (mx n) then 2 else nx (mx n)) = _
    rw [if_neg (by omega)]
  have f2 := fine_DK c2 m t2
  have e2 : callAt GG 8 "_law_next" [KN, .p (.int n)] (DK c2 m t2) = _ := lnext_ok 6 n hn _ f2
  have e3 : callAt GG 8 "next_prime" [.p (.int n)] (DK c2 m t2) = _ := next_ok 5 n hn _ f2
  have e4 : callAt GG 8 "next_prime" [.p (.int (nx (mx n)))] (DK c2 m t2) = _ := next_ok 5 (nx (mx n)) d3 _ f2
  rw [dd, nx_self d1] at e4
  obtain ⟨s, s1, s2⟩ := rep_int3 (nx (mx n)) (Int.le_trans (mx_ge n) d2) d3
  generalize nx (mx n) = q at e2 e3 e4 s1
  have e5 : newL false [.p (.int q), .p (.int q), .p (.int q)] (DK c2 m t2) = .ok (.p (.lst [.int q, .int q, .int q])) (DK c2 m t2) := new_p [.int q, .int q, .int q] _ (by simp)
  have n0 := ne_str s s2 (DK c2 m t2)
  refine ⟨some (.p (.int n)), some (.p (.int q)), c2, t2, ?_, by omega, ht2, ht3⟩
  have neg5 : cNeg (cP (P.int 5)) (EV u0 w3 w4 w5 w6) (DK c m t) = .ok (.p (.int (-5))) (DK c m t) := rfl
  simp only [B2, EV, callK1, sSeq, sSet, sIf, sRet, sNext, cCall, cBi, cLst, cCmp, cBin, cNeg, bTru, aCons, aNil, cName, cP, tNm, List.getElem?_cons_zero, List.getElem?_cons_succ, List.set_cons_zero, List.set_cons_succ, Res.bind_k, op_pow_ok, cp, p5, e0, el, e1, e2, e3, e4, e5, rep_p, s1, Option.map_some, ofO_some, n0, tr_bl, Bool.false_eq_true, if_false]
theorem for2 (m : Int) (u0 w4 : Option Vl) : ∀ (xs : List P) (c : List Int) (t : Int) (w3 w5 w6 : Option Vl), c.length < 100 → 0 ≤ t → t + 3 * (xs.length : Int) < 900000 →
    ∃ w3' w5' w6' c' t', forP (tNm 3) B2 xs (EV u0 w3 w4 w5 w6) (DK c m t) = .ok (.next, EV u0 w3' w4 w5' w6') (DK c' m t') ∧ c'.length ≤ c.length ∧ 0 ≤ t' ∧ t' ≤ t + 3 * (xs.length : Int)
  | [], c, t, w3, w5, w6, _, h0, _ => ⟨w3, w5, w6, c, t, rfl, Nat.le_refl _, h0, by simp⟩
  | x :: xs, c, t, w3, w5, w6, hc, h0, h1 => by
    rw [List.length_cons] at h1
    obtain ⟨w5', w6', c', t', e, l1, l2, l3⟩ := turn2 c m t u0 (some (.p x)) w4 w5 w6 hc ⟨h0, by omega⟩
    obtain ⟨v3, v5, v6, c2, t2, e2, l4, l5, l6⟩ := for2 m u0 w4 xs c' t' (some (.p x)) w5' w6' (by omega) l2 (by omega)
    refine ⟨v3, v5, v6, c2, t2, ?_, by omega, l5, by rw [List.length_cons]; omega⟩
    rw [forP, ← e2]
    show Res.bind (B2 (EV u0 (some (.p x)) w4 w5 w6) (DK c m t)) _ = _
    rw [e]; rfl
def smL : List Int := [341, 561, 645, 1105, 1729, 2047, 2465, 3277, 4033, 15841, 29341, 65281, 486737, 873181]
theorem sm_not : smL.all (fun n => !isPb n) = true := by decide +kernel
theorem p4_ok (u0 w3 w4 w5 w6 : Option Vl) (st : Sto) : P4 (EV u0 w3 w4 w5 w6) st = .ok (.next, EV u0 w3 (some (.p (.lst (smL.map .int)))) w5 w6) st := by
  have el : newL false [.p (.int 341), .p (.int 561), .p (.int 645), .p (.int 1105), .p (.int 1729), .p (.int 2047), .p (.int 2465), .p (.int 3277), .p (.int 4033), .p (.int 15841), .p (.int 29341), .p (.int 65281), .p (.int 486737), .p (.int 873181)] st = .ok (.p (.lst (smL.map .int))) st := new_p (smL.map .int) _ (by decide)
  simp only [P4, EV, sSet, cLst, aCons, aNil, cP, tNm, Res.bind_k, el, List.set_cons_zero, List.set_cons_succ]
abbrev rT : CB := bTru (cCmp CmpOp.IsNot (cCall (callAt GG 8) "is_prime" (aCons (cName 5) aNil)) (cP (P.bl false)))
theorem isn_ok (b : Bool) (st : Sto) : cmpV .IsNot (.p (.bl b)) (.p (.bl false)) st = some b := by cases b <;> rfl
theorem sm_lc (c : List Int) (m t : Int) (u0 w3 w4 w6 : Option Vl) : ∀ xs : List Int, xs.all (fun n => !isPb n) = true → lcP (tNm 5) rT (cName 5) (EV u0 w3 w4 none w6) (xs.map .int) [] (DK c m t) = .ok [] (DK c m t)
  | [], _ => rfl
  | x :: xs, h => by
    rw [List.all_cons, Bool.and_eq_true] at h
    have hx : isPb x = false := by simpa using h.1
    have e : callAt GG 8 "is_prime" [.p (.int x)] (DK c m t) = .ok (.p (.bl (isPb x))) (DK c m t) := prime_ok 6 (.int x) rfl _ (fine_DK c m t)
    rw [List.map_cons, lcP]
    unfold lcTurn
    simp only [rT, EV, tNm, bTru, cCmp, cCall, aCons, aNil, cName, cP, List.getElem?_cons_zero, List.getElem?_cons_succ, List.set_cons_zero, List.set_cons_succ, Res.bind_k, e, isn_ok, hx, Option.map_some, ofO_some, tr_bl, Bool.false_eq_true, if_false]
    exact sm_lc c m t u0 w3 w4 w6 xs h.2
theorem nx2047 : nx (mx 2047) = 2053 := by decide +kernel
theorem p5_ok (c : List Int) (m t : Int) (u0 w3 w5 w6 : Option Vl) : P5 (EV u0 w3 (some (.p (.lst (smL.map .int)))) w5 w6) (DK c m t) = .ok (.next, EV u0 w3 (some (.p (.lst (smL.map .int)))) w5 w6) (DK c m t) := by
  have hc : cLc false [5] (iVal (cName 4)) (tNm 5) rT (cName 5) (EV u0 w3 (some (.p (.lst (smL.map .int)))) w5 w6) (DK c m t) = .ok (.p (.lst [])) (DK c m t) := by
    show Res.bind (lcP (tNm 5) rT (cName 5) (EV u0 w3 (some (.p (.lst (smL.map .int)))) none w6) (smL.map .int) [] (DK c m t)) (fun ys s2 => newL false ys s2) = _
    rw [sm_lc _ _ _ _ _ _ _ _ sm_not]
    exact new0 _
  have e : callAt GG 8 "next_prime" [.p (.int 2047)] (DK c m t) = .ok (.p (.int (nx (mx 2047)))) (DK c m t) := next_ok 5 2047 (by decide) _ (fine_DK c m t)
  rw [nx2047] at e
  have n0 := ne_nilV [] (DK c m t)
  rw [List.map_nil] at n0
  simp only [rT, EV] at hc
  simp only [P5, EV, sIf, sNext, cOr, cCmp, hc, cLst, cCall, bTru, aCons, aNil, cName, cP, Res.bind_k, new0, n0, e, ne_ok, List.isEmpty_nil, Bool.not_true, decide_true, Option.map_some, ofO_some, tr_bl, Bool.false_eq_true, if_false]
theorem lc_map (tg : Nat) (elt : CE) (st : Sto) (env : Env) (f : P → P) : ∀ (xs acc : List P), acc.length + xs.length ≤ 100 → (∀ x ∈ xs, elt (env.set tg (some (.p x))) st = .ok (.p (f x)) st) →
    lcP (tNm tg) bYes elt env xs (acc.map .p) st = .ok ((acc ++ xs.map f).map .p) st
  | [], acc, _, _ => by rw [List.map_nil, List.append_nil]; rfl
  | x :: xs, acc, h, he => by
    rw [List.length_cons] at h
    have al : (acc.map Vl.p).length < sizeLine := by rw [List.length_map]; exact Nat.lt_of_lt_of_le (show acc.length < 200 by omega) (by decide)
    have e : acc.map Vl.p ++ [Vl.p (f x)] = (acc ++ [f x]).map Vl.p := by simp
    have ih := lc_map tg elt st env f xs (acc ++ [f x]) (by rw [List.length_append, List.length_singleton]; omega) (fun y hy => he y (List.mem_cons_of_mem _ hy))
    rw [List.append_assoc, List.singleton_append] at ih
    rw [lcP]
    unfold lcTurn
    simp only [tNm, bYes, Res.bind_k, if_true, he x List.mem_cons_self, al, e]
    exact ih
theorem lst9 : (rgP 0 9).map (fun x => P.bl (prV x)) = (rgP 0 9).map (fun x => P.bl (match x with | .int k => decide (k = 2 ∨ k = 3 ∨ k = 5 ∨ k = 7) | _ => false)) := by
  have h : ∀ i, i < 9 → isPb ((0 : Int) + (i : Nat)) = decide (((0 : Int) + (i : Nat)) = 2 ∨ ((0 : Int) + (i : Nat)) = 3 ∨ ((0 : Int) + (i : Nat)) = 5 ∨ ((0 : Int) + (i : Nat)) = 7) := by decide +kernel
  unfold rgP
  rw [List.map_map, List.map_map]
  apply List.map_congr_left
  intro i hi
  exact congrArg P.bl (h i (List.mem_range.mp hi))
def s9 : Str := "[False, False, True, True, False, True, False, True, False]"
theorem rep9 : reprP (.lst ((rgP 0 9).map (fun x => P.bl (match x with | .int k => decide (k = 2 ∨ k = 3 ∨ k = 5 ∨ k = 7) | _ => false)))) = some s9 := by decide +kernel
theorem eq_s9 (st : Sto) : cmpV .Eq (.p (.str s9)) (.p (.str s9)) st = some true := by
  show (match pk (.p (.str s9)) st, pk (.p (.str s9)) st with | some x, some y => eqD x y | _, _ => none) = _
  rw [pk_p]
  show eqD (.str s9) (.str s9) = some true
  decide +kernel
theorem rg9 (x : P) (h : x ∈ rgP 0 9) : ∃ k : Int, x = .int k ∧ 0 ≤ k ∧ k < 9 := by
  unfold rgP at h
  obtain ⟨i, hi, rfl⟩ := List.mem_map.mp h
  have := List.mem_range.mp hi
  exact ⟨_, rfl, by omega, by omega⟩
theorem in4 (k : Int) (st : Sto) : cmpV .In (.p (.int k)) (.p (.tup [.int 2, .int 3, .int 5, .int 7])) st = some (decide (k = 2 ∨ k = 3 ∨ k = 5 ∨ k = 7)) := by
  have e : peeks st deep ([P.int 2, .int 3, .int 5, .int 7].map .p) = some [.int 2, .int 3, .int 5, .int 7] := by
    simp [peeks, peek, deep]
  show (match peeks st deep ([P.int 2, .int 3, .int 5, .int 7].map .p) with | some zs => inP (.int k) zs | none => none) = _
  rw [e]
  show some (((2 : Int) == k) || (((3 : Int) == k) || (((5 : Int) == k) || (((7 : Int) == k) || false)))) = _
  congr 1
  rw [Bool.eq_iff_iff]
  simp only [Bool.or_eq_true, beq_iff_eq, decide_eq_true_eq, Bool.false_eq_true, or_false]
  omega
theorem p6_ok (c : List Int) (m t : Int) (u0 w3 w4 w5 w6 : Option Vl) : P6 (EV u0 w3 w4 w5 w6) (DK c m t) = .ok (.ret (.p (.bl true)), EV u0 w3 w4 w5 w6) (DK c m t) := by
  have hc1 : cLc false [3] (iRg1 (cP (P.int 9))) (tNm 3) bYes (cCall (callAt GG 8) "is_prime" (aCons (cName 3) aNil)) (EV u0 w3 w4 w5 w6) (DK c m t) = .ok (.p (.lst ((rgP 0 9).map fun x => P.bl (prV x)))) (DK c m t) := by
    show Res.bind (lcP (tNm 3) bYes (cCall (callAt GG 8) "is_prime" (aCons (cName 3) aNil)) (EV u0 none w4 w5 w6) (rgP 0 9) (([] : List P).map .p) (DK c m t)) (fun ys s2 => newL false ys s2) = _
    rw [lc_map 3 _ (DK c m t) _ (fun x => P.bl (prV x)) (rgP 0 9) [] (by rw [rg_len]; decide) (fun x hx => ?_)]
    · exact new_p _ _ (by simp [rg_len])
    · obtain ⟨k, rfl, _, _⟩ := rg9 x hx
      exact prime_ok 6 (.int k) rfl _ (fine_DK c m t)
  have hc2 : cLc false [3] (iRg1 (cP (P.int 9))) (tNm 3) bYes (cCmp CmpOp.In (cName 3) (cTup (aCons (cP (P.int 2)) (aCons (cP (P.int 3)) (aCons (cP (P.int 5)) (aCons (cP (P.int 7)) aNil)))))) (EV u0 w3 w4 w5 w6) (DK c m t) =
      .ok (.p (.lst ((rgP 0 9).map (fun x => P.bl (match x with | .int k => decide (k = 2 ∨ k = 3 ∨ k = 5 ∨ k = 7) | _ => false))))) (DK c m t) := by
    show Res.bind (lcP (tNm 3) bYes (cCmp CmpOp.In (cName 3) (cTup (aCons (cP (P.int 2)) (aCons (cP (P.int 3)) (aCons (cP (P.int 5)) (aCons (cP (P.int 7)) aNil)))))) (EV u0 none w4 w5 w6) (rgP 0 9) (([] : List P).map .p) (DK c m t)) (fun ys s2 => newL false ys s2) = _
    rw [lc_map 3 _ (DK c m t) _ (fun x => P.bl (match x with | .int k => decide (k = 2 ∨ k = 3 ∨ k = 5 ∨ k = 7) | _ => false)) (rgP 0 9) [] (by rw [rg_len]; decide) (fun x hx => ?_)]
    · exact new_p _ _ (by simp [rg_len])
    · obtain ⟨k, rfl, _, _⟩ := rg9 x hx
      have et : newT [.p (.int 2), .p (.int 3), .p (.int 5), .p (.int 7)] (DK c m t) = .ok (.p (.tup [.int 2, .int 3, .int 5, .int 7])) (DK c m t) := newT_p [.int 2, .int 3, .int 5, .int 7] _ (by decide)
      simp only [EV, cCmp, cTup, aCons, aNil, cName, cP, List.set_cons_zero, List.set_cons_succ, List.getElem?_cons_zero, List.getElem?_cons_succ, Res.bind_k, et, in4, Option.map_some, ofO_some]
  have ra : ∀ (X : CE) (x : P) (s : Str), X (EV u0 w3 w4 w5 w6) (DK c m t) = .ok (.p x) (DK c m t) → reprP x = some s → cBi Bi.repr false (aCons X aNil) (EV u0 w3 w4 w5 w6) (DK c m t) = .ok (.p (.str s)) (DK c m t) := fun X x s h1 h2 => by
    unfold cBi aCons
    rw [h1, Res.bind_k]
    show biV .repr false [.p x] (DK c m t) = _
    rw [rep_p, h2]; rfl
  have r1 := ra _ _ s9 hc1 (by rw [lst9]; exact rep9)
  have r2 := ra _ _ s9 hc2 rep9
  unfold P6 sRet cCmp
  unfold cCmp at r2
  rw [r1, Res.bind_k, r2, Res.bind_k, eq_s9]
  rfl
theorem c10 (k : Nat) (vs : List Vl) (st : Sto) : callAt GG (k + 1) "law" vs st = runDf GG (callAt GG k) d10 vs st := rfl
theorem pure_law : ∀ ns : List Int, ns.length ≤ 63 → ∃ st, callAt GG 9 "law" [.p (.scr ns)] [] = .ok (.p (.bl true)) st := by
  intro ns hn
  obtain ⟨c, m, hc, e1⟩ := deck_ok 7 ns hn
  have e1 : callAt GG 8 "_law_deck" [.p (.scr ns)] [] = _ := e1
  have e2 : callAt GG 8 "_law_primes" [] (DK c m 0) = _ := primes_ok 7 c m 0
  obtain ⟨w3, w5, w6, c1, t1, f1, l1, l2, l3⟩ := for1 m (some (.p (.scr ns))) none (rgP 0 16) c 0 none none none (by omega) (by decide) (by rw [rg_len]; decide)
  rw [rg_len] at l3
  obtain ⟨v3, v5, v6, c2, t2, f2, l4, l5, l6⟩ := for2 m (some (.p (.scr ns))) none (rgP 0 6) c1 t1 w3 w5 w6 (by omega) l2 (by rw [rg_len]; omega)
  have g1 : sFor (iRg1 (cP (P.int 16))) (tNm 3) B1 (EV (some (.p (.scr ns))) none none none none) (DK c m 0) = _ := f1
  have g2 : sFor (iRg1 (cP (P.int 6))) (tNm 3) B2 (EV (some (.p (.scr ns))) w3 none w5 w6) (DK c1 m t1) = _ := f2
  have p4 := p4_ok (some (.p (.scr ns))) v3 none v5 v6 (DK c2 m t2)
  have p5 := p5_ok c2 m t2 (some (.p (.scr ns))) v3 v5 v6
  have p6 := p6_ok c2 m t2 (some (.p (.scr ns))) v3 (some (.p (.lst (smL.map .int)))) v5 v6
  have s1 : sSet (tNm 1) (cCall (callAt GG 8) "_law_deck" (aCons (cName 0) aNil)) [some (.p (.scr ns)), none, none, none, none, none, none] [] = .ok (.next, [some (.p (.scr ns)), some (.loc 1), none, none, none, none, none]) (DK c m 0) := by
    simp only [sSet, cCall, aCons, aNil, cName, tNm, List.getElem?_cons_zero, Res.bind_k, e1, List.set_cons_zero, List.set_cons_succ]
  have s2 : sSet (tNm 2) (cCall (callAt GG 8) "_law_primes" aNil) [some (.p (.scr ns)), some (.loc 1), none, none, none, none, none] (DK c m 0) = .ok (.next, EV (some (.p (.scr ns))) none none none none) (DK c m 0) := by
    simp only [sSet, cCall, aNil, tNm, Res.bind_k, e2, List.set_cons_zero, List.set_cons_succ]
  rw [c10, run_df _ _ _ _ _ rfl, b10']
  show ∃ st, Res.bind (sSeq _ _ [some (.p (.scr ns)), none, none, none, none, none, none] []) _ = _
  rw [st_seq3, s1, Res.bind_k]
  dsimp only
  rw [st_seq3, s2, Res.bind_k]
  dsimp only
  rw [st_seq3, g1, Res.bind_k]
  dsimp only
  rw [st_seq3, g2, Res.bind_k]
  dsimp only
  rw [st_seq3, p4, Res.bind_k]
  dsimp only
  rw [st_seq3, p5, Res.bind_k]
  dsimp only
  rw [p6]
  exact ⟨[], rfl⟩

end Pz

open PySem PySem.W PyProof.Rows
set_option maxRecDepth 100000 in
set_option maxHeartbeats 0 in
theorem PySem.Challenge.cw_pairsopen_k23_primes_holds : PySem.Challenge.rw_pairsopen_k23_primes.Holds := by
  w_on; o_law; k_head; (case hw => w_witness2)
  k_fill
  refine Pz.law_holds (l := PySem.Challenge.rw_pairsopen_k23_primes) (n := 63) (k := 9) (G := Pz.GG) (dL := Pz.d10) (x := "_law_script") rfl (by decide) rfl ⟨rfl, by decide, by decide⟩ (fun w h Y => PySem.W.kIn_of Y) rfl rfl ?F Pz.pure_law
  case F =>
    intro w mg h KX G
    refine' Pz.gf KX G ?a0 ?l0 ?c0 ?k0 ?a1 ?l1 ?c1 ?k1 ?a2 ?l2 ?c2 ?k2 ?a3 ?l3 ?c3 ?k3 ?a4 ?l4 ?c4 ?k4 ?a5 ?l5 ?c5 ?k5 ?a6 ?l6 ?c6 ?k6 ?a7 ?l7 ?c7 ?k7 ?a8 ?l8 ?c8 ?k8 ?a9 ?l9 ?c9 ?k9 ?a10 ?l10 ?c10 ?k10 ?v0 ?z0 ?z1 ?z2 ?z3 ?z4 ?z5 ?z6 ?z7 ?z8 ?z9 ?z10 ?z11 ?z12 ?z13 ?z14 ?z15 ?z16
    (case a0 => k_is)
    (case l0 => k_is)
    (case c0 => k_is)
    (case k0 => k_is)
    (case a1 => k_is)
    (case l1 => k_is)
    (case c1 => k_is)
    (case k1 => k_is)
    (case a2 => k_is)
    (case l2 => k_is)
    (case c2 => k_is)
    (case k2 => k_is)
    (case a3 => k_is)
    (case l3 => k_is)
    (case c3 => k_is)
    (case k3 => k_is)
    (case a4 => k_is)
    (case l4 => k_is)
    (case c4 => k_is)
    (case k4 => k_is)
    (case a5 => k_is)
    (case l5 => k_is)
    (case c5 => k_is)
    (case k5 => k_is)
    (case a6 => k_is)
    (case l6 => k_is)
    (case c6 => k_is)
    (case k6 => k_is)
    (case a7 => k_is)
    (case l7 => k_is)
    (case c7 => k_is)
    (case k7 => k_is)
    (case a8 => k_is)
    (case l8 => k_is)
    (case c8 => k_is)
    (case k8 => k_is)
    (case a9 => k_is)
    (case l9 => k_is)
    (case c9 => k_is)
    (case k9 => k_is)
    (case a10 => k_is)
    (case l10 => k_is)
    (case c10 => k_is)
    (case k10 => k_is)
    (case v0 => k_is)
    (case z0 => k_is)
    (case z1 => k_is)
    (case z2 => k_is)
    (case z3 => k_is)
    (case z4 => k_is)
    (case z5 => k_is)
    (case z6 => k_is)
    (case z7 => k_is)
    (case z8 => k_is)
    (case z9 => k_is)
    (case z10 => k_is)
    (case z11 => k_is)
    (case z12 => k_is)
    (case z13 => k_is)
    (case z14 => k_is)
    (case z15 => k_is)
    (case z16 => k_is)
