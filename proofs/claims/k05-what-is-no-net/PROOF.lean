import PyProof.Rows.All
import Wide.All
import HandS.ForMost
import HandS.Deep
import HandS.Exc
import HandS.Flow
import HandS.Wide
import HandS.IsInst
import HandS.TupAny
import HandS.ExcOwn
import HandS.TryOnly
import KE.GoesEnum
import HandS.Zip
import HandS.Comp
import HandS.Dict
import HandS.WordsExc
import HandS.Defaults
import HandS.HeadEnd
import KE.KStateDown
import HandS.Head0
import HandS.Head1
import HandS.Head2
import HandS.HeadHook1
import HandS.HeadHook2
import HandS.More
import PySem.Challenge.RW_tokenfold_k05_what_is_no_net
set_option Elab.async false
set_option linter.all false
namespace M
open PySem
abbrev Key := L2.Key
inductive D where
  | non | bl (b : Bool) | int (i : Int) | str (s : Str) | tup (xs : List D) | lst (xs : List D) | dic (kvs : List (Key × D))
  deriving Inhabited
mutual
def D.py : D → PyData
  | .non => .none
  | .bl b => .bool b
  | .int i => .int i
  | .str s => .str s
  | .tup xs => .tuple (D.pyAll xs)
  | .lst xs => .list (D.pyAll xs)
  | .dic _ => .dict []
def D.pyAll : List D → List PyData
  | [] => []
  | d :: ds => D.py d :: D.pyAll ds
end
def D.ok (d : D) : Bool := SeqAt.shaped d.py
def D.scal : D → Bool
  | .non | .bl _ | .int _ | .str _ => true
  | _ => false
inductive MV where
  | no
  | dat (d : D)
  | tmp (d : D)
  | blst (xs : List D)
  | bdic (kvs : List (Key × D))
  | lst (xs : List D)
  | dic (kvs : List (Key × D))
  deriving Inhabited
def MV.fz : MV → D
  | .no => .non
  | .dat d => d
  | .tmp d => d
  | .blst xs => .lst xs
  | .bdic k => .dic k
  | .lst xs => .lst xs
  | .dic k => .dic k
def MV.temp : MV → Bool
  | .tmp _ | .blst _ | .bdic _ => true
  | _ => false
def MV.own : MV → Bool
  | .lst _ | .dic _ => true
  | _ => false
def MV.of (p : Bool) (d : D) : MV := if p || d.scal then .dat d else .tmp d
structure Exc where
  cls : Nat
  fs : List D
  deriving Inhabited
abbrev Env := List MV
abbrev R (α : Type) := Option (Except Exc α × Env)
def R.bind {α β : Type} (m : R α) (f : α → Env → R β) : R β :=
  match m with
  | none => none
  | some (.error x, r) => some (.error x, r)
  | some (.ok a, r) => f a r
def ret {α : Type} (a : α) (r : Env) : R α := some (.ok a, r)
def lift {α : Type} (o : Option α) (r : Env) : R α := o.map fun a => (.ok a, r)
inductive Bop where | add | sub | mul | fdiv | mod | pow
  deriving DecidableEq, Repr
inductive Uop where | neg | not
  deriving DecidableEq, Repr
inductive Cop where | eq | ne | lt | le | gt | ge | isin | notin | is | isnot
  deriving DecidableEq, Repr
inductive Ty where | int | bool | str | list | tuple | dict
  deriving DecidableEq, Repr
inductive Bi where
  | len | max2 | min2 | int1 | str1 | list1 | tuple1 | all1 | any1 | sum1 | max1 | min1 | abs1 | isi (t : Ty)
  deriving DecidableEq, Repr
inductive Me where | split | isalnum | isalpha | lower | index
  deriving DecidableEq, Repr
inductive Mu where | append | popAt
  deriving DecidableEq, Repr
def mulOk (i j : Int) : Bool := decide (i.natAbs < 2 ^ 64) || decide (j.natAbs < 2 ^ 64) || decide (i.natAbs.log2 + j.natAbs.log2 < 1000000)
def divOk (j : Int) : Bool := decide (0 < j) && decide (j.natAbs.log2 < 9000)
def powOk (i j : Int) : Bool := decide (0 ≤ j) && decide (Builtin.Int.intBits i * j ≤ 2 ^ 27)
def line : Nat := 16777216
def MV.seq : MV → Option (Bool × List D)
  | .dat (.lst xs) => some (true, xs)
  | .dat (.tup xs) => some (true, xs)
  | .lst xs => some (true, xs)
  | .blst xs => some (true, xs)
  | .tmp (.lst xs) => some (false, xs)
  | .tmp (.tup xs) => some (false, xs)
  | _ => none
def MV.list : MV → Option (Bool × List D)
  | .dat (.lst xs) => some (true, xs)
  | .lst xs => some (true, xs)
  | .blst xs => some (true, xs)
  | .tmp (.lst xs) => some (false, xs)
  | _ => none
def MV.tup : MV → Option (Bool × List D)
  | .dat (.tup xs) => some (true, xs)
  | .tmp (.tup xs) => some (false, xs)
  | _ => none
def mkL (p : Bool) (xs : List D) : MV := if p then .lst xs else .tmp (.lst xs)
def mkT (p : Bool) (xs : List D) : MV := MV.of p (.tup xs)
def addL (a b : MV) : Option MV :=
  match a.list, b.list with
  | some (p, xs), some (q, ys) => if xs.length + ys.length ≤ line then some (mkL (p && q) (xs ++ ys)) else none
  | _, _ => match a.tup, b.tup with
    | some (p, xs), some (q, ys) => if xs.length + ys.length ≤ line then some (mkT (p && q) (xs ++ ys)) else none
    | _, _ => none
def bin (o : Bop) (a b : MV) : Option MV :=
  match o, a.fz, b.fz with
  | .add, .int i, .int j => some (.dat (.int (i + j)))
  | .sub, .int i, .int j => some (.dat (.int (i - j)))
  | .mul, .int i, .int j => if mulOk i j then some (.dat (.int (i * j))) else none
  | .fdiv, .int i, .int j => if divOk j then some (.dat (.int (i / j))) else none
  | .mod, .int i, .int j => if 0 < j then some (.dat (.int (i % j))) else none
  | .pow, .int i, .int j => if powOk i j then some (.dat (.int (i ^ j.toNat))) else none
  | .add, .str i, .str j => if i.length + j.length ≤ line then some (.dat (.str (i ++ j))) else none
  | .add, .lst _, .lst _ => addL a b
  | .add, .tup _, .tup _ => addL a b
  | _, _, _ => none
def truth : D → Option Bool
  | .non => some false
  | .bl b => some b
  | .int i => some (i != 0)
  | .str s => if s.length ≤ line then some (s.length != 0) else none
  | .lst xs => some (!xs.isEmpty)
  | .tup xs => some (!xs.isEmpty)
  | .dic k => some (!k.isEmpty)
def una (o : Uop) (a : MV) : Option MV :=
  match o, a.fz with
  | .neg, .int i => some (.dat (.int (-i)))
  | .not, d => (truth d).map fun b => .dat (.bl (!b))
  | _, _ => none
def eqD (a b : D) : Bool := PyData.eqv a.py b.py
def D.key : D → Option Key
  | .int i => some (.inl i)
  | .str s => some (.inr s)
  | _ => none
def look (k : Key) (kvs : List (Key × D)) : Option D := (kvs.find? fun p => decide (p.1 = k)).map (·.2)
def put (k : Key) (d : D) (kvs : List (Key × D)) : List (Key × D) :=
  if (kvs.any fun p => decide (p.1 = k)) = true then kvs.map (fun p => if p.1 = k then (p.1, d) else p) else kvs ++ [(k, d)]
def isIn (x y : D) : Option Bool :=
  match y with
  | .lst ys => if x.ok && (D.lst ys).ok then some (ys.any fun z => eqD z x) else none
  | .tup ys => if x.scal && ys.all D.scal then some (ys.any fun z => eqD z x) else none
  | .dic kvs => x.key.map fun k => (look k kvs).isSome
  | .str s => match x with
    | .str t => match t.cps.toList with
      | [c] => some (decide (c ∈ s.cps.toList))
      | _ => none
    | _ => none
  | _ => none
def lexS : List Nat → List Nat → Bool := fun a b => decide (a < b)
def cmp (o : Cop) (a b : D) : Option Bool :=
  match o, a, b with
  | .eq, a, b => if a.ok && b.ok then some (eqD a b) else none
  | .ne, a, b => if a.ok && b.ok then some (!eqD a b) else none
  | .lt, .int i, .int j => some (decide (i < j))
  | .le, .int i, .int j => some (decide (i ≤ j))
  | .gt, .int i, .int j => some (decide (j < i))
  | .ge, .int i, .int j => some (decide (j ≤ i))
  | .isin, a, b => isIn a b
  | .notin, a, b => (isIn a b).map (!·)
  | .is, a, .non => some (match a with | .non => true | _ => false)
  | .isnot, a, .non => some (match a with | .non => false | _ => true)
  | _, _, _ => none
def ix {α : Type} (xs : List α) (i : Int) : Option α := L2.atI xs i
def idx (a b : MV) : Option MV :=
  match a with
  | .dat (.dic kvs) => b.fz.key.bind fun k => (look k kvs).map .dat
  | .dic kvs => b.fz.key.bind fun k => (look k kvs).map .dat
  | .bdic kvs => b.fz.key.bind fun k => (look k kvs).map .dat
  | _ => match b.fz with
    | .int i => match a.seq with
      | some (p, xs) => (ix xs i).map (MV.of p)
      | none => match a.fz with
        | .str s => if s.length ≤ line then (ix s.cps.toList i).map fun c => .dat (.str ⟨#[c]⟩) else none
        | _ => none
    | _ => none
def cutL {α : Type} (xs : List α) (lo hi : Option Int) : List α := (xs.drop (HT.sIx xs.length 0 lo)).take (HT.sIx xs.length xs.length hi - HT.sIx xs.length 0 lo)
def sli (a : MV) (lo hi : Option Int) : Option MV :=
  match a.list with
  | some (p, xs) => some (mkL p (cutL xs lo hi))
  | none => match a.tup with
    | some (p, xs) => some (mkT p (cutL xs lo hi))
    | none => none
def isTy : Ty → D → Bool
  | .int, .int _ => true
  | .int, .bl _ => true
  | .bool, .bl _ => true
  | .str, .str _ => true
  | .list, .lst _ => true
  | .tuple, .tup _ => true
  | .dict, .dic _ => true
  | _, _ => false
def bools : List D → Option (List Bool)
  | [] => some []
  | .bl b :: r => (bools r).map (b :: ·)
  | _ :: _ => none
def intsD : List D → Option (List Int)
  | [] => some []
  | .int b :: r => (intsD r).map (b :: ·)
  | _ :: _ => none
def shown (d : D) : Option MV := if d.ok && d.py.showable && decide (d.py.shown.length ≤ line) then some (.dat (.str d.py.shown)) else none
def bi (b : Bi) (as : List MV) : Option MV :=
  match b, as with
  | .len, [a] => match a.fz with
    | .str s => if s.length ≤ line then some (.dat (.int s.length)) else none
    | .lst xs => some (.dat (.int xs.length))
    | .tup xs => some (.dat (.int xs.length))
    | .dic k => some (.dat (.int k.length))
    | _ => none
  | .max2, [a, b] => match a.fz, b.fz with
    | .int m, .int n => some (.dat (.int (if n > m then n else m)))
    | _, _ => none
  | .min2, [a, b] => match a.fz, b.fz with
    | .int m, .int n => some (.dat (.int (if n < m then n else m)))
    | _, _ => none
  | .int1, [a] => match a.fz with
    | .int i => some (.dat (.int i))
    | .bl b => some (.dat (.int (if b then 1 else 0)))
    | _ => none
  | .str1, [a] => match a.fz with
    | .int i => if i.natAbs.log2 < 1920 then some (.dat (.str (toString i : String))) else none
    | .str s => some (.dat (.str s))
    | .bl b => some (.dat (.str (if b then "True" else "False")))
    | .non => some (.dat (.str "None"))
    | .lst xs => shown (.lst xs)
    | .tup xs => shown (.tup xs)
    | _ => none
  | .list1, [a] => match a.seq with
    | some (p, xs) => some (mkL p xs)
    | none => none
  | .tuple1, [a] => match a.seq with
    | some (p, xs) => some (mkT p xs)
    | none => none
  | .all1, [a] => match a.list with
    | some (_, xs) => (bools xs).map fun bs => .dat (.bl (bs.all id))
    | none => none
  | .any1, [a] => match a.list with
    | some (_, xs) => (bools xs).map fun bs => .dat (.bl (bs.any id))
    | none => none
  | .sum1, [a] => match a.list with
    | some (_, xs) => (intsD xs).map fun bs => .dat (.int bs.sum)
    | none => none
  | .abs1, [a] => match a.fz with
    | .int i => some (.dat (.int (if i < 0 then -i else i)))
    | _ => none
  | .isi t, [a] => some (.dat (.bl (isTy t a.fz)))
  | _, _ => none
def firstIx (x : D) : List D → Nat → Option Nat
  | [], _ => none
  | y :: r, k => if eqD y x then some k else firstIx x r (k + 1)
def me (m : Me) (a : MV) (as : List MV) : Option MV :=
  match m, a.fz, as with
  | .split, .str x, [b] => match b.fz with
    | .str y => if y.length != 0 && decide (x.length + 2 ≤ line) && decide ((Txt.split x y).length ≤ line) then some (.lst ((Txt.split x y).map .str)) else none
    | _ => none
  | .isalnum, .str x, [] => some (.dat (.bl (Txt.isalnum x)))
  | .isalpha, .str x, [] => some (.dat (.bl (Txt.isalpha x)))
  | .lower, .str x, [] => if x.length ≤ 5592405 then some (.dat (.str (Txt.lower x))) else none
  | .index, .lst xs, [b] => if (D.lst xs).ok && b.fz.ok then (firstIx b.fz xs 0).map fun k => .dat (.int k) else none
  | _, _, _ => none
def meTyOk : Me → D → Bool
  | .index, .lst _ => true
  | .index, _ => false
  | _, .str _ => true
  | _, _ => false
def mu (m : Mu) (a : MV) (as : List D) : Option (MV × D) :=
  match m, a, as with
  | .append, .lst xs, [d] => if xs.length < line then some (.lst (xs ++ [d]), .non) else none
  | .popAt, .lst xs, [.int i] => match L2.ixN xs.length i with
    | some k => match xs[k]? with
      | some d => some (.lst (xs.eraseIdx k), d)
      | none => none
    | none => none
  | _, _, _ => none
def muOk : Mu → MV → Bool
  | _, .lst _ => true
  | _, _ => false
def setIx (a : MV) (i : D) (d : D) : Option MV :=
  match a with
  | .lst xs => match i with
    | .int i => (L2.ixN xs.length i).map fun k => .lst (xs.set k d)
    | _ => none
  | .dic kvs => i.key.bind fun k => if kvs.length < line then some (.dic (put k d kvs)) else none
  | _ => none
mutual
inductive CE where
  | var (i : Nat)
  | take (i : Nat)
  | con (d : D)
  | glo (g : Nat)
  | bin (o : Bop) (a b : CE)
  | una (o : Uop) (a : CE)
  | cmp (o : Cop) (a b : CE)
  | chn (o p : Cop) (a b c : CE)
  | and (a b : CE)
  | or (a b : CE)
  | ite (c a b : CE)
  | tup (es : CEs)
  | lst (es : CEs)
  | dict0
  | idx (a b : CE)
  | sli (a : CE) (lo hi : CO)
  | call (f : Nat) (es : CAs)
  | callk (f : Nat) (perm : List Nat) (es : CAs)
  | bi (b : Bi) (es : CEs)
  | me (m : Me) (a : CE) (es : CEs)
  | mu (m : Mu) (i : Nat) (es : CEs)
  | lc (own : List Nat) (t : CT) (it : CI) (c : CO) (e : CE)
inductive CEs where | nil | cons (e : CE) (es : CEs)
inductive CAs where | nil | val (e : CE) (es : CAs) | ref (i : Nat) (es : CAs)
inductive CO where | no | so (e : CE)
inductive CI where | over (e : CE) | rng1 (a : CE) | rng2 (a b : CE) | enm (e : CE) | zip (a b : CE)
inductive CT where | nm (i : Nat) | tp (ts : CTs)
inductive CTs where | nil | cons (t : CT) (ts : CTs)
end
inductive CS where
  | asg (fz : Bool) (t : CT) (e : CE)
  | seti (i : Nat) (k e : CE)
  | aug (o : Bop) (i : Nat) (e : CE)
  | exp (e : CE)
  | ret (e : CE)
  | retN
  | ite (c : CE) (a b : List CS)
  | for (t : CT) (it : CI) (b : List CS)
  | while (c : CE) (b : List CS)
  | brk | cnt | pass
mutual
def CE.quiet : CE → Bool
  | .var _ | .con _ | .glo _ | .dict0 => true
  | .take _ | .mu _ _ _ => false
  | .bin _ a b | .cmp _ a b | .and a b | .or a b | .idx a b => a.quiet && b.quiet
  | .una _ a => a.quiet
  | .chn _ _ a b c | .ite a b c => a.quiet && b.quiet && c.quiet
  | .tup es | .lst es | .bi _ es => es.quiet
  | .sli a l h => a.quiet && l.quiet && h.quiet
  | .call _ es | .callk _ _ es => es.quiet
  | .me _ a es => a.quiet && es.quiet
  | .lc _ _ it c e => it.quiet && c.quiet && e.quiet
def CEs.quiet : CEs → Bool
  | .nil => true
  | .cons e es => e.quiet && es.quiet
def CAs.quiet : CAs → Bool
  | .nil => true
  | .val e es => e.quiet && es.quiet
  | .ref _ _ => false
def CO.quiet : CO → Bool
  | .no => true
  | .so e => e.quiet
def CI.quiet : CI → Bool
  | .over e | .rng1 e | .enm e => e.quiet
  | .rng2 a b | .zip a b => a.quiet && b.quiet
end
def MV.rd : MV → Option MV
  | .no => none
  | .lst xs => some (.blst xs)
  | .dic k => some (.bdic k)
  | m => some m
def slot (r : Env) (i : Nat) : MV := r.getD i .no
def MV.here : MV → Bool
  | .no => false
  | _ => true
def MV.data : MV → Option D
  | .dat d => some d
  | .lst xs => some (.lst xs)
  | .dic k => some (.dic k)
  | _ => none
def allData : List MV → Option (List D)
  | [] => some []
  | m :: ms => match m.data, allData ms with
    | some d, some ds => some (d :: ds)
    | _, _ => none
def refsOf : CAs → List Nat
  | .nil => []
  | .val _ es => refsOf es
  | .ref i es => i :: refsOf es
def argsOf (r : Env) : CAs → List MV → Option (List MV)
  | .nil, [] => some []
  | .val _ es, m :: ms => (argsOf r es ms).map (.dat m.fz :: ·)
  | .ref i es, ms => if (slot r i).own then (argsOf r es ms).map (slot r i :: ·) else none
  | _, _ => none
def backIn (r : Env) : CAs → List MV → Env
  | .val _ es, _ :: ms => backIn r es ms
  | .ref i es, m :: ms => backIn (r.set i m) es ms
  | _, _ => r
mutual
def asg (own : Bool) : CT → MV → Env → Option Env
  | .nm i, m, r => match m with
    | .dat d => if i < r.length then some (r.set i (.dat d)) else none
    | .lst xs => if i < r.length then some (r.set i (if own then .lst xs else .dat (.lst xs))) else none
    | .dic k => if i < r.length then some (r.set i (if own then .dic k else .dat (.dic k))) else none
    | _ => none
  | .tp ts, m, r => match m with
    | .dat (.tup ds) => asgs ts ds r
    | _ => none
def asgs : CTs → List D → Env → Option Env
  | .nil, [], r => some r
  | .cons t ts, d :: ds, r => match asg false t (.dat d) r with
    | some r' => asgs ts ds r'
    | none => none
  | _, _, _ => none
end
def wipe (r : Env) : List Nat → Env
  | [] => r
  | i :: is => (wipe r is).set i .no
def unwipe (r0 r : Env) : List Nat → Env
  | [] => r
  | i :: is => (unwipe r0 r is).set i (slot r0 i)
def noOwn (r : Env) : List Nat → Bool
  | [] => true
  | i :: is => !(slot r i).own && noOwn r is
def lcLoop (step : D → Env → R (Option D)) : List D → List D → Env → R (List D)
  | [], acc, r => ret acc r
  | d :: ds, acc, r => R.bind (step d r) fun o r' => lcLoop step ds (acc ++ o.toList) r'
def range (lo : Int) (n : Nat) : List D := (List.range n).map fun (i : Nat) => .int (lo + (i : Int))
def enumD : Nat → List D → List D
  | _, [] => []
  | k, d :: ds => .tup [.int k, d] :: enumD (k + 1) ds
def zipD : List D → List D → List D
  | a :: as, b :: bs => .tup [a, b] :: zipD as bs
  | _, _ => []
abbrev Call := Nat → List MV → Option (Except Exc MV × List MV)
section
variable (call : Call) (glob : Nat → Option D)
def afterCall (t : Bool) (es : CAs) (o : Option (Except Exc MV × List MV)) (r : Env) : R MV :=
  match o with
  | none => none
  | some (.error x, args') => if t && !x.fs.all D.scal then none else some (.error x, backIn r es args')
  | some (.ok m, args') => match t, m with
    | false, m => ret m (backIn r es args')
    | true, .dat d => ret (MV.of false d) (backIn r es args')
    | true, .lst xs => ret (.tmp (.lst xs)) (backIn r es args')
    | true, _ => none
def doCall (f : Nat) (es : CAs) (vals : List MV) (r : Env) : R MV :=
  match argsOf r es vals with
  | none => none
  | some args =>
    if (refsOf es).length != 0 && vals.any MV.temp then none else
    if !((refsOf es).Nodup : Bool) then none else
    afterCall (vals.any MV.temp) es (call f args) r
mutual
def evalE : CE → Env → R MV
  | .var i, r => lift (slot r i).rd r
  | .take i, r => match slot r i with
    | .lst xs => ret (.lst xs) (r.set i .no)
    | .dic k => ret (.dic k) (r.set i .no)
    | _ => none
  | .con d, r => ret (.dat d) r
  | .glo g, r => lift ((glob g).map .dat) r
  | .bin o a b, r => R.bind (evalE a r) fun x r1 => R.bind (evalE b r1) fun y r2 => if x.temp && !b.quiet then none else lift (bin o x y) r2
  | .una o a, r => R.bind (evalE a r) fun x r1 => lift (una o x) r1
  | .cmp o a b, r => R.bind (evalE a r) fun x r1 => R.bind (evalE b r1) fun y r2 => if x.temp && !b.quiet then none else lift ((cmp o x.fz y.fz).map fun k => .dat (.bl k)) r2
  | .chn o p a b c, r => R.bind (evalE a r) fun x r1 => R.bind (evalE b r1) fun y r2 =>
      if x.temp && !b.quiet then none else match cmp o x.fz y.fz with
      | none => none
      | some false => ret (.dat (.bl false)) r2
      | some true => R.bind (evalE c r2) fun z r3 => if y.temp && !c.quiet then none else lift ((cmp p y.fz z.fz).map fun k => .dat (.bl k)) r3
  | .and a b, r => R.bind (evalE a r) fun x r1 => match truth x.fz with
      | none => none
      | some true => evalE b r1
      | some false => ret x r1
  | .or a b, r => R.bind (evalE a r) fun x r1 => match truth x.fz with
      | none => none
      | some true => ret x r1
      | some false => evalE b r1
  | .ite c a b, r => R.bind (evalE c r) fun x r1 => match truth x.fz with
      | none => none
      | some true => evalE a r1
      | some false => evalE b r1
  | .tup es, r => R.bind (evalEs es r) fun ms r1 => if ms.length ≤ line then ret (if ms.any MV.temp then .tmp (.tup (ms.map MV.fz)) else .dat (.tup (ms.map MV.fz))) r1 else none
  | .lst es, r => R.bind (evalEs es r) fun ms r1 => if ms.length ≤ line then ret (if ms.any MV.temp then .tmp (.lst (ms.map MV.fz)) else .lst (ms.map MV.fz)) r1 else none
  | .dict0, r => ret (.dic []) r
  | .idx a b, r => R.bind (evalE a r) fun x r1 => R.bind (evalE b r1) fun y r2 => if x.temp && !b.quiet then none else lift (idx x y) r2
  | .sli a lo hi, r => R.bind (evalE a r) fun x r1 => R.bind (evalO lo r1) fun l r2 => R.bind (evalO hi r2) fun h r3 => if x.temp && !(lo.quiet && hi.quiet) then none else lift (sli x l h) r3
  | .call f es, r => R.bind (evalAs es r) fun vals r1 => doCall call f es vals r1
  | .callk f perm es, r => R.bind (evalAs es r) fun vals r1 => if (refsOf es).length != 0 then none else
      afterCall (vals.any MV.temp) es (call f (perm.map fun i => .dat (vals.getD i .no).fz)) r1
  | .bi b es, r => R.bind (evalEs es r) fun ms r1 => lift (bi b ms) r1
  | .me m a es, r => R.bind (evalE a r) fun x r1 => if !meTyOk m x.fz then none else R.bind (evalEs es r1) fun ms r2 => if x.temp && !es.quiet then none else lift (me m x ms) r2
  | .mu m i es, r => if !muOk m (slot r i) then none else R.bind (evalEs es r) fun ms r1 => match allData ms with
      | none => none
      | some ds => match mu m (slot r1 i) ds with
        | none => none
        | some (m', d) => ret (.dat d) (r1.set i m')
  | .lc own t it c e, r => R.bind (evalI it r) fun ds r1 => if !noOwn r1 own then none else
      match lcLoop (fun d r => match asg false t (.dat d) (wipe r own) with
        | none => none
        | some r' => R.bind (evalC c r') fun k r2 => if k then R.bind (evalE e r2) fun m r3 => match m.data with
            | some d => ret (some d) (unwipe r r3 own)
            | none => none
          else ret none (unwipe r r2 own)) ds [] r1 with
      | some (.ok out, r2) => ret (.lst out) r2
      | _ => none
def evalEs : CEs → Env → R (List MV)
  | .nil, r => ret [] r
  | .cons e es, r => R.bind (evalE e r) fun m r1 => R.bind (evalEs es r1) fun ms r2 => if m.temp && !es.quiet then none else ret (m :: ms) r2
def evalAs : CAs → Env → R (List MV)
  | .nil, r => ret [] r
  | .val e es, r => R.bind (evalE e r) fun m r1 => R.bind (evalAs es r1) fun ms r2 => if m.temp && !es.quiet then none else ret (m :: ms) r2
  | .ref i es, r => if (slot r i).own then evalAs es r else none
def evalO : CO → Env → R (Option Int)
  | .no, r => ret none r
  | .so e, r => R.bind (evalE e r) fun x r1 => match x.fz with
    | .int i => ret (some i) r1
    | _ => none
def evalC : CO → Env → R Bool
  | .no, r => ret true r
  | .so e, r => R.bind (evalE e r) fun x r1 => lift (truth x.fz) r1
def evalI : CI → Env → R (List D)
  | .over e, r => R.bind (evalE e r) fun x r1 => match x with
    | .dat (.lst xs) => ret xs r1
    | .dat (.tup xs) => ret xs r1
    | .lst xs => ret xs r1
    | .dat (.str s) => if s.length ≤ line then ret (s.cps.toList.map fun c => .str ⟨#[c]⟩) r1 else none
    | _ => none
  | .rng1 a, r => R.bind (evalE a r) fun x r1 => match x.fz with
    | .int n => if -line ≤ n && n ≤ line then ret (range 0 n.toNat) r1 else none
    | _ => none
  | .rng2 a b, r => R.bind (evalE a r) fun x r1 => R.bind (evalE b r1) fun y r2 => match x.fz, y.fz with
    | .int m, .int n => if -line ≤ m && m ≤ line && -line ≤ n && n ≤ line && n - m ≤ line then ret (range m (n - m).toNat) r2 else none
    | _, _ => none
  | .enm e, r => R.bind (evalE e r) fun x r1 => match x with
    | .dat (.lst xs) => ret (enumD 0 xs) r1
    | .dat (.tup xs) => ret (enumD 0 xs) r1
    | .lst xs => ret (enumD 0 xs) r1
    | _ => none
  | .zip a b, r => R.bind (evalE a r) fun x r1 => R.bind (evalE b r1) fun y r2 => match x, y with
    | .dat (.lst xs), .dat (.lst ys) => ret (zipD xs ys) r2
    | .dat (.tup xs), .dat (.tup ys) => ret (zipD xs ys) r2
    | _, _ => none
end
inductive Flow where | nx | brk | cnt | ret (m : MV)
def forLoop (body : D → Env → R Flow) : List D → Env → R Flow
  | [], r => ret .nx r
  | d :: ds, r => R.bind (body d r) fun f r' => match f with
    | .nx => forLoop body ds r'
    | .cnt => forLoop body ds r'
    | .brk => ret .nx r'
    | .ret m => ret (.ret m) r'
def whileLoop (test : Env → R Bool) (body : Env → R Flow) : Nat → Env → R Flow
  | 0, _ => none
  | n + 1, r => R.bind (test r) fun b r1 => if b then R.bind (body r1) fun f r2 => match f with
    | .nx => whileLoop test body n r2
    | .cnt => whileLoop test body n r2
    | .brk => ret .nx r2
    | .ret m => ret (.ret m) r2
    else ret .nx r1
variable (wf : Nat)
mutual
def exec : CS → Env → R Flow
  | .asg fz t e, r => R.bind (evalE call glob e r) fun m r1 => match asg (!fz) t m r1 with
    | some r2 => ret .nx r2
    | none => none
  | .seti i k e, r => R.bind (evalE call glob e r) fun m r1 => if !(slot r1 i).own then none else R.bind (evalE call glob k r1) fun j r2 => if !k.quiet then none else match m.data with
    | some d => match setIx (slot r2 i) j.fz d with
      | some m' => ret .nx (r2.set i m')
      | none => none
    | none => none
  | .aug o i e, r => if !(slot r i).here then none else R.bind (evalE call glob e r) fun m r1 => match slot r i, m with
    | .dat a, .dat b => match o, a, b with
      | .add, .int x, .int y => ret .nx (r1.set i (.dat (.int (x + y))))
      | .sub, .int x, .int y => ret .nx (r1.set i (.dat (.int (x - y))))
      | _, _, _ => none
    | _, _ => none
  | .exp e, r => R.bind (evalE call glob e r) fun _ r1 => ret .nx r1
  | .ret e, r => R.bind (evalE call glob e r) fun m r1 => if m.temp then none else ret (.ret m) r1
  | .retN, r => ret (.ret (.dat .non)) r
  | .ite c a b, r => R.bind (evalE call glob c r) fun x r1 => match truth x.fz with
    | none => none
    | some true => execs a r1
    | some false => execs b r1
  | .for t it b, r => R.bind (evalI call glob it r) fun ds r1 => forLoop (fun d r => match asg false t (.dat d) r with
    | none => none
    | some r' => execs b r') ds r1
  | .while c b, r => whileLoop (fun r => R.bind (evalE call glob c r) fun x r1 => lift (truth x.fz) r1) (fun r => execs b r) wf r
  | .brk, r => ret .brk r
  | .cnt, r => ret .cnt r
  | .pass, r => ret .nx r
def execs : List CS → Env → R Flow
  | [], r => ret .nx r
  | s :: ss, r => R.bind (exec s r) fun f r1 => match f with
    | .nx => execs ss r1
    | f => ret f r1
end
end
mutual
def tgts : CT → List Nat
  | .nm i => [i]
  | .tp ts => tgtss ts
def tgtss : CTs → List Nat
  | .nil => []
  | .cons t ts => tgts t ++ tgtss ts
end
mutual
def CS.binds : CS → List Nat
  | .asg _ t _ => tgts t
  | .aug _ i _ => [i]
  | .ite _ a b => bindss a ++ bindss b
  | .for t _ b => tgts t ++ bindss b
  | .while _ b => bindss b
  | _ => []
def bindss : List CS → List Nat
  | [] => []
  | s :: ss => s.binds ++ bindss ss
end
def ownKeep (b : List CS) : List MV → Nat → Bool
  | [], _ => true
  | m :: ms, i => (!m.own || !(bindss b).contains i) && ownKeep b ms (i + 1)
def keepOwn : List MV → Env → List MV
  | m :: ms, n :: r => (if m.own then n else m) :: keepOwn ms r
  | ms, _ => ms
structure Fn where
  np : Nat
  ns : Nat
  body : List CS
def run (fns : Nat → Option Fn) (glob : Nat → Option D) (wf : Nat) : Nat → Call
  | 0, _, _ => none
  | k + 1, f, args => match fns f with
    | none => none
    | some d => if args.length = d.np && ownKeep d.body args 0 then
        match execs (run fns glob wf k) glob wf d.body (args ++ List.replicate (d.ns - d.np) .no) with
        | none => none
        | some (.error x, r) => some (.error x, keepOwn args r)
        | some (.ok .nx, r) => some (.ok (.dat .non), keepOwn args r)
        | some (.ok (.ret m), r) => some (.ok m, keepOwn args r)
        | some (.ok _, _) => none
      else none
end M
set_option Elab.async false
set_option linter.all false
set_option maxRecDepth 100000
set_option maxHeartbeats 1000000
set_option autoImplicit false
namespace M
open PySem PySem.Spec PyProof.Rows L2
def Ex (H H' : Hp) : Prop := ∀ a o, H a = some o → H' a = some o
theorem Ex.refl (H : Hp) : Ex H H := fun _ _ h => h
theorem Ex.trans {H H1 H2 : Hp} (a : Ex H H1) (b : Ex H1 H2) : Ex H H2 := fun x o h => b x o (a x o h)
theorem Ex.new {H : Hp} {p : Addr} {o : HO} (h : H p = none) : Ex H (upd H p o) := fun a u e => by
  rw [upd_ne (ne_of_none e h)]; exact e
theorem Ex.upd2 {F H : Hp} {p : Addr} {o : HO} (e : Ex F H) : Ex (upd F p o) (upd H p o) := fun a u q => by
  by_cases h : a = p
  · subst h; rw [upd_same] at q ⊢; exact q
  · rw [upd_ne h] at q ⊢; exact e a u q
theorem Ex.back {F H : Hp} (e : Ex F H) {a : Addr} (h : H a = none) : F a = none := by
  cases q : F a with
  | none => rfl
  | some o => rw [e a o q] at h; cases h
theorem Ex.right {F H : Hp} {p : Addr} {o : HO} (e : Ex F H) (h : F p = none) : Ex F (upd H p o) := fun a u q => by
  rw [upd_ne (ne_of_none q h)]; exact e a u q
section
variable {K : PySem.W.Frag} {H H' : Hp}
theorem ex_rd {a : Addr} {u : HO} (e : Ex H H') (h : Rd H a u) : Rd H' a u := by
  rcases h with h | ⟨o, h⟩
  · exact .inl (e a _ h)
  · exact .inr ⟨o, e a _ h⟩
theorem ex_l {a : Addr} {xs : List V} (e : Ex H H') (h : SqL K H a xs) : SqL K H' a xs := h.elim (fun h => .inl (ex_rd e h)) .inr
def LsL (K : PySem.W.Frag) (H : Hp) (a : Addr) (xs : List V) : Prop :=
  Rd H a (.lst xs) ∨ ∃ (its : Array Value) (n : Nat), K.lookup a = some { cls := .type "list", data := .seq its n } ∧ its.size ≤ sizeLine ∧ Vals xs its.toList
theorem LsL.sq {a : Addr} {xs : List V} (h : LsL K H a xs) : SqL K H a xs := h.elim .inl fun ⟨its, n, h1, h2, h3⟩ => .inr ⟨_, its, n, h1, rfl, rfl, rfl, h2, h3⟩
theorem ex_ls {a : Addr} {xs : List V} (e : Ex H H') (h : LsL K H a xs) : LsL K H' a xs := h.elim (fun h => .inl (ex_rd e h)) .inr
theorem LsL.at {X : Cx} {pins : List (Addr × Obj)} {σ : L2.St} {s : Shared} {a : Addr} {xs : List V} (I : L2.Inv X pins σ H s) (h : LsL X.K H a xs) :
    ∃ (its : List Value) (n : Nat), Vals xs its ∧ s.heap.get? a = some { cls := .type "list", data := .seq its.toArray n } := by
  rcases h with h | ⟨its, n, h1, h2, h3⟩
  · obtain ⟨z, its, n, r, e⟩ := h.ok I.hok
    exact ⟨its, n, r, e⟩
  · exact ⟨its.toList, n, h3, by simpa using I.kIn a _ h1⟩
theorem ex_t {a : Addr} {xs : List V} (e : Ex H H') (h : SqT K H a xs) : SqT K H' a xs := h.elim (fun h => .inl (ex_rd e h)) .inr
end
mutual
inductive Rep (K : PySem.W.Frag) (H : Hp) : D → V → Prop
  | non : Rep K H .non .non
  | bl (b : Bool) : Rep K H (.bl b) (.bl b)
  | int (i : Int) : Rep K H (.int i) (.int i)
  | str (s : Str) : Rep K H (.str s) (.str s)
  | tup {a : Addr} {vs : List V} {ds : List D} : SqT K H a vs → vs.length ≤ sizeLine → RepAll K H ds vs → Rep K H (.tup ds) (.ref a)
  | lst {a : Addr} {vs : List V} {ds : List D} : LsL K H a vs → vs.length ≤ sizeLine → RepAll K H ds vs → Rep K H (.lst ds) (.ref a)
  | dic {a : Addr} {ks : List (Key × V)} {kvs : List (Key × D)} : H a = some (.dK ks) → RepKV K H kvs ks → Rep K H (.dic kvs) (.ref a)
inductive RepAll (K : PySem.W.Frag) (H : Hp) : List D → List V → Prop
  | nil : RepAll K H [] []
  | cons {d : D} {ds : List D} {v : V} {vs : List V} : Rep K H d v → RepAll K H ds vs → RepAll K H (d :: ds) (v :: vs)
inductive RepKV (K : PySem.W.Frag) (H : Hp) : List (Key × D) → List (Key × V) → Prop
  | nil : RepKV K H [] []
  | cons {k : Key} {d : D} {ds : List (Key × D)} {v : V} {vs : List (Key × V)} : Rep K H d v → RepKV K H ds vs → RepKV K H ((k, d) :: ds) ((k, v) :: vs)
end
section
variable {K : PySem.W.Frag} {H H' : Hp}
mutual
theorem Rep.mono (e : Ex H H') : ∀ {d : D} {v : V}, Rep K H d v → Rep K H' d v
  | _, _, .non => .non
  | _, _, .bl b => .bl b
  | _, _, .int i => .int i
  | _, _, .str s => .str s
  | _, _, .tup h n r => .tup (ex_t e h) n (RepAll.mono e r)
  | _, _, .lst h n r => .lst (ex_ls e h) n (RepAll.mono e r)
  | _, _, .dic h r => .dic (e _ _ h) (RepKV.mono e r)
theorem RepAll.mono (e : Ex H H') : ∀ {ds : List D} {vs : List V}, RepAll K H ds vs → RepAll K H' ds vs
  | _, _, .nil => .nil
  | _, _, .cons h r => .cons (Rep.mono e h) (RepAll.mono e r)
theorem RepKV.mono (e : Ex H H') : ∀ {ds : List (Key × D)} {vs : List (Key × V)}, RepKV K H ds vs → RepKV K H' ds vs
  | _, _, .nil => .nil
  | _, _, .cons h r => .cons (Rep.mono e h) (RepKV.mono e r)
end
theorem RepAll.len : ∀ {ds : List D} {vs : List V}, RepAll K H ds vs → ds.length = vs.length
  | _, _, .nil => rfl
  | _, _, .cons _ r => by simp only [List.length_cons, RepAll.len r]
theorem RepKV.len : ∀ {ds : List (Key × D)} {vs : List (Key × V)}, RepKV K H ds vs → ds.length = vs.length
  | _, _, .nil => rfl
  | _, _, .cons _ r => by simp only [List.length_cons, RepKV.len r]
theorem RepAll.get : ∀ {ds : List D} {vs : List V} {i : Nat} {d : D}, RepAll K H ds vs → ds[i]? = some d → ∃ v, vs[i]? = some v ∧ Rep K H d v
  | _, _, _, _, .nil, e => by simp at e
  | _, _, 0, _, .cons h _, e => by simp at e; subst e; exact ⟨_, rfl, h⟩
  | _, _, i + 1, d, .cons _ r, e => by
    obtain ⟨v, h1, h2⟩ := RepAll.get (i := i) (d := d) r (by simpa using e)
    exact ⟨v, by simpa using h1, h2⟩
theorem RepAll.get' : ∀ {ds : List D} {vs : List V} {i : Nat} {v : V}, RepAll K H ds vs → vs[i]? = some v → ∃ d, ds[i]? = some d ∧ Rep K H d v
  | _, _, _, _, .nil, e => by simp at e
  | _, _, 0, _, .cons h _, e => by simp at e; subst e; exact ⟨_, rfl, h⟩
  | _, _, i + 1, d, .cons _ r, e => by
    obtain ⟨v, h1, h2⟩ := RepAll.get' (i := i) (v := d) r (by simpa using e)
    exact ⟨v, by simpa using h1, h2⟩
theorem RepAll.append : ∀ {ds es : List D} {vs us : List V}, RepAll K H ds vs → RepAll K H es us → RepAll K H (ds ++ es) (vs ++ us)
  | _, _, _, _, .nil, s => s
  | _, _, _, _, .cons h r, s => .cons h (RepAll.append r s)
theorem RepAll.take : ∀ {ds : List D} {vs : List V} (n : Nat), RepAll K H ds vs → RepAll K H (ds.take n) (vs.take n)
  | _, _, 0, _ => .nil
  | _, _, _ + 1, .nil => .nil
  | _, _, n + 1, .cons h r => .cons h (RepAll.take n r)
theorem RepAll.drop : ∀ {ds : List D} {vs : List V} (n : Nat), RepAll K H ds vs → RepAll K H (ds.drop n) (vs.drop n)
  | _, _, 0, r => r
  | _, _, _ + 1, .nil => .nil
  | _, _, n + 1, .cons _ r => RepAll.drop n r
theorem RepAll.set {d : D} {v : V} (h : Rep K H d v) : ∀ {ds : List D} {vs : List V} (i : Nat), RepAll K H ds vs → RepAll K H (ds.set i d) (vs.set i v)
  | _, _, _, .nil => .nil
  | _, _, 0, .cons _ r => .cons h r
  | _, _, i + 1, .cons q r => .cons q (RepAll.set h i r)
theorem RepAll.eraseIdx : ∀ {ds : List D} {vs : List V} (i : Nat), RepAll K H ds vs → RepAll K H (ds.eraseIdx i) (vs.eraseIdx i)
  | _, _, _, .nil => .nil
  | _, _, 0, .cons _ r => r
  | _, _, i + 1, .cons q r => .cons q (RepAll.eraseIdx i r)
theorem RepAll.cut {ds : List D} {vs : List V} (r : RepAll K H ds vs) (lo hi : Option Int) : RepAll K H (cutL ds lo hi) (cutV vs lo hi) := by
  unfold cutL cutV
  rw [r.len]
  exact (r.drop _).take _
mutual
theorem Rep.dp : ∀ {d : D} {v : V}, Rep K H d v → d.py.canLay0 = true → Dp K H v d.py
  | _, _, .non, _ => .non
  | _, _, .bl b, _ => .bl b
  | _, _, .int i, _ => .int i
  | _, _, .str s, _ => .str s
  | _, _, .tup h _ r, e => .tup h (RepAll.dp r (by simpa [D.py, PyData.canLay0] using e))
  | _, _, .lst h _ r, e => .lst h.sq (RepAll.dp r (by simpa [D.py, PyData.canLay0] using e))
  | _, _, .dic _ _, e => by simp [D.py, PyData.canLay0] at e
theorem RepAll.dp : ∀ {ds : List D} {vs : List V}, RepAll K H ds vs → PyData.canLayAll0 (D.pyAll ds) = true → DpAll K H vs (D.pyAll ds)
  | _, _, .nil, _ => .nil
  | _, _, .cons h r, e => by
    simp only [D.pyAll, PyData.canLayAll0, Bool.and_eq_true] at e
    exact .cons (Rep.dp h e.1) (RepAll.dp r e.2)
end
theorem Rep.non_inv {v : V} (h : Rep K H .non v) : v = .non := by cases h; rfl
theorem Rep.bl_inv {v : V} {b : Bool} (h : Rep K H (.bl b) v) : v = .bl b := by cases h; rfl
theorem Rep.int_inv {v : V} {i : Int} (h : Rep K H (.int i) v) : v = .int i := by cases h; rfl
theorem Rep.str_inv {v : V} {s : Str} (h : Rep K H (.str s) v) : v = .str s := by cases h; rfl
theorem Rep.tup_inv {v : V} {ds : List D} (h : Rep K H (.tup ds) v) : ∃ a vs, v = .ref a ∧ SqT K H a vs ∧ vs.length ≤ sizeLine ∧ RepAll K H ds vs := by
  cases h with | tup a b c => exact ⟨_, _, rfl, a, b, c⟩
theorem Rep.lst_inv {v : V} {ds : List D} (h : Rep K H (.lst ds) v) : ∃ a vs, v = .ref a ∧ LsL K H a vs ∧ vs.length ≤ sizeLine ∧ RepAll K H ds vs := by
  cases h with | lst a b c => exact ⟨_, _, rfl, a, b, c⟩
theorem Rep.dic_inv {v : V} {ds : List (Key × D)} (h : Rep K H (.dic ds) v) : ∃ a ks, v = .ref a ∧ H a = some (.dK ks) ∧ RepKV K H ds ks := by
  cases h with | dic a b => exact ⟨_, _, rfl, a, b⟩
theorem Rep.scal {d : D} {v : V} (h : Rep K H d v) (s : d.scal = true) (H2 : Hp) : Rep K H2 d v := by
  cases h with
  | non => exact .non
  | bl b => exact .bl b
  | int i => exact .int i
  | str x => exact .str x
  | tup _ _ _ => cases s
  | lst _ _ _ => cases s
  | dic _ _ => cases s
theorem sl_of {a : Addr} {xs : List V} (h : H a = some (.lst xs)) : LsL K H a xs := .inl (.inl h)
theorem st_of {a : Addr} {xs : List V} (h : H a = some (.tup xs)) : SqT K H a xs := .inl (.inl h)
end
def Own (K : PySem.W.Frag) (F H : Hp) : MV → V → Prop
  | .no, _ => False
  | .dat d, v => Rep K F d v
  | .tmp d, v => Rep K H d v
  | .blst xs, v => ∃ a vs, v = .ref a ∧ H a = some (.lst vs) ∧ vs.length ≤ sizeLine ∧ RepAll K F xs vs
  | .bdic kvs, v => ∃ a ks, v = .ref a ∧ H a = some (.dK ks) ∧ RepKV K F kvs ks
  | .lst xs, v => ∃ a vs, v = .ref a ∧ H a = some (.lst vs) ∧ F a = none ∧ vs.length ≤ sizeLine ∧ RepAll K F xs vs
  | .dic kvs, v => ∃ a ks, v = .ref a ∧ H a = some (.dK ks) ∧ F a = none ∧ RepKV K F kvs ks
def Foot : MV → V → Addr → Prop
  | .lst _, v, a => v = .ref a
  | .dic _, v, a => v = .ref a
  | _, _, _ => False
def Has (r : Env) (σ : L2.St) (a : Addr) : Prop := ∃ (i : Nat) (m : MV) (v : V), r[i]? = some m ∧ σ[i]? = some (some v) ∧ Foot m v a
structure Wd (K : PySem.W.Frag) (F H : Hp) (r : Env) (σ : L2.St) : Prop where
  ex : Ex F H
  len : r.length = σ.length
  nt : ∀ (i : Nat) (m : MV), r[i]? = some m → m.temp = false
  at_ : ∀ (i : Nat) (m : MV), r[i]? = some m → m ≠ .no → ∃ v : V, σ[i]? = some (some v) ∧ Own K F H m v
  sep : ∀ (i j : Nat) (m n : MV) (v w : V) (a : Addr), r[i]? = some m → σ[i]? = some (some v) → Foot m v a → r[j]? = some n → σ[j]? = some (some w) → Foot n w a → i = j
structure Stp (F H : Hp) (P : Addr → Prop) (F' H' : Hp) : Prop where
  ef : Ex F F'
  keep : ∀ a o, ¬ P a → H a = some o → H' a = some o
  there : ∀ a, H a ≠ none → H' a ≠ none
  frz : ∀ a, F' a ≠ none → F a ≠ none ∨ H a = none ∨ P a
theorem Stp.refl {F H : Hp} {P : Addr → Prop} : Stp F H P F H := ⟨Ex.refl F, fun _ _ _ h => h, fun _ h => h, fun _ h => .inl h⟩
theorem Stp.trans {F H F1 H1 F2 H2 : Hp} {P P1 P2 : Addr → Prop} (s : Stp F H P F1 H1) (t : Stp F1 H1 P1 F2 H2) (h0 : ∀ a, P a → P2 a) (h1 : ∀ a, P1 a → P2 a ∨ H a = none) : Stp F H P2 F2 H2 where
  ef := s.ef.trans t.ef
  keep := fun a o np e => t.keep a o (fun q => (h1 a q).elim np fun z => by rw [e] at z; cases z) (s.keep a o (fun q => np (h0 a q)) e)
  there := fun a e => t.there a (s.there a e)
  frz := fun a e => by
    rcases t.frz a e with q | q | q
    · rcases s.frz a q with z | z | z
      · exact .inl z
      · exact .inr (.inl z)
      · exact .inr (.inr (h0 a z))
    · cases z : H a with
      | none => exact .inr (.inl rfl)
      | some o => exact absurd q (s.there a (by rw [z]; exact fun w => nomatch w))
    · rcases h1 a q with z | z
      · exact .inr (.inr z)
      · exact .inr (.inl z)
theorem Stp.mono {F H F1 H1 : Hp} {P Q : Addr → Prop} (s : Stp F H P F1 H1) (h : ∀ a, P a → Q a) : Stp F H Q F1 H1 :=
  ⟨s.ef, fun a o n e => s.keep a o (fun q => n (h a q)) e, s.there, fun a e => (s.frz a e).imp id fun z => z.imp id (h a)⟩
theorem Stp.back {F H F1 H1 : Hp} {P : Addr → Prop} (s : Stp F H P F1 H1) {a : Addr} (h : H1 a = none) : H a = none := by
  cases z : H a with
  | none => rfl
  | some o => exact absurd h (s.there a (by rw [z]; exact fun w => nomatch w))
section
variable {K : PySem.W.Frag} {F H F' H' : Hp}
theorem RepAll.mono2 {ds : List D} {vs : List V} (e : Ex H H') (r : RepAll K H ds vs) : RepAll K H' ds vs := r.mono e
theorem Own.rep {m : MV} {v : V} (e : Ex F H) (h : Own K F H m v) : Rep K H m.fz v := by
  cases m with
  | no => exact h.elim
  | dat d => exact Rep.mono e h
  | tmp d => exact h
  | blst xs => obtain ⟨a, vs, rfl, h1, h2, h3⟩ := h; exact .lst (sl_of h1) h2 (h3.mono e)
  | bdic xs => obtain ⟨a, ks, rfl, h1, h3⟩ := h; exact .dic h1 (h3.mono e)
  | lst xs => obtain ⟨a, vs, rfl, h1, _, h2, h3⟩ := h; exact .lst (sl_of h1) h2 (h3.mono e)
  | dic xs => obtain ⟨a, ks, rfl, h1, _, h3⟩ := h; exact .dic h1 (h3.mono e)
theorem Own.step {m : MV} {v : V} {P : Addr → Prop} (h : Own K F H m v) (s : Stp F H P F' H') (ht : m.temp = true → ∀ a, ¬ P a) (hf : ∀ a, Foot m v a → ¬ P a) : Own K F' H' m v := by
  have eh : (∀ a, ¬ P a) → Ex H H' := fun n a o e => s.keep a o (n a) e
  have nf : ∀ a, ¬ P a → F a = none → H a ≠ none → F' a = none := fun a np q1 q2 => by
    cases z : F' a with
    | none => rfl
    | some o =>
      rcases s.frz a (by rw [z]; exact fun w => nomatch w) with w | w | w
      · exact absurd q1 w
      · exact absurd w q2
      · exact absurd w np
  cases m with
  | no => exact h
  | dat d => exact Rep.mono s.ef h
  | tmp d => exact Rep.mono (eh (ht rfl)) h
  | blst xs => obtain ⟨a, vs, rfl, h1, h2, h3⟩ := h; exact ⟨a, vs, rfl, s.keep a _ (ht rfl a) h1, h2, h3.mono s.ef⟩
  | bdic xs => obtain ⟨a, ks, rfl, h1, h3⟩ := h; exact ⟨a, ks, rfl, s.keep a _ (ht rfl a) h1, h3.mono s.ef⟩
  | lst xs =>
    obtain ⟨a, vs, rfl, h1, h0, h2, h3⟩ := h
    exact ⟨a, vs, rfl, s.keep a _ (hf a rfl) h1, nf a (hf a rfl) h0 (by rw [h1]; exact fun w => nomatch w), h2, h3.mono s.ef⟩
  | dic xs =>
    obtain ⟨a, ks, rfl, h1, h0, h3⟩ := h
    exact ⟨a, ks, rfl, s.keep a _ (hf a rfl) h1, nf a (hf a rfl) h0 (by rw [h1]; exact fun w => nomatch w), h3.mono s.ef⟩
theorem Foot.in {m : MV} {v : V} {a : Addr} (h : Own K F H m v) (f : Foot m v a) : H a ≠ none ∧ F a = none := by
  cases m with
  | lst xs => obtain ⟨b, vs, rfl, h1, h0, _⟩ := h; cases (show V.ref b = .ref a from f); exact ⟨(by rw [h1]; exact fun w => nomatch w), h0⟩
  | dic xs => obtain ⟨b, vs, rfl, h1, h0, _⟩ := h; cases (show V.ref b = .ref a from f); exact ⟨(by rw [h1]; exact fun w => nomatch w), h0⟩
  | _ => exact False.elim f
theorem Wd.has {r : Env} {σ : L2.St} (w : Wd K F H r σ) {a : Addr} (h : Has r σ a) : H a ≠ none ∧ F a = none := by
  obtain ⟨i, m, v, e1, e2, f⟩ := h
  have hn : m ≠ .no := fun z => by subst z; exact f
  obtain ⟨u, e3, o⟩ := w.at_ i m e1 hn
  rw [e2] at e3; cases e3
  exact Foot.in o f
end
structure Mid (K : PySem.W.Frag) (F H : Hp) (r : Env) (σ : L2.St) (q : Bool) (r' : Env) (F' H' : Hp) : Prop where
  wd : Wd K F' H' r' σ
  st : Stp F H (fun a => q = false ∧ Has r σ a) F' H'
  old : ∀ a, Has r' σ a → Has r σ a ∨ H a = none
structure VP (K : PySem.W.Frag) (F H : Hp) (r : Env) (σ : L2.St) (q : Bool) (m : MV) (r' : Env) (v : V) (F' H' : Hp) : Prop where
  mid : Mid K F H r σ q r' F' H'
  own : Own K F' H' m v
  fr : ∀ a, Foot m v a → ((q = false ∧ Has r σ a) ∨ H a = none) ∧ ¬ Has r' σ a
section
variable {K : PySem.W.Frag} {F H F1 H1 F2 H2 : Hp} {r r1 r2 : Env} {σ : L2.St} {q q1 q2 : Bool} {m : MV} {v : V}
theorem Mid.refl (w : Wd K F H r σ) : Mid K F H r σ q r F H := ⟨w, Stp.refl, fun _ h => .inl h⟩
theorem Mid.trans (a : Mid K F H r σ q1 r1 F1 H1) (b : Mid K F1 H1 r1 σ q2 r2 F2 H2) : Mid K F H r σ (q1 && q2) r2 F2 H2 where
  wd := b.wd
  st := a.st.trans b.st (fun x ⟨h1, h2⟩ => ⟨by rw [h1]; rfl, h2⟩) fun x ⟨h1, h2⟩ => (a.old x h2).imp (fun z => ⟨by rw [h1, Bool.and_false], z⟩) id
  old := fun x h => by
    rcases b.old x h with z | z
    · exact a.old x z
    · exact .inr (a.st.back z)
theorem Mid.flag {q' : Bool} (a : Mid K F H r σ q r1 F1 H1) (h : q = false → q' = false) : Mid K F H r σ q' r1 F1 H1 := ⟨a.wd, a.st.mono fun _ ⟨x, y⟩ => ⟨h x, y⟩, a.old⟩
theorem VP.flag {q' : Bool} (a : VP K F H r σ q m r1 v F1 H1) (h : q = false → q' = false) : VP K F H r σ q' m r1 v F1 H1 :=
  ⟨a.mid.flag h, a.own, fun x f => ⟨(a.fr x f).1.imp (fun z => ⟨h z.1, z.2⟩) id, (a.fr x f).2⟩⟩
theorem VP.thru (a : VP K F H r σ q1 m r1 v F1 H1) (b : Mid K F1 H1 r1 σ q2 r2 F2 H2) (ht : (m.temp && !q2) = false) : Own K F2 H2 m v :=
  a.own.step b.st (fun t x ⟨h1, _⟩ => by rw [t, h1] at ht; cases ht) fun x f ⟨_, h2⟩ => (a.fr x f).2 h2
theorem VP.apart (a : VP K F H r σ q1 m r1 v F1 H1) (b : Mid K F1 H1 r1 σ q2 r2 F2 H2) : ∀ x, Foot m v x → ((q1 = false ∧ Has r σ x) ∨ H x = none) ∧ ¬ Has r2 σ x := fun x f => by
  refine ⟨(a.fr x f).1, fun h => ?_⟩
  rcases b.old x h with z | z
  · exact (a.fr x f).2 z
  · exact (Foot.in a.own f).1 z
theorem Mid.val {m2 : MV} {v2 : V} (a : Mid K F H r σ q1 r1 F1 H1) (b : VP K F1 H1 r1 σ q2 m2 r2 v2 F2 H2) : VP K F H r σ (q1 && q2) m2 r2 v2 F2 H2 :=
  ⟨a.trans b.mid, b.own, fun x f => ⟨by
    rcases (b.fr x f).1 with ⟨z1, z2⟩ | z
    · rcases a.old x z2 with w | w
      · exact .inl ⟨by rw [z1, Bool.and_false], w⟩
      · exact .inr w
    · exact .inr (a.st.back z), (b.fr x f).2⟩⟩
theorem Mid.dat {d : D} (a : Mid K F H r σ q r1 F1 H1) (h : Rep K F1 d v) : VP K F H r σ q (.dat d) r1 v F1 H1 := ⟨a, h, fun _ f => f.elim⟩
theorem Mid.tmp {d : D} (a : Mid K F H r σ q r1 F1 H1) (h : Rep K H1 d v) : VP K F H r σ q (.tmp d) r1 v F1 H1 := ⟨a, h, fun _ f => f.elim⟩
theorem Mid.of {p : Bool} {d : D} (a : Mid K F H r σ q r1 F1 H1) (h : Rep K H1 d v) (hp : p = true → Rep K F1 d v) : VP K F H r σ q (MV.of p d) r1 v F1 H1 := by
  unfold MV.of
  cases p with
  | true => exact a.dat (hp rfl)
  | false =>
    cases e : d.scal with
    | true => exact a.dat (h.scal e _)
    | false => exact a.tmp h
theorem Wd.new {p : Addr} {o : HO} (w : Wd K F H r σ) (hp : H p = none) : Wd K F (upd H p o) r σ where
  ex := w.ex.trans (Ex.new hp)
  len := w.len
  nt := w.nt
  at_ := fun i m e n => by
    obtain ⟨v, e2, ow⟩ := w.at_ i m e n
    exact ⟨v, e2, ow.step (P := fun _ => False) ⟨Ex.refl F, fun a o _ h => Ex.new hp a o h, fun a h z => h (by
      by_cases q : a = p
      · subst q; exact hp
      · rw [upd_ne q] at z; exact z), fun _ h => .inl h⟩ (fun _ _ z => z) fun _ _ z => z⟩
  sep := w.sep
theorem Stp.new {p : Addr} {o : HO} {P : Addr → Prop} (hp : H p = none) : Stp F H P F (upd H p o) :=
  ⟨Ex.refl F, fun a u _ h => Ex.new hp a u h, fun a h z => by
    by_cases q : a = p
    · subst q; exact h hp
    · rw [upd_ne q] at z; exact h z, fun _ h => .inl h⟩
theorem Mid.new {p : Addr} {o : HO} (a : Mid K F H r σ q r1 F1 H1) (hp : H1 p = none) : Mid K F H r σ q r1 F1 (upd H1 p o) :=
  ⟨a.wd.new hp, a.st.trans (Stp.new (P := fun _ => False) hp) (fun _ h => h) fun _ h => h.elim, a.old⟩
theorem Mid.notHas {p : Addr} (a : Mid K F H r σ q r1 F1 H1) (hp : H1 p = none) : ¬ Has r1 σ p := fun h => (a.wd.has h).1 hp
theorem Mid.newL {p : Addr} {ds : List D} {vs : List V} (a : Mid K F H r σ q r1 F1 H1) (hp : H1 p = none) (hl : vs.length ≤ sizeLine) (h : RepAll K F1 ds vs) : VP K F H r σ q (.lst ds) r1 (.ref p) F1 (upd H1 p (.lst vs)) :=
  ⟨a.new hp, ⟨p, vs, rfl, upd_same, a.wd.ex.back hp, hl, h⟩, fun x f => by
    cases (show V.ref p = .ref x from f)
    exact ⟨.inr (a.st.back hp), a.notHas hp⟩⟩
theorem Mid.newTmpL {p : Addr} {ds : List D} {vs : List V} (a : Mid K F H r σ q r1 F1 H1) (hp : H1 p = none) (hl : vs.length ≤ sizeLine) (h : RepAll K H1 ds vs) : VP K F H r σ q (.tmp (.lst ds)) r1 (.ref p) F1 (upd H1 p (.lst vs)) :=
  ⟨a.new hp, .lst (sl_of upd_same) hl (h.mono (Ex.new hp)), fun _ f => f.elim⟩
theorem Mid.newTmpT {p : Addr} {ds : List D} {vs : List V} (a : Mid K F H r σ q r1 F1 H1) (hp : H1 p = none) (hl : vs.length ≤ sizeLine) (h : RepAll K H1 ds vs) : VP K F H r σ q (.tmp (.tup ds)) r1 (.ref p) F1 (upd H1 p (.tup vs)) :=
  ⟨a.new hp, .tup (st_of upd_same) hl (h.mono (Ex.new hp)), fun _ f => f.elim⟩
theorem Mid.newDic {p : Addr} (a : Mid K F H r σ q r1 F1 H1) (hp : H1 p = none) : VP K F H r σ q (.dic []) r1 (.ref p) F1 (upd H1 p (.dK [])) :=
  ⟨a.new hp, ⟨p, [], rfl, upd_same, a.wd.ex.back hp, .nil⟩, fun x f => by
    cases (show V.ref p = .ref x from f)
    exact ⟨.inr (a.st.back hp), a.notHas hp⟩⟩
theorem Mid.freeze {F3 : Hp} (a : Mid K F H r σ q r1 F1 H1) (e : Ex F1 F3) (e3 : Ex F3 H1) (hn : ∀ x, F3 x ≠ none → F1 x ≠ none ∨ (((q = false ∧ Has r σ x) ∨ H x = none) ∧ ¬ Has r1 σ x)) : Mid K F H r σ q r1 F3 H1 where
  wd := {
    ex := e3
    len := a.wd.len
    nt := a.wd.nt
    at_ := fun i m e1 n => by
      obtain ⟨v, e2, ow⟩ := a.wd.at_ i m e1 n
      exact ⟨v, e2, ow.step (P := fun x => F3 x ≠ none ∧ F1 x = none) ⟨e, fun x o _ h => h, fun _ h => h, fun x h => by
        cases z : F1 x with
        | none => exact .inr (.inr ⟨h, rfl⟩)
        | some o => exact .inl (fun w => nomatch w)⟩ (fun t => by rw [a.wd.nt i m e1] at t; cases t) fun x f ⟨z1, z2⟩ => (hn x z1).elim (fun w => w z2) fun w => w.2 ⟨i, m, v, e1, e2, f⟩⟩
    sep := a.wd.sep }
  st := ⟨a.st.ef.trans e, a.st.keep, a.st.there, fun x h => by
    rcases hn x h with z | ⟨z, _⟩
    · exact a.st.frz x z
    · exact z.elim (fun w => .inr (.inr w)) fun w => .inr (.inl w)⟩
  old := a.old
end
end M
set_option Elab.async false
set_option linter.all false
set_option maxRecDepth 100000
set_option maxHeartbeats 1000000
set_option autoImplicit false
namespace M
open PySem PySem.Spec PyProof.Rows L2
section
variable {X : Cx}
def UE (X : Cx) (e : Expr) : TE := fun σ H Q => ∃ t, PE X e t ∧ t σ H Q
theorem pe_U {e : Expr} : PE X e (UE X e) := ⟨fun pins s σ H Q I ⟨t, h, q⟩ => h.run pins s σ H Q I q⟩
def UT (X : Cx) (e : Expr) : TT := fun σ H Q => ∃ t, PT X e t ∧ t σ H Q
theorem pt_U {e : Expr} : PT X e (UT X e) := ⟨fun pins s σ H Q I ⟨t, h, q⟩ => h.run pins s σ H Q I q⟩
def UW (X : Cx) (e : Expr) : TT := fun σ H Q => ∃ t, PW X e t ∧ t σ H Q
theorem pw_U {e : Expr} : PW X e (UW X e) := ⟨fun wh pins s σ H Q I ⟨t, h, q⟩ => h.run wh pins s σ H Q I q⟩
def UA (X : Cx) (es : List Expr) : TA := fun σ H Q => ∃ t, PA X es t ∧ t σ H Q
theorem pa_U {es : List Expr} : PA X es (UA X es) := ⟨fun pos pins s σ H Q I ⟨t, h, q⟩ => h.run pos pins s σ H Q I q⟩
def US (X : Cx) (st : Stmt) : TS := fun D σ H => ∃ t, PS X st t ∧ t D σ H
theorem ps_U {st : Stmt} : PS X st (US X st) := ⟨fun pins s σ H D I ⟨t, h, q⟩ => h.run pins s σ H D I q⟩
def USs (X : Cx) (st : List Stmt) : TS := fun D σ H => ∃ t, PSs X st t ∧ t D σ H
theorem pss_U {st : List Stmt} : PSs X st (USs X st) := ⟨fun pins s σ H D I ⟨t, h, q⟩ => h.run pins s σ H D I q⟩
def UG (X : Cx) (e : Expr) : TG := fun v σ H Q => ∃ t, PG X e t ∧ t v σ H Q
theorem pg_U {e : Expr} : PG X e (UG X e) := ⟨fun pins s σ H v u Q I r ⟨t, h, q⟩ => h.run pins s σ H v u Q I r q⟩
def UGs (X : Cx) (es : List Expr) : TGs := fun v σ H Q => ∃ t, PGs X es t ∧ t v σ H Q
theorem pgs_U {es : List Expr} : PGs X es (UGs X es) := ⟨fun pins s σ H v u Q I r ⟨t, h, q⟩ => h.run pins s σ H v u Q I r q⟩
def UI (X : Cx) (tg e : Expr) : TI := fun σ H R => ∃ t, PI X tg e t ∧ t σ H R
theorem pi_U {tg e : Expr} : PI X tg e (UI X tg e) := ⟨fun pins s σ H R I ⟨t, h, q⟩ => h.run pins s σ H R I q⟩
def UO (X : Cx) (e : Option Expr) : TO := fun σ H Q => ∃ t, PO X e t ∧ t σ H Q
theorem po_U {e : Option Expr} : PO X e (UO X e) := ⟨fun pins s σ H Q I ⟨t, h, q⟩ => h.run pins s σ H Q I q⟩
def UTs (X : Cx) (es : List Expr) : TT := fun σ H Q => ∃ t, PTs X es t ∧ t σ H Q
theorem pts_U {es : List Expr} : PTs X es (UTs X es) := ⟨fun pins s σ H Q I ⟨t, h, q⟩ => h.run pins s σ H Q I q⟩
def UOp (X : Cx) (f : Value → Value → Sem Value) : R2 := fun x y H Q => ∃ r, OpR X f r ∧ r x y H Q
theorem op_U {f : Value → Value → Sem Value} : OpR X f (UOp X f) := fun pins s σ H x y v u Q I rx ry ⟨r, h, q⟩ => h pins s σ H x y v u Q I rx ry q
def UUn (X : Cx) (f : Value → Sem Value) : V → Hp → VK → Prop := fun x H Q => ∃ r, UnR X f r ∧ r x H Q
theorem un_U {f : Value → Sem Value} : UnR X f (UUn X f) := fun pins s σ H x v Q I rx ⟨r, h, q⟩ => h pins s σ H x v Q I rx q
def UCall (X : Cx) (f : Value) : List V → Hp → VK → Prop := fun xs H Q => ∃ r, CallR X f r ∧ r xs H Q
theorem call_U {f : Value} : CallR X f (UCall X f) := fun pins s σ H xs us Q I rx ⟨r, h, q⟩ => h pins s σ H xs us Q I rx q
def UIx (X : Cx) : R2 := fun x y H Q => ∃ r, IxR X r ∧ r x y H Q
theorem ix_U : IxR X (UIx X) := fun value slice pins s σ H x y v u Q I rx ry ⟨r, h, q⟩ hs => h value slice pins s σ H x y v u Q I rx ry q hs
def USl (X : Cx) : V → Option Int → Option Int → Hp → VK → Prop := fun x lo hi H Q => ∃ r, SlR X r ∧ r x lo hi H Q
theorem sl_U : SlR X (USl X) := fun pins s σ H x v vl vu lo hi sl Q I rx hs pl pu ⟨r, h, q⟩ => h pins s σ H x v vl vu lo hi sl Q I rx hs pl pu q
end
section
variable {X : Cx} {F H : Hp} {r : Env} {σ : L2.St} {q : Bool} {r2 : Env} {F2 H2 : Hp} {a b m : MV} {x y : V} {Q : VK} {K : PySem.W.Frag}
abbrev Ends1 (K : PySem.W.Frag) (F H : Hp) (r : Env) (σ : L2.St) (q : Bool) (m : MV) (r2 : Env) (Q : VK) : Prop := ∀ v F' H', VP K F H r σ q m r2 v F' H' → Q v H'
theorem list_of {p : Bool} {xs : List D} (e : a.list = some (p, xs)) (o : Own K F2 H2 a x) (ex : Ex F2 H2) : ∃ (l : Addr) (vs : List V), x = .ref l ∧ LsL K H2 l vs ∧ vs.length ≤ sizeLine ∧ RepAll K H2 xs vs ∧ (p = true → RepAll K F2 xs vs) := by
  cases a with
  | no => cases e
  | dat d =>
    cases d <;> simp only [MV.list, Option.some.injEq, Prod.mk.injEq, reduceCtorEq] at e
    obtain ⟨rfl, rfl⟩ := e
    obtain ⟨l, vs, rfl, h1, h2, h3⟩ := (show Rep K F2 _ _ from o).lst_inv
    exact ⟨l, vs, rfl, ex_ls ex h1, h2, h3.mono ex, fun _ => h3⟩
  | tmp d =>
    cases d <;> simp only [MV.list, Option.some.injEq, Prod.mk.injEq, reduceCtorEq] at e
    obtain ⟨rfl, rfl⟩ := e
    obtain ⟨l, vs, rfl, h1, h2, h3⟩ := (show Rep K H2 _ _ from o).lst_inv
    exact ⟨l, vs, rfl, h1, h2, h3, fun z => nomatch z⟩
  | blst ds =>
    simp only [MV.list, Option.some.injEq, Prod.mk.injEq] at e
    obtain ⟨rfl, rfl⟩ := e
    obtain ⟨l, vs, rfl, h1, h2, h3⟩ := o
    exact ⟨l, vs, rfl, sl_of h1, h2, h3.mono ex, fun _ => h3⟩
  | bdic ds => cases e
  | lst ds =>
    simp only [MV.list, Option.some.injEq, Prod.mk.injEq] at e
    obtain ⟨rfl, rfl⟩ := e
    obtain ⟨l, vs, rfl, h1, _, h2, h3⟩ := o
    exact ⟨l, vs, rfl, sl_of h1, h2, h3.mono ex, fun _ => h3⟩
  | dic ds => cases e
theorem tup_of {p : Bool} {xs : List D} (e : a.tup = some (p, xs)) (o : Own K F2 H2 a x) (ex : Ex F2 H2) : ∃ (l : Addr) (vs : List V), x = .ref l ∧ SqT K H2 l vs ∧ vs.length ≤ sizeLine ∧ RepAll K H2 xs vs ∧ (p = true → RepAll K F2 xs vs ∧ SqT K F2 l vs) := by
  cases a with
  | no => cases e
  | dat d =>
    cases d <;> simp only [MV.tup, Option.some.injEq, Prod.mk.injEq, reduceCtorEq] at e
    obtain ⟨rfl, rfl⟩ := e
    obtain ⟨l, vs, rfl, h1, h2, h3⟩ := (show Rep K F2 _ _ from o).tup_inv
    exact ⟨l, vs, rfl, ex_t ex h1, h2, h3.mono ex, fun _ => ⟨h3, h1⟩⟩
  | tmp d =>
    cases d <;> simp only [MV.tup, Option.some.injEq, Prod.mk.injEq, reduceCtorEq] at e
    obtain ⟨rfl, rfl⟩ := e
    obtain ⟨l, vs, rfl, h1, h2, h3⟩ := (show Rep K H2 _ _ from o).tup_inv
    exact ⟨l, vs, rfl, h1, h2, h3, fun z => nomatch z⟩
  | _ => cases e
theorem seq_of {p : Bool} {xs : List D} (e : a.seq = some (p, xs)) (o : Own K F2 H2 a x) (ex : Ex F2 H2) : ∃ (l : Addr) (vs : List V), x = .ref l ∧ (LsL K H2 l vs ∨ SqT K H2 l vs) ∧ vs.length ≤ sizeLine ∧ RepAll K H2 xs vs ∧ (p = true → RepAll K F2 xs vs) := by
  cases h : a.list with
  | some pxs =>
    obtain ⟨p', xs'⟩ := pxs
    have z : (p', xs') = (p, xs) := by
      cases a with
      | dat d => cases d <;> simp_all [MV.list, MV.seq]
      | tmp d => cases d <;> simp_all [MV.list, MV.seq]
      | _ => simp_all [MV.list, MV.seq]
    cases z
    obtain ⟨l, vs, h1, h2, h3, h4, h5⟩ := list_of h o ex
    exact ⟨l, vs, h1, .inl h2, h3, h4, h5⟩
  | none =>
    have z : a.tup = some (p, xs) := by
      cases a with
      | dat d => cases d <;> simp_all [MV.list, MV.seq, MV.tup]
      | tmp d => cases d <;> simp_all [MV.list, MV.seq, MV.tup]
      | _ => simp_all [MV.list, MV.seq]
    obtain ⟨l, vs, h1, h2, h3, h4, h5⟩ := tup_of z o ex
    exact ⟨l, vs, h1, .inr h2, h3, h4, fun w => (h5 w).1⟩
theorem line_eq : (line : Nat) = sizeLine := sizeLine_eq.symm
theorem fin_mkL {p : Bool} {xs : List D} {vs : List V} {l : Addr} (M2 : Mid K F H r σ q r2 F2 H2) (hl : H2 l = none) (hz : vs.length ≤ sizeLine) (h1 : RepAll K H2 xs vs) (h2 : p = true → RepAll K F2 xs vs) (hQ : Ends1 K F H r σ q (mkL p xs) r2 Q) : Q (.ref l) (upd H2 l (.lst vs)) := by
  cases p with
  | true => exact hQ _ _ _ (M2.newL hl hz (h2 rfl))
  | false => exact hQ _ _ _ (M2.newTmpL hl hz h1)
theorem Mid.newT {p : Addr} {ds : List D} {vs : List V} (a : Mid K F H r σ q r2 F2 H2) (hp : H2 p = none) (hl : vs.length ≤ sizeLine) (h : RepAll K F2 ds vs) : VP K F H r σ q (.dat (.tup ds)) r2 (.ref p) (upd F2 p (.tup vs)) (upd H2 p (.tup vs)) := by
  have M3 : Mid K F H r σ q r2 F2 (upd H2 p (.tup vs)) := a.new hp
  refine (M3.freeze (F3 := upd F2 p (.tup vs)) (Ex.new (a.wd.ex.back hp)) (Ex.upd2 a.wd.ex) fun x hx => ?_).dat (.tup (st_of upd_same) hl (h.mono (Ex.new (a.wd.ex.back hp))))
  by_cases e : x = p
  · subst e; exact .inr ⟨.inr (a.st.back hp), a.notHas hp⟩
  · rw [upd_ne e] at hx; exact .inl hx
theorem fin_mkT {p : Bool} {xs : List D} {vs : List V} {l : Addr} (M2 : Mid K F H r σ q r2 F2 H2) (hl : H2 l = none) (hz : vs.length ≤ sizeLine) (h1 : RepAll K H2 xs vs) (h2 : p = true → RepAll K F2 xs vs) (hQ : Ends1 K F H r σ q (mkT p xs) r2 Q) : Q (.ref l) (upd H2 l (.tup vs)) := by
  cases p with
  | true => exact hQ _ _ _ (M2.newT hl hz (h2 rfl))
  | false => exact hQ _ _ _ (M2.newTmpT hl hz h1)
theorem fin_sameT {p : Bool} {xs : List D} {vs : List V} {l : Addr} (M2 : Mid K F H r σ q r2 F2 H2) (h0 : SqT K H2 l vs) (hz : vs.length ≤ sizeLine) (h1 : RepAll K H2 xs vs) (h2 : p = true → RepAll K F2 xs vs ∧ SqT K F2 l vs) (hQ : Ends1 K F H r σ q (mkT p xs) r2 Q) : Q (.ref l) H2 := by
  cases p with
  | true => exact hQ _ _ _ (M2.dat (.tup (h2 rfl).2 hz (h2 rfl).1))
  | false => exact hQ _ _ _ (M2.tmp (.tup h0 hz h1))
def rCatL (K : PySem.W.Frag) : R2 := fun x y H Q => ∃ l b xs zs, x = .ref l ∧ y = .ref b ∧ LsL K H l xs ∧ LsL K H b zs ∧ xs.length + zs.length ≤ sizeLine ∧ ∀ p, H p = none → Q (.ref p) (upd H p (.lst (xs ++ zs)))
theorem op_catL : OpR X (binaryOp .Add) (rCatL X.K) := by
  intro pins s σ H x y v u Q I rx ry h
  obtain ⟨l, b, xs, zs, rfl, rfl, hH, hB, hz, k⟩ := h
  cases rx
  cases ry
  obtain ⟨its, n1, r1, e1⟩ := LsL.at I hH
  obtain ⟨its2, n2, r2, e2⟩ := LsL.at I hB
  have hl1 := r1.length
  have hl2 := r2.length
  refine PySem.P.add_list e1 e2 ?_ (by rw [List.size_toArray, List.size_toArray]; omega)
  have ea : its.toArray ++ its2.toArray = (its ++ its2).toArray := by simp
  rw [ea]
  exact ⟨.ref _, _, I.lnew (t' := s.toks) (r1.append r2) (by rw [List.length_append]; omega), rfl, k _ I.fresh⟩
theorem int_of (M2 : Mid K F H r σ q r2 F2 H2) {i : Int} (e : a.fz = .int i) (o : Own K F2 H2 a x) : x = .int i := by
  have h := o.rep M2.wd.ex
  rw [e] at h
  exact h.int_inv
theorem str_of (M2 : Mid K F H r σ q r2 F2 H2) {i : Str} (e : a.fz = .str i) (o : Own K F2 H2 a x) : x = .str i := by
  have h := o.rep M2.wd.ex
  rw [e] at h
  exact h.str_inv
def opOf : Bop → Operator
  | .add => .Add | .sub => .Sub | .mul => .Mult | .fdiv => .FloorDiv | .mod => .Mod | .pow => .Pow
def rPowW : R2 := rI (fun i j => 0 ≤ j ∧ (Builtin.Int.intBits i : Int) * j ≤ 2 ^ 27) fun i j => .int (i ^ j.toNat)
theorem op_powW : OpR X (binaryOp .Pow) rPowW := opI fun _ _ _ _ _ _ _ hc k => pow_int hc.1 hc.2 k
theorem addL_ok (M2 : Mid X.K F H r σ q r2 F2 H2) (oa : Own X.K F2 H2 a x) (ob : Own X.K F2 H2 b y) (e : addL a b = some m) (hQ : Ends1 X.K F H r σ q m r2 Q) : UOp X (binaryOp .Add) x y H2 Q := by
  unfold addL at e
  split at e
  · rename_i p xs p' ys h1 h2
    split at e
    · rename_i hz
      cases e
      obtain ⟨l, vs, rfl, s1, z1, a1, b1⟩ := list_of h1 oa M2.wd.ex
      obtain ⟨l', vs', rfl, s2, z2, a2, b2⟩ := list_of h2 ob M2.wd.ex
      have n1 := a1.len
      have n2 := a2.len
      have hl := line_eq
      refine ⟨_, op_catL, l, l', vs, vs', rfl, rfl, s1, s2, by omega, fun p hp => ?_⟩
      exact fin_mkL M2 hp (by rw [List.length_append]; omega) (a1.append a2) (fun w => by
        rw [Bool.and_eq_true] at w
        exact (b1 w.1).append (b2 w.2)) hQ
    · cases e
  · split at e
    · rename_i p xs p' ys h1 h2
      split at e
      · rename_i hz
        cases e
        obtain ⟨l, vs, rfl, s1, z1, a1, b1⟩ := tup_of h1 oa M2.wd.ex
        obtain ⟨l', vs', rfl, s2, z2, a2, b2⟩ := tup_of h2 ob M2.wd.ex
        have n1 := a1.len
        have n2 := a2.len
        have hl := line_eq
        have hQ' : Ends1 X.K F H r σ q (mkT (p && p') (xs ++ ys)) r2 Q := hQ
        have nx : vs = [] → xs = [] := fun w => by subst w; exact List.length_eq_zero_iff.mp n1
        have ny : vs' = [] → ys = [] := fun w => by subst w; exact List.length_eq_zero_iff.mp n2
        refine ⟨_, op_catA, l, l', vs, vs', rfl, rfl, s1, s2, by omega, fun w => ?_, fun w w' => ?_, fun w w' pp hp => ?_⟩
        · have ex := nx w
          subst ex
          cases p' with
          | false =>
            rw [Bool.and_false] at hQ'
            exact fin_sameT (p := false) M2 s2 z2 a2 (fun z => Bool.noConfusion z) hQ'
          | true =>
            cases p with
            | true => exact fin_sameT (p := true) M2 s2 z2 a2 b2 hQ'
            | false => exact hQ' _ _ _ (M2.tmp (.tup s2 z2 a2))
        · have ey := ny w'
          subst ey
          rw [List.append_nil] at hQ'
          cases p with
          | false => exact fin_sameT (p := false) M2 s1 z1 a1 (fun z => Bool.noConfusion z) hQ'
          | true =>
            cases p' with
            | true => exact fin_sameT (p := true) M2 s1 z1 a1 b1 hQ'
            | false => exact hQ' _ _ _ (M2.tmp (.tup s1 z1 a1))
        · exact fin_mkT M2 hp (by rw [List.length_append]; omega) (a1.append a2) (fun w => by
            rw [Bool.and_eq_true] at w
            exact (b1 w.1).1.append (b2 w.2).1) hQ'
      · cases e
    · cases e
theorem bin_ok (o : Bop) (M2 : Mid X.K F H r σ q r2 F2 H2) (oa : Own X.K F2 H2 a x) (ob : Own X.K F2 H2 b y) (e : bin o a b = some m) (hQ : Ends1 X.K F H r σ q m r2 Q) : UOp X (binaryOp (opOf o)) x y H2 Q := by
  unfold bin at e
  split at e
  · rename_i i j h1 h2
    cases e; cases int_of M2 h1 oa; cases int_of M2 h2 ob
    exact ⟨_, op_add, i, j, rfl, rfl, hQ _ _ _ (M2.dat (.int _))⟩
  · rename_i i j h1 h2
    cases e; cases int_of M2 h1 oa; cases int_of M2 h2 ob
    exact ⟨_, op_sub, i, j, rfl, rfl, hQ _ _ _ (M2.dat (.int _))⟩
  · rename_i i j h1 h2
    split at e
    · rename_i hk
      cases e; cases int_of M2 h1 oa; cases int_of M2 h2 ob
      unfold mulOk at hk
      simp only [Bool.or_eq_true, decide_eq_true_eq] at hk
      rcases hk with (hk | hk) | hk
      · exact ⟨_, op_mul, i, j, rfl, rfl, .inl ⟨by omega, by omega⟩, hQ _ _ _ (M2.dat (.int _))⟩
      · exact ⟨_, op_mul, i, j, rfl, rfl, .inr ⟨by omega, by omega⟩, hQ _ _ _ (M2.dat (.int _))⟩
      · exact ⟨_, op_mulW, i, j, rfl, rfl, hk, hQ _ _ _ (M2.dat (.int _))⟩
    · cases e
  · rename_i i j h1 h2
    split at e
    · rename_i hk
      cases e; cases int_of M2 h1 oa; cases int_of M2 h2 ob
      unfold divOk at hk
      simp only [Bool.and_eq_true, decide_eq_true_eq] at hk
      exact ⟨_, op_fdivW, i, j, rfl, rfl, hk, hQ _ _ _ (M2.dat (.int _))⟩
    · cases e
  · rename_i i j h1 h2
    split at e
    · rename_i hk
      cases e; cases int_of M2 h1 oa; cases int_of M2 h2 ob
      exact ⟨_, op_mod, i, j, rfl, rfl, hk, hQ _ _ _ (M2.dat (.int _))⟩
    · cases e
  · rename_i i j h1 h2
    split at e
    · rename_i hk
      cases e; cases int_of M2 h1 oa; cases int_of M2 h2 ob
      unfold powOk at hk
      simp only [Bool.and_eq_true, decide_eq_true_eq] at hk
      exact ⟨_, op_powW, i, j, rfl, rfl, hk, hQ _ _ _ (M2.dat (.int _))⟩
    · cases e
  · rename_i i j h1 h2
    split at e
    · rename_i hk
      cases e; cases str_of M2 h1 oa; cases str_of M2 h2 ob
      exact ⟨_, op_add_str, i, j, rfl, rfl, by rw [← line_eq]; exact hk, hQ _ _ _ (M2.dat (.str _))⟩
    · cases e
  · exact addL_ok M2 oa ob e hQ
  · exact addL_ok M2 oa ob e hQ
  · cases e
theorem truth_ok {d : D} {k : Bool} (h : Rep X.K H2 d x) (e : truth d = some k) : TruV X.K x H2 k := by
  cases h with
  | non => cases e; exact rfl
  | bl b => cases e; exact rfl
  | int i => cases e; exact rfl
  | str s =>
    unfold truth at e
    simp only at e
    split at e
    · rename_i hk
      cases e
      refine ⟨by rw [← line_eq]; exact hk, ?_⟩
      cases hs : s.length with
      | zero => rfl
      | succ n =>
        rw [Bool.eq_iff_iff]
        simp
        omega
    · cases e
  | tup h1 h2 h3 =>
    cases e
    refine .inr (.inl ⟨_, h1, ?_⟩)
    cases h3 <;> rfl
  | lst h1 h2 h3 =>
    cases e
    refine .inl ⟨_, h1.sq, ?_⟩
    cases h3 <;> rfl
  | dic h1 h2 =>
    cases e
    refine .inr (.inr ⟨_, h1, ?_⟩)
    cases h2 <;> rfl
def cmpOf : Cop → CmpOp
  | .eq => .Eq | .ne => .NotEq | .lt => .Lt | .le => .LtE | .gt => .Gt | .ge => .GtE | .isin => .In | .notin => .NotIn | .is => .Is | .isnot => .IsNot
theorem look_ok {ks : List (Key × V)} {kvs : List (Key × D)} (h : RepKV K H kvs ks) (k : Key) : (look k kvs = none ∧ valV ks k = none) ∨ ∃ d v, look k kvs = some d ∧ valV ks k = some v ∧ Rep K H d v := by
  induction kvs generalizing ks with
  | nil => cases h; exact .inl ⟨rfl, rfl⟩
  | cons p t ih =>
    cases h with
    | cons h1 h2 =>
      rename_i k' d v vs
      by_cases e : k' = k
      · right
        refine ⟨d, v, ?_, valV_pos e, h1⟩
        simp [look, List.find?_cons, e]
      · rw [valV_neg (p := (k', v)) e]
        have z : look k ((k', d) :: t) = look k t := by simp [look, List.find?_cons, e]
        rw [z]
        exact ih h2
theorem key_ok {d : D} {k : Key} (e : d.key = some k) (h : Rep K H d x) : x = kV k := by
  cases h <;> cases e <;> rfl
theorem eqD_lst (d : D) (ds : List D) : (D.pyAll ds).any (fun w => PyData.eqv w d.py) = ds.any fun z => eqD z d := by
  induction ds with
  | nil => rfl
  | cons c t ih => simp only [D.pyAll, List.any_cons, ih]; rfl
theorem eqV_scal {d e : D} {v w : V} (h : Rep K H d v) (g : Rep K H e w) (hd : d.scal = true) (he : e.scal = true) : eqV v w = eqD d e := by
  cases h <;> first | cases hd | skip
  all_goals (cases g <;> first | (cases he; done) | simp [eqD, D.py, eqV, PyData.eqv])
theorem flat_scal {d : D} {v : V} (h : Rep K H d v) (hd : d.scal = true) : flatV v = true := by
  cases h <;> first | rfl | cases hd
theorem all_flat {ds : List D} {vs : List V} (h : RepAll K H ds vs) (hd : ds.all D.scal = true) : vs.all flatV = true := by
  induction ds generalizing vs with
  | nil => cases h; rfl
  | cons d t ih =>
    cases h with
    | cons h1 h2 =>
      simp only [List.all_cons, Bool.and_eq_true] at hd ⊢
      exact ⟨flat_scal h1 hd.1, ih h2 hd.2⟩
theorem any_flat {ds : List D} {vs : List V} {d : D} {v : V} (h : RepAll K H ds vs) (hd : ds.all D.scal = true) (g : Rep K H d v) (he : d.scal = true) : inV v vs = ds.any fun z => eqD z d := by
  unfold inV
  induction ds generalizing vs with
  | nil => cases h; rfl
  | cons c t ih =>
    cases h with
    | cons h1 h2 =>
      simp only [List.all_cons, Bool.and_eq_true] at hd
      simp only [List.any_cons, ih h2 hd.2, eqV_scal h1 g hd.1 he]
theorem ok_lay {d : D} (h : d.ok = true) : d.py.canLay0 = true := SeqAt.canLay_of_shaped h
theorem one_sign {t : Str} {c : Nat} (h : t.cps.toList = [c]) : t = ⟨#[c]⟩ := by
  obtain ⟨⟨l⟩⟩ := t
  have e : l = [c] := h
  rw [e]
theorem isIn_ok {d e : D} {k : Bool} {neg : Bool} (hu : X.A.units + 65 < cLine) (ra : Rep X.K H2 d x) (rb : Rep X.K H2 e y) (h : isIn d e = some k) (hQ : Q (.bl (if neg then !k else k)) H2) : UOp X (compareOp (if neg then .NotIn else .In)) x y H2 Q := by
  unfold isIn at h
  split at h
  · rename_i ys
    split at h
    · rename_i hk
      rw [Bool.and_eq_true] at hk
      cases h
      have h1 := ra.dp (ok_lay hk.1)
      have h2 := rb.dp (ok_lay hk.2)
      rw [← eqD_lst] at hQ
      cases neg with
      | false => exact ⟨_, op_inD hu, d.py, D.pyAll ys, h1, h2, hk.1, hk.2, hQ⟩
      | true => exact ⟨_, op_notInD hu, d.py, D.pyAll ys, h1, h2, hk.1, hk.2, hQ⟩
    · cases h
  · rename_i ys
    split at h
    · rename_i hk
      rw [Bool.and_eq_true] at hk
      cases h
      obtain ⟨a, vs, rfl, s1, _, s3⟩ := rb.tup_inv
      rw [← any_flat s3 hk.2 ra hk.1] at hQ
      cases neg with
      | false => exact ⟨_, op_in_seq, a, vs, rfl, .inr s1, flat_scal ra hk.1, all_flat s3 hk.2, hQ⟩
      | true => exact ⟨_, op_notIn_seq, a, vs, rfl, .inr s1, flat_scal ra hk.1, all_flat s3 hk.2, hQ⟩
    · cases h
  · rename_i kvs
    cases hk : d.key with
    | none => rw [hk] at h; cases h
    | some kk =>
      rw [hk] at h
      cases h
      obtain ⟨a, ks, rfl, s1, s2⟩ := rb.dic_inv
      have hx := key_ok hk ra
      subst hx
      have z : (look kk kvs).isSome = (valV ks kk).isSome := by
        rcases look_ok s2 kk with ⟨z1, z2⟩ | ⟨_, _, z1, z2, _⟩ <;> rw [z1, z2] <;> rfl
      have hQ : Q (.bl (if neg then !(look kk kvs).isSome else (look kk kvs).isSome)) H2 := hQ
      rw [z] at hQ
      cases neg with
      | false =>
        refine ⟨fun u v H Q => ∃ a o, v = .ref a ∧ DGet H a u o ∧ Q (.bl o.isSome) H, ?_, a, _, rfl, DGet.k s1, hQ⟩
        intro pins s σ H x y v u Q I rx ry ⟨a, o, ey, g, k⟩
        subst ey
        cases ry
        exact d_in (by omega) I g rx fun s' I' => ⟨.bl o.isSome, H, I', rfl, k⟩
      | true =>
        refine ⟨fun u v H Q => ∃ a o, v = .ref a ∧ DGet H a u o ∧ Q (.bl (!o.isSome)) H, ?_, a, _, rfl, DGet.k s1, hQ⟩
        intro pins s σ H x y v u Q I rx ry ⟨a, o, ey, g, k⟩
        subst ey
        cases ry
        exact d_notIn (by omega) I g rx fun s' I' => ⟨.bl (!o.isSome), H, I', rfl, k⟩
  · rename_i s
    split at h
    · rename_i t
      split at h
      · rename_i c hc
        cases h
        have e1 := one_sign hc
        cases ra.str_inv
        cases rb.str_inv
        subst e1
        cases neg with
        | false => exact ⟨_, op_in_sign, c, s, rfl, rfl, hQ⟩
        | true => exact ⟨_, op_notIn_sign, c, s, rfl, rfl, hQ⟩
      · cases h
    · cases h
  · cases h
theorem cmp_ok {d e : D} {k : Bool} (o : Cop) (hu : X.A.units + 65 < cLine) (ra : Rep X.K H2 d x) (rb : Rep X.K H2 e y) (h : cmp o d e = some k) (hQ : Q (.bl k) H2) : UOp X (compareOp (cmpOf o)) x y H2 Q := by
  unfold cmp at h
  split at h
  · split at h
    · rename_i hk
      rw [Bool.and_eq_true] at hk
      cases h
      exact ⟨_, op_eqD (by omega), _, _, ra.dp (ok_lay hk.1), rb.dp (ok_lay hk.2), hk.1, hk.2, hQ⟩
    · cases h
  · split at h
    · rename_i hk
      rw [Bool.and_eq_true] at hk
      cases h
      exact ⟨_, op_neD (by omega), _, _, ra.dp (ok_lay hk.1), rb.dp (ok_lay hk.2), hk.1, hk.2, hQ⟩
    · cases h
  · cases h; cases ra.int_inv; cases rb.int_inv; exact ⟨_, op_lt, _, _, rfl, rfl, hQ⟩
  · cases h; cases ra.int_inv; cases rb.int_inv; exact ⟨_, op_le, _, _, rfl, rfl, hQ⟩
  · cases h; cases ra.int_inv; cases rb.int_inv; exact ⟨_, op_gt, _, _, rfl, rfl, hQ⟩
  · cases h; cases ra.int_inv; cases rb.int_inv; exact ⟨_, op_ge, _, _, rfl, rfl, hQ⟩
  · exact isIn_ok (neg := false) hu ra rb h hQ
  · cases hk : isIn d e with
    | none => rw [hk] at h; cases h
    | some k' =>
      rw [hk] at h
      cases h
      exact isIn_ok (neg := true) hu ra rb hk hQ
  · rename_i d
    cases rb.non_inv
    refine ⟨_, op_isN, rfl, ?_⟩
    cases ra <;> (cases h; exact hQ)
  · rename_i d
    cases rb.non_inv
    refine ⟨_, op_notN, rfl, ?_⟩
    cases ra <;> (cases h; exact hQ)
  · cases h
theorem ix_dict (hu : X.A.units + 1 < cLine) : IxR X (fun x y H Q => ∃ a v, x = .ref a ∧ DGet H a y (some v) ∧ Q v H) := by
  intro value slice pins s σ H x y v u Q I rx ry h hs
  obtain ⟨a, z, rfl, g, k⟩ := h
  cases rx
  exact tail_any (dict_typeIs I g) PySem.F.slot_dict_getitem.lookup (d_getItem hu I g ry fun w' s' I' rw' => ⟨z, H, I', rw', k⟩) hs
theorem ixN_map {α : Type} {xs : List α} {i : Int} {d : α} (h : L2.atI xs i = some d) : ∃ j, L2.ixN xs.length i = some j ∧ xs[j]? = some d := by
  unfold L2.atI at h
  cases e : L2.ixN xs.length i with
  | none => rw [e] at h; cases h
  | some j => rw [e] at h; exact ⟨j, rfl, h⟩
theorem atI_rep {ds : List D} {vs : List V} {i : Int} {d : D} (h : RepAll K H ds vs) (e : ix ds i = some d) : ∃ v, L2.atI vs i = some v ∧ Rep K H d v := by
  obtain ⟨j, e1, e2⟩ := ixN_map e
  obtain ⟨v, e3, h3⟩ := h.get e2
  refine ⟨v, ?_, h3⟩
  unfold L2.atI
  rw [← h.len, e1]
  exact e3
theorem look_rep {ks : List (Key × V)} {kvs : List (Key × D)} {k : Key} {d : D} (h : RepKV K H kvs ks) (e : look k kvs = some d) : ∃ v, valV ks k = some v ∧ Rep K H d v := by
  rcases look_ok h k with ⟨z, _⟩ | ⟨d', v, z1, z2, z3⟩
  · rw [z] at e; cases e
  · rw [z1] at e; cases e; exact ⟨v, z2, z3⟩
theorem idx_dict {d : D} {k : Key} {kvs : List (Key × D)} {l : Addr} {ks : List (Key × V)} (hu : X.A.units + 65 < cLine) (M2 : Mid X.K F H r σ q r2 F2 H2) (h1 : H2 l = some (.dK ks)) (h2 : RepKV X.K F2 kvs ks)
    (hk : b.fz.key = some k) (ob : Own X.K F2 H2 b y) (e : look k kvs = some d) (hQ : Ends1 X.K F H r σ q (.dat d) r2 Q) : UIx X (.ref l) y H2 Q := by
  obtain ⟨v, e1, e2⟩ := look_rep h2 e
  have hy := key_ok hk (ob.rep M2.wd.ex)
  subst hy
  refine ⟨_, ix_dict (by omega), l, v, rfl, ?_, hQ _ _ _ (M2.dat e2)⟩
  rw [← e1]
  exact DGet.k h1
theorem idx_ok (hu : X.A.units + 65 < cLine) (M2 : Mid X.K F H r σ q r2 F2 H2) (oa : Own X.K F2 H2 a x) (ob : Own X.K F2 H2 b y) (e : idx a b = some m) (hQ : Ends1 X.K F H r σ q m r2 Q) : UIx X x y H2 Q := by
  unfold idx at e
  have dcase : ∀ {kvs : List (Key × D)} {l : Addr} {ks : List (Key × V)}, H2 l = some (.dK ks) → RepKV X.K F2 kvs ks → (b.fz.key.bind fun k => (look k kvs).map MV.dat) = some m → UIx X (.ref l) y H2 Q := by
    intro kvs l ks h1 h2 e
    cases hk : b.fz.key with
    | none => rw [hk] at e; cases e
    | some k =>
      rw [hk] at e
      cases hl : look k kvs with
      | none => simp [hl] at e
      | some d =>
        simp [hl] at e
        subst e
        exact idx_dict hu M2 h1 h2 hk ob hl hQ
  split at e
  · obtain ⟨l, ks, rfl, h1, h2⟩ := (show Rep X.K F2 _ _ from oa).dic_inv
    exact dcase (M2.wd.ex _ _ h1) h2 e
  · obtain ⟨l, ks, rfl, h1, _, h2⟩ := oa
    exact dcase h1 h2 e
  · obtain ⟨l, ks, rfl, h1, h2⟩ := oa
    exact dcase h1 h2 e
  · split at e
    · rename_i i hi
      cases int_of M2 hi ob
      split at e
      · rename_i p xs hs
        obtain ⟨l, vs, rfl, h1, h2, h3, h4⟩ := seq_of hs oa M2.wd.ex
        cases hx : ix xs i with
        | none => rw [hx] at e; cases e
        | some d =>
          rw [hx] at e
          cases e
          obtain ⟨v, e1, e2⟩ := atI_rep h3 hx
          have fin : Q v H2 := hQ _ _ _ (M2.of e2 fun w => by
            obtain ⟨v', e1', e2'⟩ := atI_rep (h4 w) hx
            rw [e1] at e1'
            cases e1'
            exact e2')
          rcases h1 with h1 | h1
          · exact ⟨_, ix_list, l, vs, i, v, rfl, rfl, h1.sq, e1, fin⟩
          · exact ⟨_, ix_tup, l, vs, i, v, rfl, rfl, h1, e1, fin⟩
      · split at e
        · rename_i s hs
          split at e
          · rename_i hz
            cases str_of M2 hs oa
            cases hx : ix s.cps.toList i with
            | none => rw [hx] at e; cases e
            | some c =>
              rw [hx] at e
              cases e
              exact ⟨_, ix_str, s, i, c, rfl, rfl, by rw [← line_eq]; exact hz, hx, hQ _ _ _ (M2.dat (.str _))⟩
          · cases e
        · cases e
    · cases e
theorem cutL_whole {ds : List D} {lo hi : Option Int} (h : HT.sIx ds.length 0 lo = 0 ∧ HT.sIx ds.length ds.length hi = ds.length) : cutL ds lo hi = ds := by
  unfold cutL
  rw [h.1, h.2]
  simp
theorem sli_ok {lo hi : Option Int} (M2 : Mid X.K F H r σ q r2 F2 H2) (oa : Own X.K F2 H2 a x) (e : sli a lo hi = some m) (hQ : Ends1 X.K F H r σ q m r2 Q) : USl X x lo hi H2 Q := by
  unfold sli at e
  split at e
  · rename_i p xs hs
    cases e
    obtain ⟨l, vs, rfl, h1, h2, h3, h4⟩ := list_of hs oa M2.wd.ex
    exact ⟨_, sl_list, l, vs, rfl, h1.sq, fun pp hp => fin_mkL M2 hp (Nat.le_trans (cutV_length vs lo hi) h2) (h3.cut lo hi) (fun w => (h4 w).cut lo hi) hQ⟩
  · split at e
    · rename_i p xs hs
      cases e
      obtain ⟨l, vs, rfl, h1, h2, h3, h4⟩ := tup_of hs oa M2.wd.ex
      refine ⟨_, sl_tupA, l, vs, rfl, h1, fun w => ?_, fun w pp hp => fin_mkT M2 hp (Nat.le_trans (cutV_length vs lo hi) h2) (h3.cut lo hi) (fun w => (h4 w).1.cut lo hi) hQ⟩
      rw [← h3.len] at w
      have hQ' : Ends1 X.K F H r σ q (mkT p (cutL xs lo hi)) r2 Q := hQ
      rw [cutL_whole w] at hQ'
      exact fin_sameT M2 h1 h2 h3 h4 hQ'
    · cases e
def tyName : Ty → String
  | .int => "int" | .bool => "bool" | .str => "str" | .list => "list" | .tuple => "tuple" | .dict => "dict"
def dTy : D → String
  | .non => "NoneType" | .bl _ => "bool" | .int _ => "int" | .str _ => "str" | .tup _ => "tuple" | .lst _ => "list" | .dic _ => "dict"
def biVal : Bi → Value
  | .len => .builtin "len" | .max2 => .builtin "max" | .min2 => .builtin "min" | .int1 => .type "int" | .str1 => .type "str" | .list1 => .type "list" | .tuple1 => .type "tuple"
  | .all1 => .builtin "all" | .any1 => .builtin "any" | .sum1 => .builtin "sum" | .max1 => .builtin "max" | .min1 => .builtin "min" | .abs1 => .builtin "abs" | .isi _ => .builtin "isinstance"
def biMore : Bi → List V
  | .isi t => [.ty (tyName t)]
  | _ => []
theorem rep_ty {d : D} (h : Rep K H d x) : TyX K H x (.type (dTy d)) := by
  cases h with
  | non => exact .base .non
  | bl b => exact .base (.bl b)
  | int i => exact .base (.int i)
  | str s => exact .base (.str s)
  | tup h _ _ =>
    rcases h with (h | ⟨o, h⟩) | ⟨o, its, n, h1, h2, _⟩
    · exact .base (.tup h)
    · exact .fTuple h
    · exact .kTuple h1 h2
  | lst h _ _ =>
    rcases h with (h | ⟨o, h⟩) | ⟨its, n, h1, _⟩
    · exact .base (.lst h)
    · exact .base (.frz h)
    · exact .kList h1 rfl
  | dic h _ => exact .base (.dK h)
theorem kit_all (t : Ty) (d : D) : kitB (dTy d) (tyName t) = some (isTy t d) := by
  cases t <;> cases d <;> (show kitB _ _ = some _) <;> simp only [dTy, tyName, isTy] <;> decide +kernel
inductive OwnAll (K : PySem.W.Frag) (F H : Hp) : List MV → List V → Prop
  | nil : OwnAll K F H [] []
  | cons {m : MV} {v : V} {ms : List MV} {vs : List V} : Own K F H m v → OwnAll K F H ms vs → OwnAll K F H (m :: ms) (v :: vs)
theorem bools_rep {ds : List D} {bs : List Bool} {vs : List V} (h : RepAll K H ds vs) (e : bools ds = some bs) : vs = bs.map V.bl := by
  induction ds generalizing vs bs with
  | nil => cases e; cases h; rfl
  | cons d t ih =>
    cases d with
    | bl b =>
      cases ht : bools t with
      | none => simp [bools, ht] at e
      | some r =>
        simp [bools, ht] at e
        subst e
        cases h with
        | cons h1 h2 =>
          rw [h1.bl_inv, ih h2 ht]
          rfl
    | _ => simp [bools] at e
theorem ints_rep {ds : List D} {bs : List Int} {vs : List V} (h : RepAll K H ds vs) (e : intsD ds = some bs) : vs = bs.map V.int := by
  induction ds generalizing vs bs with
  | nil => cases e; cases h; rfl
  | cons d t ih =>
    cases d with
    | int b =>
      cases ht : intsD t with
      | none => simp [intsD, ht] at e
      | some r =>
        simp [intsD, ht] at e
        subst e
        cases h with
        | cons h1 h2 =>
          rw [h1.int_inv, ih h2 ht]
          rfl
    | _ => simp [intsD] at e
theorem call_str_data (hg : X.A.guards = some []) (hu : X.A.units + 68 < cLine) : CallR X (.type "str") (fun xs H Q => ∃ (a : Addr) (d : PyData), xs = [.ref a] ∧ Dp X.K H (.ref a) d ∧ SeqAt.shaped d = true ∧ d.showable = true ∧ d.shown.length ≤ sizeLine ∧ Q (.str d.shown) H) := by
  intro pins s σ H xs us Q I rr h
  obtain ⟨a, d, rfl, hd, sd, sh, sz, k⟩ := h
  obtain ⟨u, rfl, ru⟩ := vals1 rr
  obtain ⟨as, rd⟩ := Dp.reads I d _ u hd ru
  cases ru
  have h64 := SeqAt.depth_of_shaped sd
  exact str_of_reads rd sh (PyData.noDict_hsm (PyData.hasDict_of_canLay d (SeqAt.canLay_of_shaped sd))) hg (by omega) (fun _ _ e => e) (fun h' u tk hk => ⟨.str d.shown, H, I.kept (t' := tk) hk, ⟨_, rfl⟩, k⟩) sz
theorem call_strS : CallR X (.type "str") (fun xs H Q => ∃ s, xs = [.str s] ∧ Q (.str s) H) := by
  intro pins s σ H xs us Q I rr h
  obtain ⟨z, rfl, k⟩ := h
  obtain ⟨u, rfl, t, rfl⟩ := vals1 rr
  exact PySem.P.str_of_str ⟨.str z, H, I, ⟨_, rfl⟩, k⟩
theorem call_strB : CallR X (.type "str") (fun xs H Q => ∃ b : Bool, xs = [.bl b] ∧ Q (.str (if b then "True" else "False")) H) := by
  intro pins s σ H xs us Q I rr h
  obtain ⟨z, rfl, k⟩ := h
  obtain ⟨u, rfl, ru⟩ := vals1 rr
  cases ru
  exact PySem.P.str_of_bool ⟨.str (if z then "True" else "False"), H, I.tok _, ⟨_, rfl⟩, k⟩
theorem call_strN : CallR X (.type "str") (fun xs H Q => xs = [.non] ∧ Q (.str "None") H) := by
  intro pins s σ H xs us Q I rr h
  obtain ⟨rfl, k⟩ := h
  obtain ⟨u, rfl, ru⟩ := vals1 rr
  cases ru
  exact PySem.P.str_of_none ⟨.str "None", H, I.tok _, ⟨_, rfl⟩, k⟩
theorem shown_ok {d : D} {l : Addr} (hg : X.A.guards = some []) (hu : X.A.units + 68 < cLine) (M2 : Mid X.K F H r σ q r2 F2 H2) (rp : Rep X.K H2 d (.ref l)) (e : shown d = some m) (hQ : Ends1 X.K F H r σ q m r2 Q) : UCall X (.type "str") [.ref l] H2 Q := by
  unfold shown at e
  split at e
  · rename_i hk
    simp only [Bool.and_eq_true, decide_eq_true_eq] at hk
    cases e
    exact ⟨_, call_str_data hg hu, l, _, rfl, rp.dp (ok_lay hk.1.1), hk.1.1, hk.1.2, by rw [← line_eq]; exact hk.2, hQ _ _ _ (M2.dat (.str _))⟩
  · cases e
theorem seq_list {a : MV} {p : Bool} {xs : List D} (h : a.seq = some (p, xs)) : a.list = some (p, xs) ∨ a.tup = some (p, xs) := by
  cases a with
  | dat d => cases d <;> first | (left; exact h) | (right; exact h) | cases h
  | tmp d => cases d <;> first | (left; exact h) | (right; exact h) | cases h
  | blst d => left; exact h
  | lst d => left; exact h
  | _ => cases h
theorem bi_ok {as : List MV} {vs : List V} (b : Bi) (hc : X.calm = true) (hg : X.A.guards = some []) (hu : X.A.units + 68 < cLine) (M2 : Mid X.K F H r σ q r2 F2 H2) (oa : OwnAll X.K F2 H2 as vs) (e : bi b as = some m) (hQ : Ends1 X.K F H r σ q m r2 Q) :
    UCall X (biVal b) (vs ++ biMore b) H2 Q := by
  have one : ∀ {a : MV}, OwnAll X.K F2 H2 [a] vs → ∃ v, vs = [v] ∧ Own X.K F2 H2 a v := fun h => by
    cases h with
    | cons h1 h2 => cases h2; exact ⟨_, rfl, h1⟩
  have two : ∀ {a b : MV}, OwnAll X.K F2 H2 [a, b] vs → ∃ v w, vs = [v, w] ∧ Own X.K F2 H2 a v ∧ Own X.K F2 H2 b w := fun h => by
    cases h with
    | cons h1 h2 => cases h2 with | cons h3 h4 => cases h4; exact ⟨_, _, rfl, h1, h3⟩
  unfold bi at e
  split at e
  · rename_i a
    obtain ⟨v, rfl, ov⟩ := one oa
    have rp := ov.rep M2.wd.ex
    split at e
    · rename_i s hs
      split at e
      · rename_i hz
        cases e
        rw [hs] at rp
        cases rp.str_inv
        exact ⟨_, call_len, _, s.length, rfl, ⟨by rw [← line_eq]; exact hz, rfl⟩, hQ _ _ _ (M2.dat (.int _))⟩
      · cases e
    · rename_i ds hs
      cases e
      rw [hs] at rp
      obtain ⟨l, ws, rfl, h1, h2, h3⟩ := rp.lst_inv
      exact ⟨_, call_len, _, ds.length, rfl, .inl ⟨ws, h1.sq, h3.len⟩, hQ _ _ _ (M2.dat (.int _))⟩
    · rename_i ds hs
      cases e
      rw [hs] at rp
      obtain ⟨l, ws, rfl, h1, h2, h3⟩ := rp.tup_inv
      exact ⟨_, call_len, _, ds.length, rfl, .inr ⟨ws, h1, h3.len⟩, hQ _ _ _ (M2.dat (.int _))⟩
    · rename_i ds hs
      cases e
      rw [hs] at rp
      obtain ⟨l, ks, rfl, h1, h2⟩ := rp.dic_inv
      refine ⟨_, call_lenD, l, ks, rfl, h1, ?_⟩
      rw [← h2.len]
      exact hQ _ _ _ (M2.dat (.int _))
    · cases e
  · rename_i a b
    obtain ⟨v, w, rfl, o1, o2⟩ := two oa
    split at e
    · rename_i i j hi hj
      cases e
      cases int_of M2 hi o1
      cases int_of M2 hj o2
      exact ⟨_, call_max2 hc, i, j, rfl, hQ _ _ _ (M2.dat (.int _))⟩
    · cases e
  · rename_i a b
    obtain ⟨v, w, rfl, o1, o2⟩ := two oa
    split at e
    · rename_i i j hi hj
      cases e
      cases int_of M2 hi o1
      cases int_of M2 hj o2
      exact ⟨_, call_min2 hc, i, j, rfl, hQ _ _ _ (M2.dat (.int _))⟩
    · cases e
  · rename_i a
    obtain ⟨v, rfl, ov⟩ := one oa
    split at e
    · rename_i i hi
      cases e
      cases int_of M2 hi ov
      exact ⟨_, call_int1, .inl ⟨i, rfl, hQ _ _ _ (M2.dat (.int _))⟩⟩
    · rename_i k hk
      cases e
      have rp := ov.rep M2.wd.ex
      rw [hk] at rp
      cases rp.bl_inv
      exact ⟨_, call_int1, .inr ⟨k, rfl, hQ _ _ _ (M2.dat (.int _))⟩⟩
    · cases e
  · rename_i a
    obtain ⟨v, rfl, ov⟩ := one oa
    have rp := ov.rep M2.wd.ex
    split at e
    · rename_i i hi
      split at e
      · rename_i hz
        cases e
        cases int_of M2 hi ov
        exact ⟨_, call_str_int, i, rfl, hz, hQ _ _ _ (M2.dat (.str _))⟩
      · cases e
    · rename_i s hs
      cases e
      cases str_of M2 hs ov
      exact ⟨_, call_strS, s, rfl, hQ _ _ _ (M2.dat (.str _))⟩
    · rename_i k hk
      cases e
      rw [hk] at rp
      cases rp.bl_inv
      exact ⟨_, call_strB, k, rfl, hQ _ _ _ (M2.dat (.str _))⟩
    · rename_i hk
      cases e
      rw [hk] at rp
      cases rp.non_inv
      exact ⟨_, call_strN, rfl, hQ _ _ _ (M2.dat (.str _))⟩
    · rename_i ds hs
      rw [hs] at rp
      obtain ⟨l, ws, rfl, _⟩ := rp.lst_inv
      exact shown_ok hg hu M2 rp e hQ
    · rename_i ds hs
      rw [hs] at rp
      obtain ⟨l, ws, rfl, _⟩ := rp.tup_inv
      exact shown_ok hg hu M2 rp e hQ
    · cases e
  · rename_i a
    obtain ⟨v, rfl, ov⟩ := one oa
    split at e
    · rename_i p xs hs
      cases e
      obtain ⟨l, ws, rfl, h1, h2, h3, h4⟩ := seq_of hs ov M2.wd.ex
      refine ⟨_, call_list_of, l, ws, rfl, h1.imp LsL.sq id, fun l' hl' => fin_mkL M2 hl' h2 h3 h4 hQ⟩
    · cases e
  · rename_i a
    obtain ⟨v, rfl, ov⟩ := one oa
    split at e
    · rename_i p xs hs
      cases e
      rcases seq_list hs with hl | hl
      · obtain ⟨l, ws, rfl, h1, h2, h3, h4⟩ := list_of hl ov M2.wd.ex
        exact ⟨_, call_tuple_of, l, ws, rfl, .inl ⟨h1.sq, fun l' hl' => fin_mkT M2 hl' h2 h3 h4 hQ⟩⟩
      · obtain ⟨l, ws, rfl, h1, h2, h3, h4⟩ := tup_of hl ov M2.wd.ex
        exact ⟨_, call_tuple_of, l, ws, rfl, .inr ⟨h1, fin_sameT M2 h1 h2 h3 h4 hQ⟩⟩
    · cases e
  · rename_i a
    obtain ⟨v, rfl, ov⟩ := one oa
    split at e
    · rename_i p xs hs
      obtain ⟨l, ws, rfl, h1, h2, h3, h4⟩ := list_of hs ov M2.wd.ex
      cases hb : bools xs with
      | none => rw [hb] at e; cases e
      | some bs =>
        rw [hb] at e
        cases e
        exact ⟨_, cr_all hc, l, bs, rfl, by rw [← bools_rep h3 hb]; exact h1.sq, hQ _ _ _ (M2.dat (.bl _))⟩
    · cases e
  · rename_i a
    obtain ⟨v, rfl, ov⟩ := one oa
    split at e
    · rename_i p xs hs
      obtain ⟨l, ws, rfl, h1, h2, h3, h4⟩ := list_of hs ov M2.wd.ex
      cases hb : bools xs with
      | none => rw [hb] at e; cases e
      | some bs =>
        rw [hb] at e
        cases e
        exact ⟨_, cr_any hc, l, bs, rfl, by rw [← bools_rep h3 hb]; exact h1.sq, hQ _ _ _ (M2.dat (.bl _))⟩
    · cases e
  · rename_i a
    obtain ⟨v, rfl, ov⟩ := one oa
    split at e
    · rename_i p xs hs
      obtain ⟨l, ws, rfl, h1, h2, h3, h4⟩ := list_of hs ov M2.wd.ex
      cases hb : intsD xs with
      | none => rw [hb] at e; cases e
      | some bs =>
        rw [hb] at e
        cases e
        exact ⟨_, cr_sum hc, l, bs, rfl, by rw [← ints_rep h3 hb]; exact h1.sq, hQ _ _ _ (M2.dat (.int _))⟩
    · cases e
  · rename_i a
    obtain ⟨v, rfl, ov⟩ := one oa
    split at e
    · rename_i i hi
      cases e
      cases int_of M2 hi ov
      exact ⟨_, call_abs, i, rfl, hQ _ _ _ (M2.dat (.int _))⟩
    · cases e
  · rename_i t a
    obtain ⟨v, rfl, ov⟩ := one oa
    cases e
    exact ⟨_, call_isi, v, .ty (tyName t), _, _, _, rfl, .ty _, rep_ty (ov.rep M2.wd.ex), kit_ty (kit_all t _), hQ _ _ _ (M2.dat (.bl _))⟩
  · cases e
def meTy : Me → String
  | .index => "list"
  | _ => "str"
def meId : Me → String
  | .split => "str.split" | .isalnum => "str.isalnum" | .isalpha => "str.isalpha" | .lower => "str.lower" | .index => "list.index"
def meName : Me → Str
  | .split => "split" | .isalnum => "isalnum" | .isalpha => "isalpha" | .lower => "lower" | .index => "index"
def UMt (X : Cx) (id : String) : V → List V → Hp → VK → Prop := fun x xs H Q => ∃ r, MtR X id r ∧ r x xs H Q
theorem mt_U {id : String} : MtR X id (UMt X id) := fun pins s σ H x xs v us Q I rx rs ⟨r, h, k⟩ => h pins s σ H x xs v us Q I rx rs k
theorem strs_rep (ys : List Str) : RepAll K H (ys.map .str) (ys.map V.str) := by
  induction ys with
  | nil => exact .nil
  | cons y t ih => exact .cons (.str y) ih
theorem first_ok {d : D} : ∀ {ds : List D} {n k : Nat}, firstIx d ds n = some k → ∃ j z, k = n + j ∧ (D.pyAll ds)[j]? = some z ∧ PyData.eqv z d.py = true ∧ ∀ (i : Nat) (z' : PyData), i < j → (D.pyAll ds)[i]? = some z' → PyData.eqv z' d.py = false
  | [], _, _, h => by cases h
  | c :: t, n, k, h => by
    unfold firstIx at h
    split at h
    · rename_i hc
      cases h
      exact ⟨0, c.py, rfl, rfl, hc, fun i _ hi => absurd hi (Nat.not_lt_zero i)⟩
    · rename_i hc
      obtain ⟨j, z, e1, e2, e3, e4⟩ := first_ok h
      refine ⟨j + 1, z, by omega, by simpa [D.pyAll] using e2, e3, fun i z' hi hz => ?_⟩
      cases i with
      | zero =>
        simp [D.pyAll] at hz
        subst hz
        exact Bool.eq_false_iff.mpr hc
      | succ i => exact e4 i z' (by omega) (by simpa [D.pyAll] using hz)
theorem me_ok {as : List MV} {vs : List V} (mm : Me) (hu : X.A.units + 68 < cLine) (M2 : Mid X.K F H r σ q r2 F2 H2) (oa : Own X.K F2 H2 a x) (os : OwnAll X.K F2 H2 as vs) (e : me mm a as = some m) (hQ : Ends1 X.K F H r σ q m r2 Q) :
    tyV X.K (meTy mm) x H2 ∧ UMt X (meId mm) x vs H2 Q := by
  have rx := oa.rep M2.wd.ex
  have one : ∀ {a : MV}, OwnAll X.K F2 H2 [a] vs → ∃ v, vs = [v] ∧ Own X.K F2 H2 a v := fun h => by
    cases h with
    | cons h1 h2 => cases h2; exact ⟨_, rfl, h1⟩
  unfold me at e
  split at e
  · rename_i s b hs
    cases str_of M2 hs oa
    obtain ⟨v, rfl, ov⟩ := one os
    split at e
    · rename_i t ht
      cases str_of M2 ht ov
      split at e
      · rename_i hk
        simp only [Bool.and_eq_true, decide_eq_true_eq, bne_iff_ne, ne_eq] at hk
        cases e
        refine ⟨rfl, _, mt_split, s, t, rfl, rfl, ?_, ?_, fun p hp => ?_⟩
        · simpa using hk.1.1
        · rw [← line_eq]; exact hk.1.2
        · exact fin_mkL (p := true) M2 hp (by
            rw [List.length_map, ← line_eq]
            exact hk.2) (strs_rep _) (fun _ => strs_rep _) hQ
      · cases e
    · cases e
  · rename_i s hs
    cases str_of M2 hs oa
    cases os
    cases e
    exact ⟨rfl, _, mt_isalnum, s, rfl, rfl, trivial, hQ _ _ _ (M2.dat (.bl _))⟩
  · rename_i s hs
    cases str_of M2 hs oa
    cases os
    cases e
    exact ⟨rfl, _, mt_isalpha, s, rfl, rfl, trivial, hQ _ _ _ (M2.dat (.bl _))⟩
  · rename_i s hs
    cases str_of M2 hs oa
    cases os
    split at e
    · rename_i hz
      cases e
      exact ⟨rfl, _, mt_lower, s, rfl, rfl, hz, hQ _ _ _ (M2.dat (.str _))⟩
    · cases e
  · rename_i xs b hs
    obtain ⟨v, rfl, ov⟩ := one os
    split at e
    · rename_i hk
      rw [Bool.and_eq_true] at hk
      cases hf : firstIx b.fz xs 0 with
      | none => rw [hf] at e; cases e
      | some k =>
        rw [hf] at e
        cases e
        rw [hs] at rx
        have d1 := rx.dp (ok_lay hk.1)
        have d2 := (ov.rep M2.wd.ex).dp (ok_lay hk.2)
        obtain ⟨l, ws, rfl, h1, h2, h3⟩ := rx.lst_inv
        obtain ⟨j, z, e1, e2, e3, e4⟩ := first_ok hf
        have ek : k = j := by omega
        subst ek
        exact ⟨.inl ⟨rfl, ws, h1.sq⟩, _, mt_indexD (by omega), l, v, _, _, k, z, rfl, rfl, d1, d2, hk.1, hk.2, e2, e3, e4, hQ _ _ _ (M2.dat (.int _))⟩
    · cases e
  · cases e
end
end M
set_option Elab.async false
set_option linter.all false
set_option maxRecDepth 100000
set_option maxHeartbeats 1000000
set_option autoImplicit false
namespace M
open PySem PySem.Spec PyProof.Rows L2
structure Sc where
  N : List Str
  sc : Scope
structure Tab where
  fn : List (Str × Nat)
  gl : List (Str × Nat)
  kw : List (Nat × Nat × List Str × List Nat)
def visB (S : Sc) (x : Str) : Bool := match S.sc.names.lookup x with
  | some .local => true
  | some .cell => true
  | some .free => true
  | _ => false
def locB (S : Sc) (x : Str) : Bool := match S.sc.names.lookup x with
  | some .local => true
  | some .cell => true
  | _ => false
def glB (S : Sc) (x : Str) : Bool := match S.sc.names.lookup x with
  | some .globalImplicit => true
  | _ => false
def oddB (x : Str) : Bool := x == ("__debug__" : Str) || x == ("__classdict__" : Str) || x == ("__name__" : Str)
def isN (S : Sc) (i : Nat) (x : Str) : Bool := (S.N[i]? == some x) && visB S x && !oddB x
def isL (S : Sc) (i : Nat) (x : Str) : Bool := (S.N[i]? == some x) && locB S x && !oddB x
def isG (S : Sc) (x : Str) : Bool := glB S x && !oddB x
def okC : D → Const → Bool
  | .non, .none => true
  | .bl a, .bool b => a == b
  | .int i, .int j => i == j
  | .str s, .str t => s == t
  | _, _ => false
def notStar : Expr → Bool
  | .Starred _ _ => false
  | _ => true
def notCall0 : Expr → Bool
  | .Call _ [] _ _ => false
  | _ => true
def notSlice : Expr → Bool
  | .Slice _ _ _ _ => false
  | _ => true
def notSet : Expr → Bool
  | .Set _ _ _ => false
  | _ => true
def notComp : Expr → Bool
  | .ListComp _ _ _ _ => false
  | .SetComp _ _ _ _ => false
  | .DictComp _ _ _ _ _ => false
  | _ => true
def notTuple : Expr → Bool
  | .Tuple _ _ _ => false
  | _ => true
def biName : Bi → Str
  | .len => "len" | .max2 => "max" | .min2 => "min" | .int1 => "int" | .str1 => "str" | .list1 => "list" | .tuple1 => "tuple" | .all1 => "all" | .any1 => "any" | .sum1 => "sum" | .max1 => "max" | .min1 => "min" | .abs1 => "abs" | .isi _ => "isinstance"
def tyStr : Ty → Str
  | .int => "int" | .bool => "bool" | .str => "str" | .list => "list" | .tuple => "tuple" | .dict => "dict"
def bltNames : List Str := ["len", "max", "min", "int", "str", "bool", "dict", "list", "tuple", "all", "any", "sum", "abs", "isinstance", "range", "enumerate", "zip"]
def muName : Mu → Str
  | .append => "append" | .popAt => "pop"
def permOf (ps : List Str) (n : Nat) (ks : List Str) : Option (List Nat) :=
  if ps.length = n + ks.length && ks.all (fun k => (ps.drop n).contains k) && decide ks.Nodup && decide ps.Nodup then
    some ((List.range n) ++ (ps.drop n).map fun p => n + (ks.findIdx fun k => k == p)) else none
def kwNames : List Keyword → Option (List Str)
  | [] => some []
  | ⟨some k, _, _⟩ :: r => (kwNames r).map (k :: ·)
  | _ => none
def nc : List Nat → List (Str × Nat) := fun _ => []
def ownN (S : Sc) (own : List Nat) : List (Str × Nat) := own.map fun i => (S.N.getD i "", i)
variable (T : Tab)
mutual
def okE : Sc → CE → Expr → Bool
  | S, .var i, .Name x _ => isN S i x
  | S, .take i, .Name x _ => isN S i x
  | _, .con d, .Constant c _ _ => okC d c
  | S, .glo g, .Name x _ => isG S x && (T.gl.lookup x == some g)
  | S, .bin o a b, .BinOp x op y _ => decide (opOf o = op) && okE S a x && okE S b y
  | S, .una .neg a, .UnaryOp .USub x _ => okE S a x
  | S, .una .not a, .UnaryOp .Not x _ => okE S a x
  | S, .cmp o a b, .Compare x [op] [y] _ => decide (cmpOf o = op) && okE S a x && okE S b y && !behindInMarks op y
  | S, .chn o p a b c, .Compare x [op, op'] [y, z] _ => decide (cmpOf o = op) && decide (cmpOf p = op') && okE S a x && okE S b y && okE S c z && !behindInMarks op' z
  | S, .and a b, .BoolOp .And [x, y] _ => okE S a x && okE S b y
  | S, .and a b, .BoolOp .And (x :: y :: z :: r) p => okE S a x && okE S b (.BoolOp .And (y :: z :: r) p)
  | S, .or a b, .BoolOp .Or [x, y] _ => okE S a x && okE S b y
  | S, .or a b, .BoolOp .Or (x :: y :: z :: r) p => okE S a x && okE S b (.BoolOp .Or (y :: z :: r) p)
  | S, .ite c a b, .IfExp x y z _ => okE S c x && okE S a y && okE S b z
  | S, .tup es, .Tuple xs _ _ => okEs S es xs
  | S, .lst es, .List xs _ => okEs S es xs
  | _, .dict0, .Dict [] [] _ => true
  | S, .idx a b, .Subscript x y _ => okE S a x && okE S b y && notSlice y
  | S, .sli a l h, .Subscript x (.Slice lo hi none _) _ => okE S a x && okO S l lo && okO S h hi
  | S, .call f es, .Call (.Name x _) xs [] _ => isG S x && (T.fn.lookup x == some f) && okAs S es xs
  | S, .callk f perm es, .Call (.Name x _) xs kws _ => isG S x && (T.fn.lookup x == some f) && (match kwNames kws with
      | some ks => T.kw.contains (f, xs.length, ks, perm)
      | none => false) && okAs S es (xs ++ kws.map Keyword.value) && !kws.isEmpty
  | S, .bi (.isi t) (.cons a .nil), .Call (.Name x _) [y, .Name z _] [] _ => isG S x && (x == "isinstance") && okE S a y && isG S z && (z == tyStr t) && notStar y
  | S, .bi b es, .Call (.Name x _) (y :: ys) [] _ => (match b with | .isi _ => false | _ => true) && isG S x && (x == biName b) && okEs S es (y :: ys)
  | S, .me m a es, .Call (.Attribute x n ap) ys [] cp => okE S a x && (n == meName m) && notCall0 x && (ap.endLine == cp.line) && okEs S es ys && decide (ys.length < 20)
  | S, .mu m i es, .Call (.Attribute (.Name x _) n ap) ys [] cp => isN S i x && (n == muName m) && (ap.endLine == cp.line) && okEs S es ys && decide (ys.length < 20)
  | S, .lc own t it c e, .ListComp elt [⟨tg, iter, ifs, 0⟩] scope _ =>
    blkC S.N S.sc scope (ownN S own) && okI S it tg iter && okT ⟨S.N, scope⟩ t tg && inOwn own t && okIf ⟨S.N, relS scope S.sc⟩ c ifs && okE ⟨S.N, relS scope S.sc⟩ e elt && notSet iter
  | _, _, _ => false
def okEs : Sc → CEs → List Expr → Bool
  | _, .nil, [] => true
  | S, .cons e es, x :: xs => okE S e x && okEs S es xs && notStar x
  | _, _, _ => false
def okAs : Sc → CAs → List Expr → Bool
  | _, .nil, [] => true
  | S, .val e es, x :: xs => okE S e x && okAs S es xs && notStar x
  | S, .ref i es, .Name x _ :: xs => isN S i x && okAs S es xs
  | _, _, _ => false
def okO : Sc → CO → Option Expr → Bool
  | _, .no, none => true
  | S, .so e, some x => okE S e x
  | _, _, _ => false
def okIf : Sc → CO → List Expr → Bool
  | _, .no, [] => true
  | S, .so e, [x] => okE S e x
  | _, _, _ => false
def okI : Sc → CI → Expr → Expr → Bool
  | S, .over e, _, x => okE S e x
  | S, .rng1 a, _, .Call (.Name x _) [y] [] _ => isG S x && (x == "range") && okE S a y && notStar y
  | S, .rng2 a b, _, .Call (.Name x _) [y, z] [] _ => isG S x && (x == "range") && okE S a y && okE S b z && notStar y && notStar z
  | S, .enm a, .Tuple _ _ _, .Call (.Name x _) [y] [] _ => isG S x && (x == "enumerate") && okE S a y && notStar y
  | S, .zip a b, .Tuple _ _ _, .Call (.Name x _) [y, z] [] _ => isG S x && (x == "zip") && okE S a y && okE S b z && notStar y && notStar z
  | _, _, _, _ => false
def okT : Sc → CT → Expr → Bool
  | S, .nm i, .Name x _ => isL S i x
  | S, .tp ts, .Tuple xs _ _ => okTs S ts xs
  | _, _, _ => false
def okTs : Sc → CTs → List Expr → Bool
  | _, .nil, [] => true
  | S, .cons t ts, x :: xs => okT S t x && okTs S ts xs && notStar x
  | _, _, _ => false
def inOwn (own : List Nat) : CT → Bool
  | .nm i => own.contains i
  | .tp ts => inOwns own ts
def inOwns (own : List Nat) : CTs → Bool
  | .nil => true
  | .cons t ts => inOwn own t && inOwns own ts
end
end M
set_option Elab.async false
set_option linter.all false
set_option maxRecDepth 100000
set_option maxHeartbeats 1000000
set_option autoImplicit false
namespace M
open PySem PySem.Spec PyProof.Rows L2
abbrev EK := Exc → Value → Option Addr → Hp → Hp → Prop
structure XP (K : PySem.W.Frag) (ER : EK) (F H : Hp) (r : Env) (σ : L2.St) (q : Bool) (x : Exc) (r' : Env) (cls : Value) (d : Option Addr) (F' H' : Hp) : Prop where
  mid : Mid K F H r σ q r' F' H'
  exc : ER x cls d F' H'
def Sat (K : PySem.W.Frag) (ER : EK) (W : XK) (F H : Hp) (r : Env) (σ : L2.St) (q : Bool) (o : Except Exc MV) (r' : Env) (Q : VK) : Prop :=
  match o with
  | .ok m => Ends1 K F H r σ q m r' Q
  | .error x => ∀ cls d F' H', XP K ER F H r σ q x r' cls d F' H' → W cls d H'
section
variable {K : PySem.W.Frag} {ER : EK} {W : XK} {F H F1 H1 F2 H2 : Hp} {r r1 r2 : Env} {σ : L2.St} {q q1 q2 : Bool} {o : Except Exc MV} {m : MV} {v : V} {Q Q' : VK} {x : Exc}
theorem Sat.after (a : Mid K F H r σ q1 r1 F1 H1) (h : Sat K ER W F H r σ (q1 && q2) o r2 Q) : Sat K ER W F1 H1 r1 σ q2 o r2 Q := by
  cases o with
  | ok m => exact fun v F' H' V => h v F' H' (a.val V)
  | error x => exact fun cls d F' H' X => h cls d F' H' ⟨a.trans X.mid, X.exc⟩
theorem Sat.err (h : Sat K ER W F H r σ q (.error x) r2 Q) (f : q1 = false → q = false) : Sat K ER W F H r σ q1 (.error x) r2 Q' :=
  fun cls d F' H' X => h cls d F' H' ⟨X.mid.flag f, X.exc⟩
theorem Sat.flag (h : Sat K ER W F H r σ q o r2 Q) (f : q1 = false → q = false) : Sat K ER W F H r σ q1 o r2 Q := by
  cases o with
  | ok m => exact fun v F' H' V => h v F' H' (V.flag f)
  | error x => exact fun cls d F' H' X => h cls d F' H' ⟨X.mid.flag f, X.exc⟩
theorem andF1 {a b : Bool} : a = false → (a && b) = false := fun h => by rw [h]; rfl
theorem andF2 {a b : Bool} : b = false → (a && b) = false := fun h => by rw [h, Bool.and_false]
theorem bind_inv {α β : Type} {mm : R α} {f : α → Env → R β} {o : Except Exc β} {r' : Env} (h : R.bind mm f = some (o, r')) : (∃ x, mm = some (.error x, r') ∧ o = .error x) ∨ ∃ a r1, mm = some (.ok a, r1) ∧ f a r1 = some (o, r') := by
  unfold R.bind at h
  split at h
  · cases h
  · rename_i x r1
    cases h
    exact .inl ⟨x, rfl, rfl⟩
  · rename_i a r1
    exact .inr ⟨a, r1, rfl, h⟩
theorem lift_inv {α : Type} {oo : Option α} {r0 : Env} {o : Except Exc α} {r' : Env} (h : lift oo r0 = some (o, r')) : ∃ a, oo = some a ∧ o = .ok a ∧ r' = r0 := by
  unfold lift at h
  cases e : oo with
  | none => rw [e] at h; cases h
  | some a => rw [e] at h; cases h; exact ⟨a, rfl, rfl, rfl⟩
theorem ret_inv {α : Type} {a : α} {r0 : Env} {o : Except Exc α} {r' : Env} (h : ret a r0 = some (o, r')) : o = .ok a ∧ r' = r0 := by
  cases h; exact ⟨rfl, rfl⟩
def FrA (r : Env) (σ : L2.St) (H : Hp) (q : Bool) (r' : Env) (ms : List MV) (vs : List V) : Prop :=
  ∀ (i : Nat) (m : MV) (v : V), ms[i]? = some m → vs[i]? = some v → ∀ a, Foot m v a → ((q = false ∧ Has r σ a) ∨ H a = none) ∧ ¬ Has r' σ a
theorem OwnAll.get {ms : List MV} {vs : List V} (h : OwnAll K F H ms vs) : ∀ {i : Nat} {m : MV} {v : V}, ms[i]? = some m → vs[i]? = some v → Own K F H m v := by
  induction h with
  | nil => intro i m v e; simp at e
  | cons h1 h2 ih =>
    intro i m v e1 e2
    cases i with
    | zero => simp at e1 e2; subst e1 e2; exact h1
    | succ i => exact ih (i := i) (by simpa using e1) (by simpa using e2)
theorem OwnAll.len {ms : List MV} {vs : List V} (h : OwnAll K F H ms vs) : ms.length = vs.length := by
  induction h with
  | nil => rfl
  | cons _ _ ih => simp only [List.length_cons, ih]
open Classical in
noncomputable def frozen (F H : Hp) (ms : List MV) (vs : List V) : Hp := fun a => if ∃ (i : Nat) (m : MV) (v : V), ms[i]? = some m ∧ vs[i]? = some v ∧ Foot m v a then H a else F a
theorem frozen_ex {ms : List MV} {vs : List V} (o : OwnAll K F H ms vs) : Ex F (frozen F H ms vs) := fun a u e => by
  unfold frozen
  split
  · rename_i h
    obtain ⟨i, m, v, e1, e2, f⟩ := h
    rw [(Foot.in (o.get e1 e2) f).2] at e
    cases e
  · exact e
theorem frozen_le {ms : List MV} {vs : List V} (e : Ex F H) : Ex (frozen F H ms vs) H := fun a u h => by
  unfold frozen at h
  split at h
  · exact h
  · exact e a u h
theorem frozen_in {ms : List MV} {vs : List V} {i : Nat} {m : MV} {v : V} {a : Addr} (e1 : ms[i]? = some m) (e2 : vs[i]? = some v) (f : Foot m v a) : frozen F H ms vs a = H a := by
  unfold frozen
  rw [if_pos ⟨i, m, v, e1, e2, f⟩]
theorem rep_frozen {F3 : Hp} (e : Ex F F3) (h : Own K F H m v) (t : m.temp = false) (hf : ∀ a, Foot m v a → F3 a = H a) : Rep K F3 m.fz v := by
  cases m with
  | no => exact h.elim
  | dat d => exact Rep.mono e h
  | tmp d => cases t
  | blst d => cases t
  | bdic d => cases t
  | lst xs =>
    obtain ⟨a, vs, rfl, h1, h0, h2, h3⟩ := h
    exact .lst (sl_of ((hf a rfl).trans h1)) h2 (h3.mono e)
  | dic xs =>
    obtain ⟨a, ks, rfl, h1, h0, h3⟩ := h
    exact .dic ((hf a rfl).trans h1) (h3.mono e)
theorem repAll_frozen {F3 : Hp} {ms : List MV} {vs : List V} (e : Ex F F3) (o : OwnAll K F H ms vs) (t : ms.any MV.temp = false) (hf : ∀ (i : Nat) (m : MV) (v : V), ms[i]? = some m → vs[i]? = some v → ∀ a, Foot m v a → F3 a = H a) : RepAll K F3 (ms.map MV.fz) vs := by
  induction o with
  | nil => exact .nil
  | cons h1 h2 ih =>
    simp only [List.any_cons, Bool.or_eq_false_iff] at t
    exact .cons (rep_frozen e h1 t.1 fun a f => hf 0 _ _ rfl rfl a f) (ih t.2 fun i m v e1 e2 a f => hf (i + 1) m v (by simpa using e1) (by simpa using e2) a f)
theorem Mid.freezeAll {ms : List MV} {vs : List V} (a : Mid K F H r σ q r1 F1 H1) (o : OwnAll K F1 H1 ms vs) (fr : FrA r σ H q r1 ms vs) (t : ms.any MV.temp = false) :
    ∃ F3, Ex F1 F3 ∧ Mid K F H r σ q r1 F3 H1 ∧ RepAll K F3 (ms.map MV.fz) vs := by
  refine ⟨frozen F1 H1 ms vs, frozen_ex o, a.freeze (frozen_ex o) (frozen_le a.wd.ex) fun x hx => ?_, repAll_frozen (frozen_ex o) o t fun i m v e1 e2 y f => frozen_in e1 e2 f⟩
  by_cases h : ∃ (i : Nat) (m : MV) (v : V), ms[i]? = some m ∧ vs[i]? = some v ∧ Foot m v x
  · obtain ⟨i, m, v, e1, e2, f⟩ := h
    exact .inr (fr i m v e1 e2 x f)
  · unfold frozen at hx
    rw [if_neg h] at hx
    exact .inl hx
theorem VP.freeze (a : VP K F H r σ q m r1 v F1 H1) (t : m.temp = false) : ∃ F3, Ex F1 F3 ∧ Mid K F H r σ q r1 F3 H1 ∧ Rep K F3 m.fz v := by
  obtain ⟨F3, e, M3, h⟩ := a.mid.freezeAll (ms := [m]) (vs := [v]) (.cons a.own .nil) (fun i m' v' e1 e2 => by
    cases i with
    | zero => simp at e1 e2; subst e1 e2; exact a.fr
    | succ i => simp at e1) (by simp [t])
  cases h with
  | cons h1 h2 => exact ⟨F3, e, M3, h1⟩
theorem repAll_tmp {ms : List MV} {vs : List V} (e : Ex F H) (o : OwnAll K F H ms vs) : RepAll K H (ms.map MV.fz) vs := by
  induction o with
  | nil => exact .nil
  | cons h1 _ ih => exact .cons (h1.rep e) ih
theorem OwnAll.step {ms : List MV} {vs : List V} {P : Addr → Prop} (o : OwnAll K F H ms vs) (s : Stp F H P F2 H2) (ht : ms.any MV.temp = true → ∀ a, ¬ P a) (hf : ∀ (i : Nat) (m : MV) (v : V), ms[i]? = some m → vs[i]? = some v → ∀ a, Foot m v a → ¬ P a) : OwnAll K F2 H2 ms vs := by
  induction o with
  | nil => exact .nil
  | cons h1 _ ih =>
    refine .cons (h1.step s (fun t => ht (by simp [t])) fun a f => hf 0 _ _ rfl rfl a f) (ih (fun t => ht (by simp [List.any_cons, t])) fun i m v e1 e2 => hf (i + 1) m v (by simpa using e1) (by simpa using e2))
theorem slot_some {i : Nat} (h : slot r i ≠ .no) : r[i]? = some (slot r i) := by
  unfold slot at *
  cases e : r[i]? with
  | none => simp [e] at h
  | some m => simp [e]
theorem Wd.slotAt {i : Nat} (w : Wd K F H r σ) (h : slot r i ≠ .no) : ∃ v, σ[i]? = some (some v) ∧ Own K F H (slot r i) v := w.at_ i _ (slot_some h) h
theorem get_set_inv {r : Env} {i j : Nat} {m m' : MV} (e : (r.set i m)[j]? = some m') : (i = j ∧ m' = m ∧ i < r.length) ∨ (i ≠ j ∧ r[j]? = some m') := by
  by_cases h : i = j
  · subst h
    by_cases hl : i < r.length
    · rw [List.getElem?_set_self hl] at e
      exact .inl ⟨rfl, (Option.some.inj e).symm, hl⟩
    · rw [List.getElem?_eq_none (by simpa using hl)] at e
      cases e
  · rw [List.getElem?_set_ne h] at e
    exact .inr ⟨h, e⟩
theorem Wd.forget {i : Nat} (w : Wd K F H r σ) : Wd K F H (r.set i .no) σ where
  ex := w.ex
  len := by rw [List.length_set]; exact w.len
  nt := fun j m e => by
    rcases get_set_inv e with ⟨_, z, _⟩ | ⟨_, z⟩
    · subst z; rfl
    · exact w.nt j m z
  at_ := fun j m e n => by
    rcases get_set_inv e with ⟨_, z, _⟩ | ⟨_, z⟩
    · exact absurd z n
    · exact w.at_ j m z n
  sep := fun j k m n v u a e1 e2 f e3 e4 g => by
    rcases get_set_inv e1 with ⟨_, z, _⟩ | ⟨_, z⟩
    · subst z; exact f.elim
    · rcases get_set_inv e3 with ⟨_, z', _⟩ | ⟨_, z'⟩
      · subst z'; exact g.elim
      · exact w.sep j k m n v u a z e2 f z' e4 g
theorem Has.forget {i : Nat} {a : Addr} (h : Has (r.set i .no) σ a) : Has r σ a := by
  obtain ⟨j, m, v, e1, e2, f⟩ := h
  rcases get_set_inv e1 with ⟨_, z, _⟩ | ⟨_, z⟩
  · subst z; exact f.elim
  · exact ⟨j, m, v, z, e2, f⟩
theorem Wd.take {i : Nat} (w : Wd K F H r σ) (h : (slot r i).own = true) : ∃ v, σ[i]? = some (some v) ∧ VP K F H r σ false (slot r i) (r.set i .no) v F H := by
  have hn : slot r i ≠ .no := fun z => by rw [z] at h; cases h
  obtain ⟨v, e, o⟩ := w.slotAt hn
  refine ⟨v, e, ⟨w.forget, Stp.refl, fun a z => .inl z.forget⟩, o, fun a f => ⟨.inl ⟨rfl, i, _, v, slot_some hn, e, f⟩, fun z => ?_⟩⟩
  obtain ⟨j, m, u, e1, e2, g⟩ := z
  rcases get_set_inv e1 with ⟨_, z, _⟩ | ⟨hne, z⟩
  · subst z; exact g.elim
  · exact hne (w.sep i j _ m v u a (slot_some hn) e f z e2 g)
theorem Mid.change {i : Nat} {v : V} {a : Addr} {m' : MV} {o : HO} (M1 : Mid K F H r σ q r1 F1 H1) (hq : q = false) (e : σ[i]? = some (some v)) (f : Foot (slot r1 i) v a) (f' : ∀ b, Foot m' v b → b = a) (nt : m'.temp = false)
    (ow : Own K F1 (upd H1 a o) m' v) : Mid K F H r σ q (r1.set i m') F1 (upd H1 a o) := by
  have hn : slot r1 i ≠ .no := fun z => by rw [z] at f; exact f
  have hs := slot_some hn
  have ha : Has r1 σ a := ⟨i, _, v, hs, e, f⟩
  obtain ⟨h1, h0⟩ := M1.wd.has ha
  refine ⟨⟨M1.wd.ex.right h0, by rw [List.length_set]; exact M1.wd.len, fun j m e1 => ?_, fun j m e1 n => ?_, fun j k m n u w b e1 e2 g e3 e4 g' => ?_⟩, ?_, fun b hb => ?_⟩
  · rcases get_set_inv e1 with ⟨_, z, _⟩ | ⟨_, z⟩
    · subst z; exact nt
    · exact M1.wd.nt j m z
  · rcases get_set_inv e1 with ⟨z0, z, _⟩ | ⟨hne, z⟩
    · subst z z0; exact ⟨v, e, ow⟩
    · obtain ⟨u, e2, o2⟩ := M1.wd.at_ j m z n
      have nta := M1.wd.nt j m z
      refine ⟨u, e2, o2.step (P := fun b => b = a) ⟨Ex.refl F1, fun b w nb hb => by rw [upd_ne nb]; exact hb, fun b hb => ?_, fun b hb => .inl hb⟩ (fun t => by rw [nta] at t; cases t) fun b g z2 => ?_⟩
      · by_cases z3 : b = a
        · subst z3; rw [upd_same]; exact fun w => nomatch w
        · rw [upd_ne z3]; exact hb
      · subst z2
        exact hne (M1.wd.sep i j _ m v u b hs e f z e2 g)
  · rcases get_set_inv e1 with ⟨z0, z, _⟩ | ⟨hne, z⟩
    · rcases get_set_inv e3 with ⟨z0', z', _⟩ | ⟨hne', z'⟩
      · rw [← z0, ← z0']
      · subst z z0
        rw [e] at e2; cases e2
        have := f' b g
        subst this
        exact M1.wd.sep i k _ n v w b hs e f z' e4 g'
    · rcases get_set_inv e3 with ⟨z0', z', _⟩ | ⟨hne', z'⟩
      · subst z' z0'
        rw [e] at e4; cases e4
        have := f' b g'
        subst this
        exact M1.wd.sep j i m _ u v b z e2 g hs e f
      · exact M1.wd.sep j k m n u w b z e2 g z' e4 g'
  · refine M1.st.trans (P1 := fun b => b = a) ⟨Ex.refl F1, fun b w nb hb => by rw [upd_ne nb]; exact hb, fun b hb => ?_, fun b hb => .inl hb⟩ (fun _ h => h) fun b hb => ?_
    · by_cases z3 : b = a
      · subst z3; rw [upd_same]; exact fun w => nomatch w
      · rw [upd_ne z3]; exact hb
    · subst hb
      exact (M1.old b ha).imp (fun z => ⟨hq, z⟩) id
  · obtain ⟨j, m, u, e1, e2, g⟩ := hb
    rcases get_set_inv e1 with ⟨z0, z, _⟩ | ⟨hne, z⟩
    · subst z z0
      rw [e] at e2; cases e2
      rw [f' b g]
      exact M1.old a ha
    · exact M1.old b ⟨j, m, u, z, e2, g⟩
end
end M
set_option Elab.async false
set_option linter.all false
set_option maxRecDepth 100000
set_option maxHeartbeats 1000000
set_option autoImplicit false
namespace M
open PySem PySem.Spec PyProof.Rows L2
inductive ArgF (K : PySem.W.Frag) (F : Hp) (σ : L2.St) : CAs → List MV → List V → Prop
  | nil : ArgF K F σ .nil [] []
  | val {e : CE} {es : CAs} {m : MV} {ms : List MV} {v : V} {vs : List V} : Rep K F m.fz v → ArgF K F σ es ms vs → ArgF K F σ (.val e es) (m :: ms) (v :: vs)
  | ref {i : Nat} {es : CAs} {ms : List MV} {v : V} {vs : List V} : σ[i]? = some (some v) → ArgF K F σ es ms vs → ArgF K F σ (.ref i es) ms (v :: vs)
def refAt : CAs → Nat → Option Nat
  | .nil, _ => none
  | .val _ _, 0 => none
  | .val _ es, p + 1 => refAt es p
  | .ref i _, 0 => some i
  | .ref _ es, p + 1 => refAt es p
theorem refAt_mem : ∀ {es : CAs} {p i : Nat}, refAt es p = some i → i ∈ refsOf es
  | .nil, _, _, h => by cases h
  | .val _ _, 0, _, h => by cases h
  | .val _ es, p + 1, _, h => by unfold refsOf; exact refAt_mem (p := p) h
  | .ref i _, 0, _, h => by cases h; unfold refsOf; exact List.mem_cons_self
  | .ref _ es, p + 1, _, h => by unfold refsOf; exact List.mem_cons_of_mem _ (refAt_mem (p := p) h)
theorem refAt_inj : ∀ {es : CAs} {p p' i : Nat}, (refsOf es).Nodup → refAt es p = some i → refAt es p' = some i → p = p'
  | .nil, _, _, _, _, h, _ => by cases h
  | .val _ _, 0, _, _, _, h, _ => by cases h
  | .val _ _, _ + 1, 0, _, _, _, h => by cases h
  | .val _ es, p + 1, p' + 1, i, n, h, h' => by
    unfold refsOf at n
    exact congrArg Nat.succ (refAt_inj (es := es) n h h')
  | .ref _ _, 0, 0, _, _, _, _ => rfl
  | .ref j es, 0, p' + 1, i, n, h, h' => by
    unfold refsOf at n
    cases h
    exact absurd (refAt_mem (es := es) (p := p') h') (List.nodup_cons.mp n).1
  | .ref j es, p + 1, 0, i, n, h, h' => by
    unfold refsOf at n
    cases h'
    exact absurd (refAt_mem (es := es) (p := p) h) (List.nodup_cons.mp n).1
  | .ref _ es, p + 1, p' + 1, i, n, h, h' => by
    unfold refsOf at n
    exact congrArg Nat.succ (refAt_inj (es := es) (List.nodup_cons.mp n).2 h h')
section
variable {K : PySem.W.Frag} {ER : EK} {F H F1 H1 F2 H2 F3 : Hp} {r r1 r2 : Env} {σ : L2.St} {q : Bool} {es : CAs} {ms args args' : List MV} {vs : List V}
theorem ArgF.mono (a : ArgF K F σ es ms vs) (e : Ex F F1) : ArgF K F1 σ es ms vs := by
  induction a with
  | nil => exact .nil
  | val h _ ih => exact .val (h.mono e) ih
  | ref h _ ih => exact .ref h ih
theorem args_len : ∀ {es : CAs} {ms args : List MV} {vs : List V}, ArgF K F σ es ms vs → argsOf r es ms = some args → args.length = vs.length := by
  intro es ms args vs a
  induction a generalizing args with
  | nil => intro e; cases e; rfl
  | val h a ih =>
    rename_i e0 es m ms v vs
    intro e
    cases z : argsOf r es ms with
    | none => simp [argsOf, z] at e
    | some l => simp [argsOf, z] at e; subst e; simp [ih z]
  | ref h a ih =>
    rename_i i es ms v vs
    intro e
    cases z : argsOf r es ms with
    | none => simp [argsOf, z] at e
    | some l =>
      simp [argsOf, z] at e
      obtain ⟨_, e⟩ := e
      subst e; simp [ih z]
theorem args_at : ∀ {es : CAs} {ms args : List MV} {vs : List V}, ArgF K F σ es ms vs → argsOf r es ms = some args → ∀ {p : Nat} {m : MV} {v : V}, args[p]? = some m → vs[p]? = some v →
    (refAt es p = none ∧ ∃ d, m = .dat d ∧ Rep K F d v) ∨ ∃ i, refAt es p = some i ∧ m = slot r i ∧ (slot r i).own = true ∧ σ[i]? = some (some v) := by
  intro es ms args vs a
  induction a generalizing args with
  | nil => intro e p m v e1; cases e; simp at e1
  | val h a ih =>
    rename_i e0 es m0 ms v0 vs
    intro e p m v e1 e2
    cases z : argsOf r es ms with
    | none => simp [argsOf, z] at e
    | some l =>
      simp [argsOf, z] at e
      subst e
      cases p with
      | zero => simp at e1 e2; subst e1 e2; exact .inl ⟨rfl, _, rfl, h⟩
      | succ p => exact ih z (p := p) (by simpa using e1) (by simpa using e2)
  | ref h a ih =>
    rename_i i es ms v0 vs
    intro e p m v e1 e2
    cases z : argsOf r es ms with
    | none => simp [argsOf, z] at e
    | some l =>
      simp [argsOf, z] at e
      obtain ⟨ho, e⟩ := e
      subst e
      cases p with
      | zero => simp at e1 e2; subst e1 e2; exact .inr ⟨i, rfl, rfl, ho, h⟩
      | succ p => exact ih z (p := p) (by simpa using e1) (by simpa using e2)
theorem map_some_get {vs : List V} {p : Nat} {v : V} : (vs.map some)[p]? = some (some v) ↔ vs[p]? = some v := by
  rw [List.getElem?_map]
  cases vs[p]? <;> simp
theorem args_wd (w : Wd K F H r σ) (nd : (refsOf es).Nodup) (a : ArgF K F σ es ms vs) (e : argsOf r es ms = some args) : Wd K F H args (vs.map some) where
  ex := w.ex
  len := by rw [List.length_map]; exact args_len a e
  nt := fun p m e1 => by
    have hp : p < vs.length := by
      rw [← args_len a e]
      exact (List.getElem?_eq_some_iff.mp e1).1
    obtain ⟨v, e2⟩ : ∃ v, vs[p]? = some v := ⟨vs[p], List.getElem?_eq_getElem hp⟩
    rcases args_at a e e1 e2 with ⟨_, d, rfl, _⟩ | ⟨i, _, rfl, ho, _⟩
    · rfl
    · cases z : slot r i <;> rw [z] at ho <;> first | rfl | cases ho
  at_ := fun p m e1 _ => by
    have hp : p < vs.length := by
      rw [← args_len a e]
      exact (List.getElem?_eq_some_iff.mp e1).1
    obtain ⟨v, e2⟩ : ∃ v, vs[p]? = some v := ⟨vs[p], List.getElem?_eq_getElem hp⟩
    refine ⟨v, map_some_get.mpr e2, ?_⟩
    rcases args_at a e e1 e2 with ⟨_, d, rfl, h⟩ | ⟨i, _, rfl, ho, e3⟩
    · exact h
    · have hn : slot r i ≠ .no := fun z => by rw [z] at ho; cases ho
      obtain ⟨u, e4, o⟩ := w.slotAt hn
      rw [e3] at e4; cases e4
      exact o
  sep := fun p p' m n v u b e1 e2 f e3 e4 g => by
    rcases args_at a e e1 (map_some_get.mp e2) with ⟨_, d, rfl, h⟩ | ⟨i, z1, rfl, ho, e5⟩
    · exact f.elim
    · rcases args_at a e e3 (map_some_get.mp e4) with ⟨_, d, rfl, h⟩ | ⟨j, z2, rfl, ho', e6⟩
      · exact g.elim
      · have hn : slot r i ≠ .no := fun z => by rw [z] at ho; cases ho
        have hn' : slot r j ≠ .no := fun z => by rw [z] at ho'; cases ho'
        have := w.sep i j _ _ v u b (slot_some hn) e5 f (slot_some hn') e6 g
        subst this
        exact refAt_inj nd z1 z2
theorem args_has (a : ArgF K F σ es ms vs) (e : argsOf r es ms = some args) {b : Addr} (h : Has args (vs.map some) b) : ∃ p i v, refAt es p = some i ∧ r[i]? = some (slot r i) ∧ σ[i]? = some (some v) ∧ Foot (slot r i) v b := by
  obtain ⟨p, m, v, e1, e2, f⟩ := h
  rcases args_at a e e1 (map_some_get.mp e2) with ⟨_, d, rfl, _⟩ | ⟨i, z1, rfl, ho, e5⟩
  · exact f.elim
  · have hn : slot r i ≠ .no := fun z => by rw [z] at ho; cases ho
    exact ⟨p, i, v, z1, slot_some hn, e5, f⟩
theorem backIn_len : ∀ {es : CAs} {r : Env} {ms : List MV}, (backIn r es ms).length = r.length
  | .nil, _, _ => by unfold backIn; rfl
  | .val _ _, _, [] => by unfold backIn; rfl
  | .val _ es, r, m :: ms => by unfold backIn; exact backIn_len (es := es)
  | .ref _ _, _, [] => by unfold backIn; rfl
  | .ref i es, r, m :: ms => by unfold backIn; rw [backIn_len (es := es), List.length_set]
theorem backIn_out : ∀ {es : CAs} {r : Env} {ms : List MV} {j : Nat}, j ∉ refsOf es → (backIn r es ms)[j]? = r[j]?
  | .nil, _, _, _, _ => by unfold backIn; rfl
  | .val _ _, _, [], _, _ => by unfold backIn; rfl
  | .val _ es, r, m :: ms, j, h => by unfold backIn; unfold refsOf at h; exact backIn_out (es := es) h
  | .ref _ _, _, [], _, _ => by unfold backIn; rfl
  | .ref i es, r, m :: ms, j, h => by
    unfold backIn
    unfold refsOf at h
    rw [backIn_out (es := es) fun z => h (List.mem_cons_of_mem _ z), List.getElem?_set_ne fun z => h (by subst z; exact List.mem_cons_self)]
theorem backIn_at : ∀ {es : CAs} {r : Env} {ms : List MV} {p j : Nat} {m : MV}, (refsOf es).Nodup → refAt es p = some j → ms[p]? = some m → j < r.length → (backIn r es ms)[j]? = some m
  | .nil, _, _, _, _, _, _, h, _, _ => by cases h
  | .val _ _, _, [], _, _, _, _, _, h, _ => by simp at h
  | .val _ _, _, _ :: _, 0, _, _, _, h, _, _ => by cases h
  | .val _ es, r, _ :: ms, p + 1, j, m, n, h1, h2, h3 => by
    unfold backIn
    unfold refsOf at n
    exact backIn_at (es := es) (p := p) n h1 (by simpa using h2) h3
  | .ref _ _, _, [], _, _, _, _, _, h, _ => by simp at h
  | .ref i es, r, m0 :: ms, 0, j, m, n, h1, h2, h3 => by
    unfold backIn
    unfold refsOf at n
    cases h1
    simp at h2
    subst h2
    rw [backIn_out (es := es) (List.nodup_cons.mp n).1, List.getElem?_set_self h3]
  | .ref i es, r, m0 :: ms, p + 1, j, m, n, h1, h2, h3 => by
    unfold backIn
    unfold refsOf at n
    exact backIn_at (es := es) (p := p) (List.nodup_cons.mp n).2 h1 (by simpa using h2) (by rw [List.length_set]; exact h3)
theorem backIn_inv {j : Nat} {m : MV} (w : Wd K F H r σ) (nd : (refsOf es).Nodup) (a : ArgF K F σ es ms vs) (e : argsOf r es ms = some args) (hl : args'.length = args.length) (h : (backIn r es args')[j]? = some m) :
    (j ∉ refsOf es ∧ r[j]? = some m) ∨ ∃ p v, refAt es p = some j ∧ args'[p]? = some m ∧ vs[p]? = some v ∧ σ[j]? = some (some v) := by
  by_cases hj : j ∈ refsOf es
  · right
    have fnd : ∀ {es : CAs} {ms : List MV} {vs : List V}, ArgF K F σ es ms vs → j ∈ refsOf es → ∃ p v, refAt es p = some j ∧ vs[p]? = some v ∧ σ[j]? = some (some v) := by
      intro es ms vs a
      induction a with
      | nil => intro h; unfold refsOf at h; cases h
      | val h a ih =>
        intro z
        unfold refsOf at z
        obtain ⟨p, v, z1, z2, z3⟩ := ih z
        exact ⟨p + 1, v, z1, by simpa using z2, z3⟩
      | ref h a ih =>
        rename_i i es ms v vs
        intro z
        unfold refsOf at z
        by_cases hij : j = i
        · subst hij; exact ⟨0, v, rfl, rfl, h⟩
        · obtain ⟨p, v, z1, z2, z3⟩ := ih ((List.mem_cons.mp z).resolve_left hij)
          exact ⟨p + 1, v, z1, by simpa using z2, z3⟩
    obtain ⟨p, v, z1, z2, z3⟩ := fnd a hj
    have hp : p < args'.length := by
      rw [hl, args_len a e]
      exact (List.getElem?_eq_some_iff.mp z2).1
    have hjr : j < r.length := by
      rw [w.len]
      exact (List.getElem?_eq_some_iff.mp z3).1
    have z4 := backIn_at (r := r) nd z1 (List.getElem?_eq_getElem hp) hjr
    rw [h] at z4
    cases z4
    exact ⟨p, v, z1, List.getElem?_eq_getElem hp, z2, z3⟩
  · left
    rw [backIn_out hj] at h
    exact ⟨hj, h⟩
theorem call_mid (w : Wd K F H r σ) (nd : (refsOf es).Nodup) (a : ArgF K F σ es ms vs) (e : argsOf r es ms = some args) (M1 : Mid K F H args (vs.map some) false args' F2 H2) : Mid K F H r σ (refsOf es).isEmpty (backIn r es args') F2 H2 := by
  have hl : args'.length = args.length := by
    have h1 := M1.wd.len
    have h2 := args_len a e
    rw [List.length_map] at h1
    omega
  have hh : ∀ {b : Addr}, Has args (vs.map some) b → ∃ i ∈ refsOf es, ∃ v, r[i]? = some (slot r i) ∧ σ[i]? = some (some v) ∧ Foot (slot r i) v b := fun h => by
    obtain ⟨p, i, v, z1, z2, z3, z4⟩ := args_has a e h
    exact ⟨i, refAt_mem z1, v, z2, z3, z4⟩
  have noP : ∀ {j : Nat} {m : MV} {v : V} {b : Addr}, j ∉ refsOf es → r[j]? = some m → σ[j]? = some (some v) → Foot m v b → ¬ Has args (vs.map some) b := fun hj e1 e2 f h => by
    obtain ⟨i, hi, v, z2, z3, z4⟩ := hh h
    have := w.sep _ _ _ _ _ _ _ e1 e2 f z2 z3 z4
    subst this
    exact hj hi
  refine ⟨⟨M1.wd.ex, by rw [backIn_len]; exact w.len, fun j m e1 => ?_, fun j m e1 n => ?_, fun j k m n v u b e1 e2 f e3 e4 g => ?_⟩, M1.st.mono fun b ⟨_, h⟩ => ?_, fun b h => ?_⟩
  · rcases backIn_inv w nd a e hl e1 with ⟨_, z⟩ | ⟨p, v, _, z, _⟩
    · exact w.nt j m z
    · exact M1.wd.nt p m z
  · rcases backIn_inv w nd a e hl e1 with ⟨hj, z⟩ | ⟨p, v, z1, z2, z3, z4⟩
    · obtain ⟨v, e2, o⟩ := w.at_ j m z n
      have nta := w.nt j m z
      exact ⟨v, e2, o.step M1.st (fun t => by rw [nta] at t; cases t) fun b f z5 => noP hj z e2 f z5.2⟩
    · obtain ⟨u, e5, o⟩ := M1.wd.at_ p m z2 n
      rw [map_some_get.mpr z3] at e5
      cases e5
      exact ⟨v, z4, o⟩
  · rcases backIn_inv w nd a e hl e1 with ⟨hj, z⟩ | ⟨p, v1, z1, z2, z3, z4⟩
    · rcases backIn_inv w nd a e hl e3 with ⟨hk, z'⟩ | ⟨p', v2, z1', z2', z3', z4'⟩
      · exact w.sep j k m n v u b z e2 f z' e4 g
      · rw [e4] at z4'; cases z4'
        rcases M1.old b ⟨p', n, u, z2', map_some_get.mpr z3', g⟩ with y | y
        · exact absurd y (noP hj z e2 f)
        · exact absurd y (w.has ⟨j, m, v, z, e2, f⟩).1
    · rw [e2] at z4; cases z4
      rcases backIn_inv w nd a e hl e3 with ⟨hk, z'⟩ | ⟨p', v2, z1', z2', z3', z4'⟩
      · rcases M1.old b ⟨p, m, v, z2, map_some_get.mpr z3, f⟩ with y | y
        · exact absurd y (noP hk z' e4 g)
        · exact absurd y (w.has ⟨k, n, u, z', e4, g⟩).1
      · rw [e4] at z4'; cases z4'
        have := M1.wd.sep p p' m n v u b z2 (map_some_get.mpr z3) f z2' (map_some_get.mpr z3') g
        subst this
        rw [z1] at z1'
        exact Option.some.inj z1'
  · obtain ⟨i, hi, v, z2, z3, z4⟩ := hh h
    refine ⟨?_, i, _, v, z2, z3, z4⟩
    cases hr : refsOf es with
    | nil => rw [hr] at hi; cases hi
    | cons _ _ => rfl
  · obtain ⟨j, m, v, e1, e2, f⟩ := h
    rcases backIn_inv w nd a e hl e1 with ⟨_, z⟩ | ⟨p, u, z1, z2, z3, z4⟩
    · exact .inl ⟨j, m, v, z, e2, f⟩
    · rw [e2] at z4; cases z4
      rcases M1.old b ⟨p, m, v, z2, map_some_get.mpr z3, f⟩ with y | y
      · obtain ⟨i, hi, v, z2, z3, z4⟩ := hh y
        exact .inl ⟨i, _, v, z2, z3, z4⟩
      · exact .inr y
theorem call_val {m : MV} {v : V} (w : Wd K F H r σ) (nd : (refsOf es).Nodup) (a : ArgF K F σ es ms vs) (e : argsOf r es ms = some args) (V1 : VP K F H args (vs.map some) false m args' v F2 H2) : VP K F H r σ (refsOf es).isEmpty m (backIn r es args') v F2 H2 := by
  have M2 := call_mid w nd a e V1.mid
  have hl : args'.length = args.length := by
    have h1 := V1.mid.wd.len
    have h2 := args_len a e
    rw [List.length_map] at h1
    omega
  refine ⟨M2, V1.own, fun b f => ?_⟩
  have h0 := V1.fr b f
  have hh : Has args (vs.map some) b → ∃ i ∈ refsOf es, ∃ v, r[i]? = some (slot r i) ∧ σ[i]? = some (some v) ∧ Foot (slot r i) v b := fun h => by
    obtain ⟨p, i, v, z1, z2, z3, z4⟩ := args_has a e h
    exact ⟨i, refAt_mem z1, v, z2, z3, z4⟩
  refine ⟨?_, fun h => ?_⟩
  · rcases h0.1 with ⟨_, z⟩ | z
    · obtain ⟨i, hi, v, z2, z3, z4⟩ := hh z
      refine .inl ⟨?_, i, _, v, z2, z3, z4⟩
      cases hr : refsOf es with
      | nil => rw [hr] at hi; cases hi
      | cons _ _ => rfl
    · exact .inr z
  · obtain ⟨j, n, u, e1, e2, g⟩ := h
    rcases backIn_inv w nd a e hl e1 with ⟨hj, z⟩ | ⟨p, u', z1, z2, z3, z4⟩
    · rcases h0.1 with ⟨_, y⟩ | y
      · obtain ⟨i, hi, v, z2, z3, z4⟩ := hh y
        have := w.sep _ _ _ _ _ _ _ z e2 g z2 z3 z4
        subst this
        exact hj hi
      · exact absurd y (w.has ⟨j, n, u, z, e2, g⟩).1
    · rw [e2] at z4; cases z4
      exact h0.2 ⟨p, n, u, z2, map_some_get.mpr z3, g⟩
theorem call_tmp (w : Wd K F H r σ) (hn : ∀ b, ¬ Has args (vs.map some) b) (M1 : Mid K H H args (vs.map some) false args' F2 H2) : Mid K F H r σ true r F H2 := by
  have eh : Ex H H2 := fun b o h => M1.st.keep b o (fun z => hn b z.2) h
  have st : Stp F H (fun _ => False) F H2 := ⟨Ex.refl F, fun b o _ h => eh b o h, M1.st.there, fun _ h => .inl h⟩
  refine ⟨⟨w.ex.trans eh, w.len, w.nt, fun j m e1 n => ?_, w.sep⟩, st.mono fun b h => h.elim, fun b h => .inl h⟩
  obtain ⟨v, e2, o⟩ := w.at_ j m e1 n
  exact ⟨v, e2, o.step st (fun _ _ z => z) fun _ _ z => z⟩
end
def SpF (K : PySem.W.Frag) (ER : EK) (n : Nat) (f : List MV → Option (Except Exc MV × List MV)) : Sp := fun vs H Q E =>
  vs.length = n ∧ ∃ F args o args', Wd K F H args (vs.map some) ∧ f args = some (o, args') ∧ Sat K ER E F H args (vs.map some) false o args' Q
structure FnG (P : Program) (w : World) (K : PySem.W.Frag) (mg : Str → Option Value) (base : Heap) (k : Nat) (f : Addr) (fd : FuncData) (ps : List Str) (sp : Sp) : Prop where
  len : ∀ vs H Q E, sp vs H Q E → vs.length = ps.length
  run : ∀ (A : Around) (outer : List PySem.Env) (s : Shared) (H : Hp) (args : Args) (us : List Value) (vs : List V) (Q : VK) (E : XK), Room k A → A.guards = some [] → Env0 P w K mg base A outer s H →
    BindsTo s fd args (ps.zip us) → Vals vs us → sp vs H Q E → codeAny (model P w) A (.call (.ref f) args) (CR (CX P w) outer P w H s Q E) s
section
variable {X : Cx} {k : Nat} {f : Addr} {fd : FuncData} {ps ks : List Str} {sp : Sp} {x : Str} {p pos : Pos} {e : Expr} {es : List Expr} {t tk : TA} {E : L2.St → XK}
theorem run_G {pins : List (Addr × Obj)} {σ : L2.St} {H : Hp} {s : Shared} {Q : VK} {us : List Value} {vs : List V} {args : Args} (G : FnG X.prog X.w X.K X.mg X.base k f fd ps sp) (hr : Room k X.A) (hg : X.A.guards = some []) (hb : BindsTo s fd args (ps.zip us))
    (hx : PassesAt (L2.CX X.prog X.w) X σ (E σ)) (I : L2.Inv X pins σ H s) (r : Vals vs us) (h : sp vs H Q (E σ)) : codeAny (model X.prog X.w) X.A (.call (.ref f) args) (fun rr s' => match rr with
      | .ok (.ret u) => EP X pins σ Q u s'
      | .ok _ => False
      | .error e => X.xe e s') s := by
  refine codeAny_mono (G.run X.A X.stack s H args us vs Q (E σ) hr hg I.env0 hb r h) fun rr s' hq => ?_
  cases rr with
  | error e => exact hx pins H s e s' I hq
  | ok fl =>
    cases fl with
    | ret u => exact I.after hq
    | next => exact False.elim hq
    | brk => exact False.elim hq
    | cont => exact False.elim hq
def tCallG (sp : Sp) (E : L2.St → XK) (t : TA) : TE := fun σ H Q => t σ H fun vs H1 => sp vs H1 Q (E σ)
theorem pe_callG (G : FnG X.prog X.w X.K X.mg X.base k f fd ps sp) (hr : Room k X.A) (hg : X.A.guards = some []) (hgl : Gl X x) (hm : X.mg x = some (.ref f)) (hk : PySem.W.keepIn X.K (.ref f) = true) (hb : Binds X.K fd ps []) (hx : ∀ σ, PassesAt (L2.CX X.prog X.w) X σ (E σ))
    (ha : PA X (e :: es) t) (hdb : (x == ("__debug__" : Str)) = false) (he : starEach (e :: es) X.env = (false, eval e X.env) :: starEach es X.env) (hpl : (backTo pos (starEach es X.env)).any (·.1) = false) : PE X (.Call (.Name x p) (e :: es) [] pos) (tCallG sp E t) := by
  refine ⟨fun pins s σ H Q I h => ?_⟩
  refine wpAny_Call_Name_kw (ld_glob I hgl hm ?_ hdb)
  refine PySem.W.callWith_K (h₀ := X.base) I.ok.mod.kin hk (thn (ha.run pos pins s σ H _ I h) fun us s1 ⟨vs, H1, I1, rv, hs⟩ => ⟨I1.kIn, ?_⟩) he hpl
  have hl : (us ++ []).length = ps.length := by rw [List.append_nil, ← rv.length]; exact G.len _ _ _ _ hs
  have hbb := hb s1 us I1.kIn hl
  rw [List.append_nil] at hbb
  refine wpAny_call (codeAny_mono (run_G G hr hg hbb (hx σ) I1 rv hs) fun rr s' hq => ?_)
  cases rr with
  | error e => exact hq
  | ok fl => cases fl <;> first | exact hq | exact hq.elim
theorem pe_callG0 (G : FnG X.prog X.w X.K X.mg X.base k f fd ps sp) (hr : Room k X.A) (hg : X.A.guards = some []) (hgl : Gl X x) (hm : X.mg x = some (.ref f)) (hk : PySem.W.keepIn X.K (.ref f) = true) (hb : Binds X.K fd ps []) (hx : ∀ σ, PassesAt (L2.CX X.prog X.w) X σ (E σ))
    (hdb : (x == ("__debug__" : Str)) = false) : PE X (.Call (.Name x p) [] [] pos) (tCallG sp E tNil) := by
  refine ⟨fun pins s σ H Q I h => ?_⟩
  refine wpAny_Call_Name_kw (ld_glob I hgl hm ?_ hdb)
  have hs : sp [] H Q (E σ) := h
  have hl : (([] : List Value) ++ []).length = ps.length := by rw [List.append_nil, ← G.len _ _ _ _ hs]; rfl
  have hbb := hb s [] I.kIn hl
  rw [List.append_nil] at hbb
  refine PySem.W.callWith_K0 I.kIn hk (wpAny_call (codeAny_mono (run_G G hr hg hbb (hx σ) I .nil hs) fun rr s' hq => ?_))
  cases rr with
  | error e => exact hq
  | ok fl => cases fl <;> first | exact hq | exact hq.elim
def tCallGK (sp : Sp) (gV : List V → List V → List V) (E : L2.St → XK) (t tk : TA) : TE := fun σ H Q => t σ H fun vs H1 => tk σ H1 fun zs H2 => sp (gV vs zs) H2 Q (E σ)
end
end M
set_option Elab.async false
set_option linter.all false
set_option maxRecDepth 100000
set_option maxHeartbeats 1000000
set_option autoImplicit false
namespace M
open PySem PySem.Spec PyProof.Rows L2
def KwB (K : PySem.W.Frag) (fd : FuncData) (ps : List Str) (n : Nat) (ks : List Str) (perm : List Nat) : Prop :=
  ∀ (s : Shared) (us ws : List Value), K.In s.heap → us.length = n → (us ++ ws).length = n + ks.length → BindsTo s fd ⟨us, ks.zip ws⟩ (ps.zip (perm.map fun i => (us ++ ws).getD i .none))
structure Good (T : Tab) (call : Call) (glob : Nat → Option D) (ER : EK) (S : Sc) (X : Cx) (W : WX) : Prop where
  N : X.N = S.N
  nd : X.N.Nodup
  sc : X.env.scope = S.sc
  calm : X.calm = true
  guards : X.A.guards = some []
  units : X.A.units + 68 < cLine
  free : ∀ x ∈ bltNames, X.mg x = none
  glb : ∀ x g d, T.gl.lookup x = some g → glob g = some d → ∃ u v, X.mg x = some u ∧ RelV v u ∧ ∀ F, Rep X.K F d v
  fns : ∃ k, Room k X.A ∧ ∀ x f, T.fn.lookup x = some f → ∃ a fd ps, X.mg x = some (.ref a) ∧ PySem.W.keepIn X.K (.ref a) = true ∧ FnG X.prog X.w X.K X.mg X.base k a fd ps (SpF X.K ER ps.length (call f)) ∧
    Binds X.K fd ps [] ∧ (∀ args z, call f args = some z → args.length = ps.length) ∧ ∀ n ks perm, (f, n, ks, perm) ∈ T.kw → perm.length = ps.length ∧ (∀ i ∈ perm, i < n + ks.length) ∧ KwB X.K fd ps n ks perm
  pas : ∀ σ, PassesAt (L2.CX X.prog X.w) X σ (WE W σ)
  ers : ∀ x cls d F H F', ER x cls d F H → x.fs.all D.scal = true → ER x cls d F' H
section
variable {X : Cx} {S : Sc} {x : Str} {i : Nat}
theorem odd_inv (h : oddB x = false) : (x == ("__debug__" : Str)) = false ∧ (x == ("__classdict__" : Str)) = false ∧ x ≠ ("__name__" : Str) := by
  unfold oddB at h
  simp only [Bool.or_eq_false_iff] at h
  exact ⟨h.1.1, h.1.2, fun z => by rw [z] at h; simp at h⟩
theorem isN_inv (hN : X.N = S.N) (hs : X.env.scope = S.sc) (h : isN S i x = true) : X.N[i]? = some x ∧ Vis X.env.scope x ∧ (x == ("__debug__" : Str)) = false ∧ (x == ("__classdict__" : Str)) = false := by
  unfold isN at h
  simp only [Bool.and_eq_true, beq_iff_eq, Bool.not_eq_true'] at h
  obtain ⟨⟨h1, h2⟩, h3⟩ := h
  obtain ⟨d1, d2, _⟩ := odd_inv h3
  refine ⟨by rw [hN]; exact h1, ?_, d1, d2⟩
  rw [hs]
  unfold visB at h2
  unfold Vis
  split at h2 <;> simp_all
theorem isG_inv (hs : X.env.scope = S.sc) (h : isG S x = true) : Gl X x ∧ (x == ("__debug__" : Str)) = false ∧ x ≠ ("__name__" : Str) := by
  unfold isG at h
  simp only [Bool.and_eq_true, Bool.not_eq_true'] at h
  obtain ⟨h2, h3⟩ := h
  obtain ⟨d1, d2, d3⟩ := odd_inv h3
  refine ⟨?_, d1, d3⟩
  show X.env.scope.names.lookup x = _
  rw [hs]
  unfold glB at h2
  split at h2 <;> simp_all
theorem star_cons {e : Expr} {es : List Expr} {env : PySem.Env} (h : notStar e = true) : starEach (e :: es) env = (false, eval e env) :: starEach es env := by
  cases e <;> first | rfl | cases h
theorem star_none {es : List Expr} {env : PySem.Env} {pos : Pos} (h : es.all notStar = true) : (backTo pos (starEach es env)).any (·.1) = false := by
  induction es with
  | nil => rfl
  | cons e t ih =>
    simp only [List.all_cons, Bool.and_eq_true] at h
    rw [star_cons h.1]
    show (false || (backTo pos (starEach t env)).any (·.1)) = false
    rw [ih h.2]
    rfl
theorem star_all {es : List Expr} {env : PySem.Env} {pos : Pos} (h : es.all notStar = true) : (backTo pos (starEach es env)).all (fun x => !x.1) = true := by
  induction es with
  | nil => rfl
  | cons e t ih =>
    simp only [List.all_cons, Bool.and_eq_true] at h
    rw [star_cons h.1]
    show (!false && (backTo pos (starEach t env)).all (fun x => !x.1)) = true
    rw [ih h.2]
    rfl
theorem base_of {o : Expr} {attr : Str} {env : PySem.Env} {w : Sem Value} (h : notCall0 o = true) : attributeBase o attr env w = w := by
  unfold attributeBase
  split
  · cases h
  · rfl
theorem plain_ix {b : Expr} (h : notSlice b = true) : PlainIx b := fun o i => by
  cases b <;> first | rfl | cases h
end
def SatL (K : PySem.W.Frag) (ER : EK) (W : XK) (F H : Hp) (r : Env) (σ : L2.St) (q : Bool) (o : Except Exc (List MV)) (r' : Env) (Q : List V → Hp → Prop) : Prop :=
  match o with
  | .ok ms => ∀ vs F' H', Mid K F H r σ q r' F' H' → OwnAll K F' H' ms vs → FrA r σ H q r' ms vs → Q vs H'
  | .error x => ∀ cls d F' H', XP K ER F H r σ q x r' cls d F' H' → W cls d H'
inductive ArgR (K : PySem.W.Frag) (F H : Hp) (σ : L2.St) : CAs → List MV → List V → List V → Prop
  | nil : ArgR K F H σ .nil [] [] []
  | val {e : CE} {es : CAs} {m : MV} {ms : List MV} {v : V} {ws vs : List V} : Own K F H m v → ArgR K F H σ es ms ws vs → ArgR K F H σ (.val e es) (m :: ms) (v :: ws) (v :: vs)
  | ref {i : Nat} {es : CAs} {ms : List MV} {v : V} {ws vs : List V} : σ[i]? = some (some v) → ArgR K F H σ es ms ws vs → ArgR K F H σ (.ref i es) ms ws (v :: vs)
def SatA (K : PySem.W.Frag) (ER : EK) (W : XK) (F H : Hp) (r : Env) (σ : L2.St) (es : CAs) (o : Except Exc (List MV)) (r' : Env) (Q : List V → Hp → Prop) : Prop :=
  match o with
  | .ok ms => ∀ ws vs F' H', Mid K F H r σ es.quiet r' F' H' → ArgR K F' H' σ es ms ws vs → FrA r σ H es.quiet r' ms ws → Q vs H'
  | .error x => ∀ cls d F' H', XP K ER F H r σ es.quiet x r' cls d F' H' → W cls d H'
def SatM {α : Type} (K : PySem.W.Frag) (ER : EK) (W : XK) (F H : Hp) (r : Env) (σ : L2.St) (q : Bool) (o : Except Exc α) (r' : Env) (Q : α → Hp → Prop) : Prop :=
  match o with
  | .ok a => ∀ F' H', Mid K F H r σ q r' F' H' → Q a H'
  | .error x => ∀ cls d F' H', XP K ER F H r σ q x r' cls d F' H' → W cls d H'
def SatT (K : PySem.W.Frag) (ER : EK) (W : XK) (F H : Hp) (r : Env) (σ : L2.St) (q : Bool) (o : Except Exc MV) (r' : Env) (Q : Bool → Hp → Prop) : Prop :=
  match o with
  | .ok m => ∃ k, truth m.fz = some k ∧ ∀ F' H', Mid K F H r σ q r' F' H' → Q k H'
  | .error x => ∀ cls d F' H', XP K ER F H r σ q x r' cls d F' H' → W cls d H'
def ItR (K : PySem.W.Frag) (J : It) (ds : List D) (F : Hp) : Prop := ∀ (i : Nat) (F' H' : Hp), Ex F F' → Ex F' H' →
  (∀ d, ds[i]? = some d → J.go i H' ∧ ∀ x H'', J.yld i H' x H'' → ∃ F'', Ex F' F'' ∧ Ex F'' H'' ∧ Ex H' H'' ∧ (∀ a, F'' a ≠ none → F' a ≠ none ∨ H' a = none) ∧ Rep K F'' d x) ∧ (i = ds.length → J.stop i H')
def SatI (K : PySem.W.Frag) (ER : EK) (W : XK) (F H : Hp) (r : Env) (σ : L2.St) (q : Bool) (o : Except Exc (List D)) (r' : Env) (R : It → Hp → Prop) : Prop :=
  match o with
  | .ok ds => ds.length ≤ sizeLine → ∀ J F' H', Mid K F H r σ q r' F' H' → ItR K J ds F' → R J H'
  | .error x => ∀ cls d F' H', XP K ER F H r σ q x r' cls d F' H' → W cls d H'
section
variable {K : PySem.W.Frag} {ER : EK} {W : XK} {F H F1 H1 F2 H2 : Hp} {r r1 r2 : Env} {σ : L2.St} {q q1 q2 : Bool} {m : MV} {v : V} {x : Exc}
theorem XP.after {cls : Value} {d : Option Addr} (a : Mid K F H r σ q1 r1 F1 H1) (b : XP K ER F1 H1 r1 σ q2 x r2 cls d F2 H2) : XP K ER F H r σ (q1 && q2) x r2 cls d F2 H2 := ⟨a.trans b.mid, b.exc⟩
theorem XP.flag {cls : Value} {d : Option Addr} (b : XP K ER F H r σ q1 x r2 cls d F2 H2) (f : q1 = false → q = false) : XP K ER F H r σ q x r2 cls d F2 H2 := ⟨b.mid.flag f, b.exc⟩
theorem SatM.after {α : Type} {o : Except Exc α} {Q : α → Hp → Prop} (a : Mid K F H r σ q1 r1 F1 H1) (h : SatM K ER W F H r σ (q1 && q2) o r2 Q) : SatM K ER W F1 H1 r1 σ q2 o r2 Q := by
  cases o with
  | ok m => exact fun F' H' V => h F' H' (a.trans V)
  | error x => exact fun cls d F' H' X => h cls d F' H' (X.after a)
theorem SatT.after {o : Except Exc MV} {Q : Bool → Hp → Prop} (a : Mid K F H r σ q1 r1 F1 H1) (h : SatT K ER W F H r σ (q1 && q2) o r2 Q) : SatT K ER W F1 H1 r1 σ q2 o r2 Q := by
  cases o with
  | ok m => obtain ⟨k, e, h⟩ := h; exact ⟨k, e, fun F' H' V => h F' H' (a.trans V)⟩
  | error x => exact fun cls d F' H' X => h cls d F' H' (X.after a)
end
section
variable (T : Tab) (call : Call) (glob : Nat → Option D) (ER : EK)
def ClE (c : CE) : Prop := ∀ (S : Sc) (X : Cx) (W : WX) (e : Expr), Good T call glob ER S X W → okE T S c e = true → ∀ r o r' F H σ Q, evalE call glob c r = some (o, r') → Wd X.K F H r σ → Sat X.K ER (WE W σ) F H r σ c.quiet o r' Q → UE X e σ H Q
def ClT (c : CE) : Prop := ∀ (S : Sc) (X : Cx) (W : WX) (e : Expr), Good T call glob ER S X W → okE T S c e = true → ∀ r o r' F H σ Q, evalE call glob c r = some (o, r') → Wd X.K F H r σ → SatT X.K ER (WE W σ) F H r σ c.quiet o r' Q → UT X e σ H Q
def ClEs (c : CEs) : Prop := ∀ (S : Sc) (X : Cx) (W : WX) (es : List Expr), Good T call glob ER S X W → okEs T S c es = true → ∀ r o r' F H σ Q, evalEs call glob c r = some (o, r') → Wd X.K F H r σ → SatL X.K ER (WE W σ) F H r σ c.quiet o r' Q → UA X es σ H Q
def UK (X : Cx) (kws : List Keyword) : TA := fun σ H Q => ∃ t, PK X kws t ∧ t σ H Q
theorem pk_U {X : Cx} {kws : List Keyword} : PK X kws (UK X kws) := ⟨fun pos pins s σ H Q I ⟨t, h, q⟩ => h.run pos pins s σ H Q I q⟩
def ClAs (c : CAs) : Prop := ∀ (S : Sc) (X : Cx) (W : WX) (es : List Expr) (kws : List Keyword), Good T call glob ER S X W → okAs T S c (es ++ kws.map Keyword.value) = true → ∀ r o r' F H σ (L : Nat → Prop) Q, evalAs call glob c r = some (o, r') → Wd X.K F H r σ →
  SatA X.K ER (WE W σ) F H r σ c o r' Q → L es.length → UA X es σ H fun us H1 => L us.length ∧ UK X kws σ H1 fun zs H2 => Q (us ++ zs) H2
def ClO (c : CO) : Prop := ∀ (S : Sc) (X : Cx) (W : WX) (e : Option Expr), Good T call glob ER S X W → okO T S c e = true → ∀ r o r' F H σ Q, evalO call glob c r = some (o, r') → Wd X.K F H r σ → SatM X.K ER (WE W σ) F H r σ c.quiet o r' Q → UO X e σ H Q
def ClIf (c : CO) : Prop := ∀ (S : Sc) (X : Cx) (W : WX) (es : List Expr), Good T call glob ER S X W → okIf T S c es = true → ∀ r o r' F H σ Q, evalC call glob c r = some (o, r') → Wd X.K F H r σ → SatM X.K ER (WE W σ) F H r σ c.quiet o r' Q → UTs X es σ H Q
def ClI (c : CI) : Prop := ∀ (S : Sc) (X : Cx) (W : WX) (tg e : Expr), Good T call glob ER S X W → okI T S c tg e = true → ∀ r o r' F H σ R, evalI call glob c r = some (o, r') → Wd X.K F H r σ → SatI X.K ER (WE W σ) F H r σ c.quiet o r' R → UI X tg e σ H R
variable {T call glob ER}
theorem cl_var (i : Nat) : ClE T call glob ER (.var i) := by
  intro S X W e G hok r o r' F H σ Q h w s
  cases e <;> simp only [okE, Bool.false_eq_true] at hok
  rename_i x p
  obtain ⟨h1, h2, h3, h4⟩ := isN_inv G.N G.sc hok
  obtain ⟨m, hm, rfl, hr⟩ := lift_inv (by simpa only [evalE] using h)
  subst hr
  have hn : slot r' i ≠ .no := fun z => by rw [z] at hm; cases hm
  obtain ⟨v, e1, ow⟩ := w.slotAt hn
  have M1 := Mid.refl (q := true) w
  refine ⟨_, pe_var h1 h2 h3 h4, v, e1, s v F H ?_⟩
  have nt := w.nt i _ (slot_some hn)
  cases hs : slot r' i with
  | no => exact absurd hs hn
  | dat d => rw [hs] at hm ow; cases hm; exact (M1.dat ow).flag fun z => z
  | tmp d => rw [hs] at nt; cases nt
  | blst d => rw [hs] at nt; cases nt
  | bdic d => rw [hs] at nt; cases nt
  | lst xs =>
    rw [hs] at hm ow; cases hm
    obtain ⟨a, vs, rfl, h1, h0, h2, h3⟩ := ow
    exact ⟨M1, ⟨a, vs, rfl, h1, h2, h3⟩, fun _ f => f.elim⟩
  | dic xs =>
    rw [hs] at hm ow; cases hm
    obtain ⟨a, vs, rfl, h1, h0, h3⟩ := ow
    exact ⟨M1, ⟨a, vs, rfl, h1, h3⟩, fun _ f => f.elim⟩
theorem cl_take (i : Nat) : ClE T call glob ER (.take i) := by
  intro S X W e G hok r o r' F H σ Q h w s
  cases e <;> simp only [okE, Bool.false_eq_true] at hok
  rename_i x p
  obtain ⟨h1, h2, h3, h4⟩ := isN_inv G.N G.sc hok
  simp only [evalE] at h
  have key : ∀ m, slot r i = m → m.own = true → some (Except.ok m, r.set i .no) = some (o, r') → UE X (.Name x p) σ H Q := fun m e1 e2 e3 => by
    cases e3
    obtain ⟨v, e4, V⟩ := w.take (i := i) (by rw [e1]; exact e2)
    rw [e1] at V
    exact ⟨_, pe_var h1 h2 h3 h4, v, e4, s v F H V⟩
  split at h
  · rename_i xs e1; exact key _ e1 rfl h
  · rename_i xs e1; exact key _ e1 rfl h
  · cases h
theorem okC_pe {X : Cx} {d : D} {c : Const} {j : Nat} {p : Pos} (h : okC d c = true) (F : Hp) : ∃ v, PE X (.Constant c j p) (tC v) ∧ Rep X.K F d v := by
  cases d <;> cases c <;> simp only [okC, Bool.false_eq_true, beq_iff_eq] at h
  · exact ⟨_, pe_non, .non⟩
  · subst h; exact ⟨_, pe_bl, .bl _⟩
  · subst h; exact ⟨_, pe_int, .int _⟩
  · subst h; exact ⟨_, pe_str, .str _⟩
theorem cl_con (d : D) : ClE T call glob ER (.con d) := by
  intro S X W e G hok r o r' F H σ Q h w s
  cases e <;> simp only [okE, Bool.false_eq_true] at hok
  obtain ⟨v, h1, h2⟩ := okC_pe (X := X) hok F
  simp only [evalE] at h
  cases h
  exact ⟨_, h1, s v F H ((Mid.refl w).dat h2)⟩
theorem cl_glo (g : Nat) : ClE T call glob ER (.glo g) := by
  intro S X W e G hok r o r' F H σ Q h w s
  cases e <;> simp only [okE, Bool.false_eq_true, Bool.and_eq_true, beq_iff_eq] at hok
  obtain ⟨h1, h2, h3⟩ := isG_inv G.sc hok.1
  obtain ⟨m, hm, rfl, rfl⟩ := lift_inv (by simpa only [evalE] using h)
  cases hd : glob g with
  | none => rw [hd] at hm; cases hm
  | some d =>
    rw [hd] at hm
    cases hm
    obtain ⟨u, v, e1, e2, e3⟩ := G.glb _ g d hok.2 hd
    exact ⟨_, pe_glob h1 e1 e2 h2, s v F H ((Mid.refl w).dat (e3 F))⟩
theorem cl_bin (o : Bop) {a b : CE} (ha : ClE T call glob ER a) (hb : ClE T call glob ER b) : ClE T call glob ER (.bin o a b) := by
  intro S X W e G hok r ou r' F H σ Q h w s
  cases e <;> simp only [okE, Bool.false_eq_true, Bool.and_eq_true, decide_eq_true_eq] at hok
  rename_i ex op ey p
  obtain ⟨⟨rfl, k1⟩, k2⟩ := hok
  simp only [evalE] at h
  refine ⟨_, pe_op op_U pe_U pe_U, ?_⟩
  rcases bind_inv h with ⟨x, h1, rfl⟩ | ⟨x, r1, h1, h⟩
  · exact ha S X W ex G k1 _ _ _ F H σ _ h1 w (s.err andF1)
  refine ha S X W ex G k1 _ _ _ F H σ _ h1 w fun v F1 H1 V1 => ?_
  rcases bind_inv h with ⟨y, h2, rfl⟩ | ⟨y, r2, h2, h⟩
  · exact hb S X W ey G k2 _ _ _ F1 H1 σ _ h2 V1.mid.wd ((s.err (Q' := fun _ _ => True) fun z => z).after V1.mid |>.err fun z => z)
  refine hb S X W ey G k2 _ _ _ F1 H1 σ _ h2 V1.mid.wd fun u F2 H2 V2 => ?_
  split at h
  · cases h
  · rename_i ht
    obtain ⟨m, hm, rfl, rfl⟩ := lift_inv h
    exact bin_ok o (V1.mid.trans V2.mid) (V1.thru V2.mid (Bool.eq_false_iff.mpr ht)) V2.own hm s
end
end M
set_option Elab.async false
set_option linter.all false
set_option maxRecDepth 100000
set_option maxHeartbeats 1000000
set_option autoImplicit false
namespace M
open PySem PySem.Spec PyProof.Rows L2
section
variable {T : Tab} {call : Call} {glob : Nat → Option D} {ER : EK}
theorem two_ok {S : Sc} {X : Cx} {W : WX} {a b : CE} {ex ey : Expr} (ha : ClE T call glob ER a) (hb : ClE T call glob ER b) (G : Good T call glob ER S X W) (k1 : okE T S a ex = true) (k2 : okE T S b ey = true) {α : Type} {f : MV → MV → Option α}
    {r r' : Env} {o : Except Exc α} {F H : Hp} {σ : L2.St} {RR : V → V → Hp → Prop} (h : (M.R.bind (evalE call glob a r) fun x r1 => M.R.bind (evalE call glob b r1) fun y r2 => if x.temp && !b.quiet then none else lift (f x y) r2) = some (o, r')) (w : Wd X.K F H r σ)
    (he : ∀ x, o = .error x → ∀ cls d F' H', XP X.K ER F H r σ (a.quiet && b.quiet) x r' cls d F' H' → W cls d σ H')
    (hv : ∀ z, o = .ok z → ∀ x y v u F' H', Mid X.K F H r σ (a.quiet && b.quiet) r' F' H' → Own X.K F' H' x v → Own X.K F' H' y u → f x y = some z → RR v u H') : UE X ex σ H fun v H1 => UE X ey σ H1 fun u H2 => RR v u H2 := by
  rcases bind_inv h with ⟨x, h1, rfl⟩ | ⟨x, r1, h1, h⟩
  · exact ha S X W ex G k1 _ _ _ F H σ _ h1 w fun cls d F' H' XX => he x rfl cls d F' H' (XX.flag andF1)
  refine ha S X W ex G k1 _ _ _ F H σ _ h1 w fun v F1 H1 V1 => ?_
  rcases bind_inv h with ⟨y, h2, rfl⟩ | ⟨y, r2, h2, h⟩
  · exact hb S X W ey G k2 _ _ _ F1 H1 σ _ h2 V1.mid.wd fun cls d F' H' XX => he y rfl cls d F' H' (XX.after V1.mid)
  refine hb S X W ey G k2 _ _ _ F1 H1 σ _ h2 V1.mid.wd fun u F2 H2 V2 => ?_
  split at h
  · cases h
  · rename_i ht
    obtain ⟨z, hz, rfl, hr⟩ := lift_inv h
    subst hr
    exact hv z rfl x y v u F2 H2 (V1.mid.trans V2.mid) (V1.thru V2.mid (Bool.eq_false_iff.mpr ht)) V2.own hz
theorem cl_cmp (o : Cop) {a b : CE} (ha : ClE T call glob ER a) (hb : ClE T call glob ER b) : ClE T call glob ER (.cmp o a b) := by
  intro S X W e G hok r ou r' F H σ Q h w s
  cases e <;> try (simp only [okE, Bool.false_eq_true] at hok; done)
  rename_i ex ops cs p
  match ops, cs, hok with
  | [op], [ey], hok =>
    simp only [okE, Bool.and_eq_true, decide_eq_true_eq, Bool.not_eq_true'] at hok
    obtain ⟨⟨⟨rfl, k1⟩, k2⟩, k3⟩ := hok
    simp only [evalE] at h
    refine ⟨_, pe_cmpR op_U pe_U pe_U k3, ?_⟩
    refine two_ok ha hb G k1 k2 (RR := fun v u H2 => UOp X (compareOp (cmpOf o)) v u H2 Q) h w (fun x e => by subst e; exact s) fun z e x y v u F' H' M2 ox oy hz => ?_
    subst e
    cases hk : cmp o x.fz y.fz with
    | none => rw [hk] at hz; cases hz
    | some k =>
      rw [hk] at hz
      cases hz
      have hu := G.units
      exact cmp_ok o (by omega) (ox.rep M2.wd.ex) (oy.rep M2.wd.ex) hk (s _ _ _ (M2.dat (.bl k)))
theorem ct_cmp (o : Cop) {a b : CE} (ha : ClE T call glob ER a) (hb : ClE T call glob ER b) : ClT T call glob ER (.cmp o a b) := by
  intro S X W e G hok r ou r' F H σ Q h w s
  cases e <;> try (simp only [okE, Bool.false_eq_true] at hok; done)
  rename_i ex ops cs p
  match ops, cs, hok with
  | [op], [ey], hok =>
    simp only [okE, Bool.and_eq_true, decide_eq_true_eq, Bool.not_eq_true'] at hok
    obtain ⟨⟨⟨rfl, k1⟩, k2⟩, k3⟩ := hok
    simp only [evalE] at h
    refine ⟨_, pt_cmpR op_U pe_U pe_U k3, ?_⟩
    refine two_ok ha hb G k1 k2 (RR := fun v u H2 => UOp X (compareOp (cmpOf o)) v u H2 fun x H' => ∃ k, x = .bl k ∧ Q k H') h w (fun x e => by subst e; exact s) fun z e x y v u F' H' M2 ox oy hz => ?_
    subst e
    cases hk : cmp o x.fz y.fz with
    | none => rw [hk] at hz; cases hz
    | some k =>
      rw [hk] at hz
      cases hz
      obtain ⟨k', e', s⟩ := s
      cases e'
      have hu := G.units
      exact cmp_ok o (by omega) (ox.rep M2.wd.ex) (oy.rep M2.wd.ex) hk ⟨k, rfl, s _ _ M2⟩
theorem chn_ok (o p : Cop) {a b c : CE} (ha : ClE T call glob ER a) (hb : ClE T call glob ER b) (hc : ClE T call glob ER c) {S : Sc} {X : Cx} {W : WX} {ex ey ez : Expr} (G : Good T call glob ER S X W) (k1 : okE T S a ex = true) (k2 : okE T S b ey = true) (k3 : okE T S c ez = true)
    {r r' : Env} {ou : Except Exc MV} {F H : Hp} {σ : L2.St} {Q : VK} (h : evalE call glob (.chn o p a b c) r = some (ou, r')) (w : Wd X.K F H r σ)
    (he : ∀ x, ou = .error x → ∀ cls d F' H', XP X.K ER F H r σ (CE.chn o p a b c).quiet x r' cls d F' H' → W cls d σ H')
    (hv : ∀ z, ou = .ok z → ∃ k, z = .dat (.bl k) ∧ ∀ F' H', Mid X.K F H r σ (CE.chn o p a b c).quiet r' F' H' → Q (.bl k) H') : tChain (UOp X (compareOp (cmpOf o))) (UOp X (compareOp (cmpOf p))) (UE X ex) (UE X ey) (UE X ez) σ H Q := by
  have hu := G.units
  simp only [evalE] at h
  simp only [CE.quiet] at he hv
  show UE X ex σ H fun v H1 => UE X ey σ H1 fun u H2 => _
  rcases bind_inv h with ⟨x, h1, rfl⟩ | ⟨x, r1, h1, h⟩
  · exact ha S X W ex G k1 _ _ _ F H σ _ h1 w fun cls d F' H' XX => he x rfl cls d F' H' (XX.flag fun z => by simp [z])
  refine ha S X W ex G k1 _ _ _ F H σ _ h1 w fun v F1 H1 V1 => ?_
  rcases bind_inv h with ⟨y, h2, rfl⟩ | ⟨y, r2, h2, h⟩
  · exact hb S X W ey G k2 _ _ _ F1 H1 σ _ h2 V1.mid.wd fun cls d F' H' XX => he y rfl cls d F' H' ((XX.after V1.mid).flag fun z => by rw [z]; rfl)
  refine hb S X W ey G k2 _ _ _ F1 H1 σ _ h2 V1.mid.wd fun u F2 H2 V2 => ?_
  have M2 := V1.mid.trans V2.mid
  split at h
  · cases h
  rename_i ht
  have ox := V1.thru V2.mid (Bool.eq_false_iff.mpr ht)
  split at h
  · cases h
  · rename_i hk
    obtain ⟨rfl, hr⟩ := ret_inv h
    subst hr
    refine cmp_ok o (by omega) (ox.rep M2.wd.ex) (V2.own.rep M2.wd.ex) hk ⟨false, rfl, ?_⟩
    rw [if_neg Bool.false_ne_true]
    obtain ⟨k, e, hv⟩ := hv _ rfl
    cases e
    exact hv _ _ (M2.flag fun z => by rw [z]; rfl)
  · rename_i hk
    refine cmp_ok o (by omega) (ox.rep M2.wd.ex) (V2.own.rep M2.wd.ex) hk ⟨true, rfl, ?_⟩
    rw [if_pos rfl]
    rcases bind_inv h with ⟨z, h3, rfl⟩ | ⟨z, r3, h3, h⟩
    · exact hc S X W ez G k3 _ _ _ F2 H2 σ _ h3 M2.wd fun cls d F' H' XX => he z rfl cls d F' H' ((XX.after M2).flag fun z => z)
    refine hc S X W ez G k3 _ _ _ F2 H2 σ _ h3 M2.wd fun t F3 H3 V3 => ?_
    split at h
    · cases h
    rename_i ht2
    obtain ⟨q, hq, rfl, hr⟩ := lift_inv h
    subst hr
    have oy := V2.thru V3.mid (Bool.eq_false_iff.mpr ht2)
    have M3 := M2.trans V3.mid
    cases hk2 : cmp p y.fz z.fz with
    | none => rw [hk2] at hq; cases hq
    | some k =>
      rw [hk2] at hq
      cases hq
      obtain ⟨k', e, hv⟩ := hv _ rfl
      cases e
      exact cmp_ok p (by omega) (oy.rep M3.wd.ex) (V3.own.rep M3.wd.ex) hk2 (hv _ _ M3)
theorem cl_chn (o p : Cop) {a b c : CE} (ha : ClE T call glob ER a) (hb : ClE T call glob ER b) (hc : ClE T call glob ER c) : ClE T call glob ER (.chn o p a b c) := by
  intro S X W e G hok r ou r' F H σ Q h w s
  cases e <;> try (simp only [okE, Bool.false_eq_true] at hok; done)
  rename_i ex ops cs ps
  match ops, cs, hok with
  | [op, op'], [ey, ez], hok =>
    simp only [okE, Bool.and_eq_true, decide_eq_true_eq, Bool.not_eq_true'] at hok
    obtain ⟨⟨⟨⟨⟨rfl, rfl⟩, k1⟩, k2⟩, k3⟩, k4⟩ := hok
    refine ⟨_, pe_chain op_U op_U pe_U pe_U pe_U k4, chn_ok o p ha hb hc G k1 k2 k3 h w (fun x e => by subst e; exact s) fun z e => ?_⟩
    subst e
    have key : ∃ k, z = .dat (.bl k) := by
      simp only [evalE] at h
      rcases bind_inv h with ⟨x, h1, e⟩ | ⟨x, r1, h1, h⟩
      · cases e
      rcases bind_inv h with ⟨x, h1, e⟩ | ⟨y, r2, h1, h⟩
      · cases e
      split at h
      · cases h
      split at h
      · cases h
      · exact ⟨false, by cases (ret_inv h).1; rfl⟩
      · rcases bind_inv h with ⟨x, h1, e⟩ | ⟨y', r3, h1, h⟩
        · cases e
        split at h
        · cases h
        obtain ⟨q, hq, e, _⟩ := lift_inv h
        cases e
        cases hk2 : cmp p y.fz y'.fz with
        | none => rw [hk2] at hq; cases hq
        | some k => rw [hk2] at hq; cases hq; exact ⟨k, rfl⟩
    obtain ⟨k, rfl⟩ := key
    exact ⟨k, rfl, fun F' H' M => s _ _ _ (M.dat (.bl k))⟩
theorem ct_chn (o p : Cop) {a b c : CE} (ha : ClE T call glob ER a) (hb : ClE T call glob ER b) (hc : ClE T call glob ER c) : ClT T call glob ER (.chn o p a b c) := by
  intro S X W e G hok r ou r' F H σ Q h w s
  cases e <;> try (simp only [okE, Bool.false_eq_true] at hok; done)
  rename_i ex ops cs ps
  match ops, cs, hok with
  | [op, op'], [ey, ez], hok =>
    simp only [okE, Bool.and_eq_true, decide_eq_true_eq, Bool.not_eq_true'] at hok
    obtain ⟨⟨⟨⟨⟨rfl, rfl⟩, k1⟩, k2⟩, k3⟩, k4⟩ := hok
    refine ⟨_, pt_chain op_U op_U pe_U pe_U pe_U k4, ?_⟩
    refine chn_ok o p ha hb hc G k1 k2 k3 (Q := fun x H' => ∃ k, x = .bl k ∧ Q k H') h w (fun x e => by subst e; exact s) fun z e => ?_
    subst e
    obtain ⟨k, ek, s⟩ := s
    have key : ∃ k, z = .dat (.bl k) := by
      simp only [evalE] at h
      rcases bind_inv h with ⟨x, h1, e⟩ | ⟨x, r1, h1, h⟩
      · cases e
      rcases bind_inv h with ⟨x, h1, e⟩ | ⟨y, r2, h1, h⟩
      · cases e
      split at h
      · cases h
      split at h
      · cases h
      · exact ⟨false, by cases (ret_inv h).1; rfl⟩
      · rcases bind_inv h with ⟨x, h1, e⟩ | ⟨y', r3, h1, h⟩
        · cases e
        split at h
        · cases h
        obtain ⟨q, hq, e, _⟩ := lift_inv h
        cases e
        cases hk2 : cmp p y.fz y'.fz with
        | none => rw [hk2] at hq; cases hq
        | some k => rw [hk2] at hq; cases hq; exact ⟨k, rfl⟩
    obtain ⟨k', rfl⟩ := key
    cases ek
    exact ⟨k, rfl, fun F' H' M => ⟨k, rfl, s _ _ M⟩⟩
theorem cl_una (o : Uop) {a : CE} (ha : ClE T call glob ER a) : ClE T call glob ER (.una o a) := by
  intro S X W e G hok r ou r' F H σ Q h w s
  cases o with
  | neg =>
    cases e <;> try (simp only [okE, Bool.false_eq_true] at hok; done)
    rename_i op ex p
    cases op <;> try (simp only [okE, Bool.false_eq_true] at hok; done)
    simp only [okE] at hok
    simp only [evalE] at h
    refine ⟨_, pe_un un_neg pe_U, ?_⟩
    rcases bind_inv h with ⟨x, h1, rfl⟩ | ⟨x, r1, h1, h⟩
    · exact ha S X W ex G hok _ _ _ F H σ _ h1 w (s.err fun z => z)
    refine ha S X W ex G hok _ _ _ F H σ _ h1 w fun v F1 H1 V1 => ?_
    obtain ⟨m, hm, rfl, hr⟩ := lift_inv h
    subst hr
    unfold una at hm
    split at hm
    · rename_i i e1 e2
      cases hm
      cases int_of V1.mid e2 V1.own
      exact ⟨i, rfl, s _ _ _ (V1.mid.dat (.int _))⟩
    · rename_i hh; cases hh
    · cases hm
  | not =>
    cases e <;> try (simp only [okE, Bool.false_eq_true] at hok; done)
    rename_i op ex p
    cases op <;> try (simp only [okE, Bool.false_eq_true] at hok; done)
    simp only [okE] at hok
    simp only [evalE] at h
    refine ⟨_, pe_notT pe_U, ?_⟩
    rcases bind_inv h with ⟨x, h1, rfl⟩ | ⟨x, r1, h1, h⟩
    · exact ha S X W ex G hok _ _ _ F H σ _ h1 w (s.err fun z => z)
    refine ha S X W ex G hok _ _ _ F H σ _ h1 w fun v F1 H1 V1 => ?_
    obtain ⟨m, hm, rfl, hr⟩ := lift_inv h
    subst hr
    have hm2 : (truth x.fz).map (fun b => MV.dat (.bl (!b))) = some m := by
      unfold una at hm
      exact hm
    cases hk : truth x.fz with
    | none => rw [hk] at hm2; cases hm2
    | some k =>
      rw [hk] at hm2
      cases hm2
      exact ⟨k, truth_ok (V1.own.rep V1.mid.wd.ex) hk, s _ _ _ (V1.mid.dat (.bl _))⟩
theorem ct_not {a : CE} (ha : ClT T call glob ER a) : ClT T call glob ER (.una .not a) := by
  intro S X W e G hok r ou r' F H σ Q h w s
  cases e <;> try (simp only [okE, Bool.false_eq_true] at hok; done)
  rename_i op ex p
  cases op <;> try (simp only [okE, Bool.false_eq_true] at hok; done)
  simp only [okE] at hok
  simp only [evalE] at h
  refine ⟨_, pt_not pt_U, ?_⟩
  rcases bind_inv h with ⟨x, h1, rfl⟩ | ⟨x, r1, h1, h⟩
  · exact ha S X W ex G hok _ _ _ F H σ _ h1 w s
  obtain ⟨m, hm, rfl, hr⟩ := lift_inv h
  subst hr
  have hm2 : (truth x.fz).map (fun b => MV.dat (.bl (!b))) = some m := by
    unfold una at hm
    exact hm
  cases hk : truth x.fz with
  | none => rw [hk] at hm2; cases hm2
  | some k =>
    rw [hk] at hm2
    cases hm2
    obtain ⟨k', e', s⟩ := s
    cases e'
    exact ha S X W ex G hok _ _ _ F H σ _ h1 w ⟨k, hk, fun F' H' M => s F' H' M⟩
theorem bool_rest {X : Cx} {op : BoolOp} {y : Expr} {p : Pos} {σ : L2.St} {H : Hp} {Q : VK} (h : UE X y σ H Q) : UE X (.BoolOp op [y] p) σ H Q := by
  obtain ⟨t, h1, h2⟩ := h
  exact ⟨t, pe_one h1, h2⟩
theorem pw_of {X : Cx} {op : BoolOp} {vs : List Expr} {p : Pos} {t : TT} (h : PT X (.BoolOp op vs p) t) : PW X (.BoolOp op vs p) t := ⟨fun wh pins s σ H Q I hq => by
  have z : PySem.isTrue (.BoolOp op vs p) X.env wh = PySem.isTrue (.BoolOp op vs p) X.env (eval (.BoolOp op vs p) X.env) := by
    unfold PySem.isTrue
    rfl
  rw [z]
  exact h.run pins s σ H Q I hq⟩
theorem and_ok {S : Sc} {X : Cx} {W : WX} {a : CE} {ex : Expr} (ha : ClE T call glob ER a) (G : Good T call glob ER S X W) (k1 : okE T S a ex = true) {b : CE} {r r' : Env} {o : Except Exc MV} {F H : Hp} {σ : L2.St} {Q : VK} {tb : TE}
    (h : evalE call glob (.and a b) r = some (o, r')) (w : Wd X.K F H r σ) (s : Sat X.K ER (WE W σ) F H r σ (a.quiet && b.quiet) o r' Q)
    (hb : ∀ r1 F1 H1, evalE call glob b r1 = some (o, r') → Wd X.K F1 H1 r1 σ → Sat X.K ER (WE W σ) F1 H1 r1 σ b.quiet o r' Q → tb σ H1 Q) : tAndT X.K (UE X ex) tb σ H Q := by
  simp only [evalE] at h
  show UE X ex σ H fun x H1 => _
  rcases bind_inv h with ⟨x, h1, rfl⟩ | ⟨x, r1, h1, h⟩
  · exact ha S X W ex G k1 _ _ _ F H σ _ h1 w (s.err andF1)
  refine ha S X W ex G k1 _ _ _ F H σ _ h1 w fun v F1 H1 V1 => ?_
  split at h
  · cases h
  · rename_i hk
    refine ⟨true, truth_ok (V1.own.rep V1.mid.wd.ex) hk, ?_⟩
    rw [if_pos rfl]
    exact hb r1 F1 H1 h V1.mid.wd (s.after V1.mid)
  · rename_i hk
    refine ⟨false, truth_ok (V1.own.rep V1.mid.wd.ex) hk, ?_⟩
    rw [if_neg Bool.false_ne_true]
    obtain ⟨rfl, hr⟩ := ret_inv h
    subst hr
    exact s _ _ _ (V1.flag andF1)
theorem or_ok {S : Sc} {X : Cx} {W : WX} {a : CE} {ex : Expr} (ha : ClE T call glob ER a) (G : Good T call glob ER S X W) (k1 : okE T S a ex = true) {b : CE} {r r' : Env} {o : Except Exc MV} {F H : Hp} {σ : L2.St} {Q : VK} {tb : TE}
    (h : evalE call glob (.or a b) r = some (o, r')) (w : Wd X.K F H r σ) (s : Sat X.K ER (WE W σ) F H r σ (a.quiet && b.quiet) o r' Q)
    (hb : ∀ r1 F1 H1, evalE call glob b r1 = some (o, r') → Wd X.K F1 H1 r1 σ → Sat X.K ER (WE W σ) F1 H1 r1 σ b.quiet o r' Q → tb σ H1 Q) : tOrT X.K (UE X ex) tb σ H Q := by
  simp only [evalE] at h
  show UE X ex σ H fun x H1 => _
  rcases bind_inv h with ⟨x, h1, rfl⟩ | ⟨x, r1, h1, h⟩
  · exact ha S X W ex G k1 _ _ _ F H σ _ h1 w (s.err andF1)
  refine ha S X W ex G k1 _ _ _ F H σ _ h1 w fun v F1 H1 V1 => ?_
  split at h
  · cases h
  · rename_i hk
    refine ⟨true, truth_ok (V1.own.rep V1.mid.wd.ex) hk, ?_⟩
    rw [if_pos rfl]
    obtain ⟨rfl, hr⟩ := ret_inv h
    subst hr
    exact s _ _ _ (V1.flag andF1)
  · rename_i hk
    refine ⟨false, truth_ok (V1.own.rep V1.mid.wd.ex) hk, ?_⟩
    rw [if_neg Bool.false_ne_true]
    exact hb r1 F1 H1 h V1.mid.wd (s.after V1.mid)
theorem cl_and {a b : CE} (ha : ClE T call glob ER a) (hb : ClE T call glob ER b) : ClE T call glob ER (.and a b) := by
  intro S X W e G hok r ou r' F H σ Q h w s
  cases e <;> try (simp only [okE, Bool.false_eq_true] at hok; done)
  rename_i op vs p
  cases op <;> try (simp only [okE, Bool.false_eq_true] at hok; done)
  match vs, hok with
  | [ex, ey], hok =>
    simp only [okE, Bool.and_eq_true] at hok
    exact ⟨_, pe_andT pe_U pe_U, and_ok ha G hok.1 h w s fun r1 F1 H1 h1 w1 s1 => bool_rest (hb S X W ey G hok.2 _ _ _ F1 H1 σ _ h1 w1 s1)⟩
  | ex :: ey :: ez :: rest, hok =>
    simp only [okE, Bool.and_eq_true] at hok
    exact ⟨_, pe_andT pe_U pe_U, and_ok ha G hok.1 h w s fun r1 F1 H1 h1 w1 s1 => hb S X W _ G hok.2 _ _ _ F1 H1 σ _ h1 w1 s1⟩
theorem cl_or {a b : CE} (ha : ClE T call glob ER a) (hb : ClE T call glob ER b) : ClE T call glob ER (.or a b) := by
  intro S X W e G hok r ou r' F H σ Q h w s
  cases e <;> try (simp only [okE, Bool.false_eq_true] at hok; done)
  rename_i op vs p
  cases op <;> try (simp only [okE, Bool.false_eq_true] at hok; done)
  match vs, hok with
  | [ex, ey], hok =>
    simp only [okE, Bool.and_eq_true] at hok
    exact ⟨_, pe_orT pe_U pe_U, or_ok ha G hok.1 h w s fun r1 F1 H1 h1 w1 s1 => bool_rest (hb S X W ey G hok.2 _ _ _ F1 H1 σ _ h1 w1 s1)⟩
  | ex :: ey :: ez :: rest, hok =>
    simp only [okE, Bool.and_eq_true] at hok
    exact ⟨_, pe_orT pe_U pe_U, or_ok ha G hok.1 h w s fun r1 F1 H1 h1 w1 s1 => hb S X W _ G hok.2 _ _ _ F1 H1 σ _ h1 w1 s1⟩
theorem and_tru {S : Sc} {X : Cx} {W : WX} {a : CE} {ex : Expr} (ha : ClT T call glob ER a) (G : Good T call glob ER S X W) (k1 : okE T S a ex = true) {b : CE} {r r' : Env} {o : Except Exc MV} {F H : Hp} {σ : L2.St} {Q : Bool → Hp → Prop} {tb : TT}
    (h : evalE call glob (.and a b) r = some (o, r')) (w : Wd X.K F H r σ) (s : SatT X.K ER (WE W σ) F H r σ (a.quiet && b.quiet) o r' Q)
    (hb : ∀ r1 F1 H1, evalE call glob b r1 = some (o, r') → Wd X.K F1 H1 r1 σ → SatT X.K ER (WE W σ) F1 H1 r1 σ b.quiet o r' Q → tb σ H1 Q) : tAnd (UT X ex) tb σ H Q := by
  simp only [evalE] at h
  show UT X ex σ H fun c H1 => _
  rcases bind_inv h with ⟨x, h1, rfl⟩ | ⟨x, r1, h1, h⟩
  · exact ha S X W ex G k1 _ _ _ F H σ _ h1 w fun cls d F' H' XX => s cls d F' H' (XX.flag andF1)
  split at h
  · cases h
  · rename_i hk
    refine ha S X W ex G k1 _ _ _ F H σ _ h1 w ⟨true, hk, fun F1 H1 M1 => ?_⟩
    refine iteT ?_
    exact hb r1 F1 H1 h M1.wd (s.after M1)
  · rename_i hk
    refine ha S X W ex G k1 _ _ _ F H σ _ h1 w ⟨false, hk, fun F1 H1 M1 => ?_⟩
    refine iteF ?_
    obtain ⟨rfl, hr⟩ := ret_inv h
    subst hr
    obtain ⟨k', e', s⟩ := s
    rw [hk] at e'
    cases e'
    exact s _ _ (M1.flag andF1)
theorem or_tru {S : Sc} {X : Cx} {W : WX} {a : CE} {ex : Expr} (ha : ClT T call glob ER a) (G : Good T call glob ER S X W) (k1 : okE T S a ex = true) {b : CE} {r r' : Env} {o : Except Exc MV} {F H : Hp} {σ : L2.St} {Q : Bool → Hp → Prop} {tb : TT}
    (h : evalE call glob (.or a b) r = some (o, r')) (w : Wd X.K F H r σ) (s : SatT X.K ER (WE W σ) F H r σ (a.quiet && b.quiet) o r' Q)
    (hb : ∀ r1 F1 H1, evalE call glob b r1 = some (o, r') → Wd X.K F1 H1 r1 σ → SatT X.K ER (WE W σ) F1 H1 r1 σ b.quiet o r' Q → tb σ H1 Q) : tOr (UT X ex) tb σ H Q := by
  simp only [evalE] at h
  show UT X ex σ H fun c H1 => _
  rcases bind_inv h with ⟨x, h1, rfl⟩ | ⟨x, r1, h1, h⟩
  · exact ha S X W ex G k1 _ _ _ F H σ _ h1 w fun cls d F' H' XX => s cls d F' H' (XX.flag andF1)
  split at h
  · cases h
  · rename_i hk
    refine ha S X W ex G k1 _ _ _ F H σ _ h1 w ⟨true, hk, fun F1 H1 M1 => ?_⟩
    refine iteT ?_
    obtain ⟨rfl, hr⟩ := ret_inv h
    subst hr
    obtain ⟨k', e', s⟩ := s
    rw [hk] at e'
    cases e'
    exact s _ _ (M1.flag andF1)
  · rename_i hk
    refine ha S X W ex G k1 _ _ _ F H σ _ h1 w ⟨false, hk, fun F1 H1 M1 => ?_⟩
    refine iteF ?_
    exact hb r1 F1 H1 h M1.wd (s.after M1)
theorem ct_and {a b : CE} (ha : ClT T call glob ER a) (hb : ClT T call glob ER b) : ClT T call glob ER (.and a b) := by
  intro S X W e G hok r ou r' F H σ Q h w s
  cases e <;> try (simp only [okE, Bool.false_eq_true] at hok; done)
  rename_i op vs p
  cases op <;> try (simp only [okE, Bool.false_eq_true] at hok; done)
  match vs, hok with
  | [ex, ey], hok =>
    simp only [okE, Bool.and_eq_true] at hok
    exact ⟨_, (pw_and pt_U (pw_and1 pt_U)).pt, and_tru ha G hok.1 h w s fun r1 F1 H1 h1 w1 s1 => hb S X W ey G hok.2 _ _ _ F1 H1 σ _ h1 w1 s1⟩
  | ex :: ey :: ez :: rest, hok =>
    simp only [okE, Bool.and_eq_true] at hok
    exact ⟨_, (pw_and pt_U (pw_of pt_U)).pt, and_tru ha G hok.1 h w s fun r1 F1 H1 h1 w1 s1 => hb S X W _ G hok.2 _ _ _ F1 H1 σ _ h1 w1 s1⟩
theorem ct_or {a b : CE} (ha : ClT T call glob ER a) (hb : ClT T call glob ER b) : ClT T call glob ER (.or a b) := by
  intro S X W e G hok r ou r' F H σ Q h w s
  cases e <;> try (simp only [okE, Bool.false_eq_true] at hok; done)
  rename_i op vs p
  cases op <;> try (simp only [okE, Bool.false_eq_true] at hok; done)
  match vs, hok with
  | [ex, ey], hok =>
    simp only [okE, Bool.and_eq_true] at hok
    exact ⟨_, (pw_or pt_U (pw_or1 pt_U)).pt, or_tru ha G hok.1 h w s fun r1 F1 H1 h1 w1 s1 => hb S X W ey G hok.2 _ _ _ F1 H1 σ _ h1 w1 s1⟩
  | ex :: ey :: ez :: rest, hok =>
    simp only [okE, Bool.and_eq_true] at hok
    exact ⟨_, (pw_or pt_U (pw_of pt_U)).pt, or_tru ha G hok.1 h w s fun r1 F1 H1 h1 w1 s1 => hb S X W _ G hok.2 _ _ _ F1 H1 σ _ h1 w1 s1⟩
theorem cl_ite {c a b : CE} (hc : ClT T call glob ER c) (ha : ClE T call glob ER a) (hb : ClE T call glob ER b) : ClE T call glob ER (.ite c a b) := by
  intro S X W e G hok r ou r' F H σ Q h w s
  cases e <;> simp only [okE, Bool.false_eq_true, Bool.and_eq_true] at hok
  rename_i ec ea eb p
  obtain ⟨⟨k1, k2⟩, k3⟩ := hok
  refine ⟨_, pe_ifExp pt_U pe_U pe_U, ?_⟩
  simp only [evalE] at h
  simp only [CE.quiet] at s
  show UT X ec σ H fun c H1 => _
  rcases bind_inv h with ⟨x, h1, rfl⟩ | ⟨x, r1, h1, h⟩
  · exact hc S X W ec G k1 _ _ _ F H σ _ h1 w fun cls d F' H' XX => s cls d F' H' (XX.flag fun z => by simp [z])
  split at h
  · cases h
  · rename_i hk
    refine hc S X W ec G k1 _ _ _ F H σ _ h1 w ⟨true, hk, fun F1 H1 M1 => ?_⟩
    refine iteT ?_
    exact ha S X W ea G k2 _ _ _ F1 H1 σ _ h M1.wd (Sat.after M1 (s.flag fun z => by
      rw [z] <;> rfl))
  · rename_i hk
    refine hc S X W ec G k1 _ _ _ F H σ _ h1 w ⟨false, hk, fun F1 H1 M1 => ?_⟩
    refine iteF ?_
    exact hb S X W eb G k3 _ _ _ F1 H1 σ _ h M1.wd (Sat.after M1 (s.flag fun z => by
      cases hq : c.quiet <;> simp_all))
def plainT : Expr → Bool
  | .UnaryOp .Not _ _ => false
  | .BoolOp _ _ _ => false
  | .IfExp _ _ _ _ => false
  | .Compare _ _ _ _ => false
  | _ => true
theorem ct_plain {c : CE} (hc : ClE T call glob ER c) (hp : ∀ S e, okE T S c e = true → plainT e = true) : ClT T call glob ER c := by
  intro S X W e G hok r ou r' F H σ Q h w s
  have hpe := hp S e hok
  refine ⟨_, pt_truth pe_U (fun whole => ?_), ?_⟩
  · cases e <;> first | rfl | (cases hpe; done) | skip
    rename_i op x p
    cases op <;> first | rfl | cases hpe
  · refine hc S X W e G hok _ _ _ F H σ _ h w ?_
    cases ou with
    | error x => exact s
    | ok m =>
      obtain ⟨k, hk, s⟩ := s
      exact fun v F' H' V => ⟨k, truth_ok (V.own.rep V.mid.wd.ex) hk, s _ _ V.mid⟩
end
end M
set_option Elab.async false
set_option linter.all false
set_option maxRecDepth 100000
set_option maxHeartbeats 1000000
set_option autoImplicit false
namespace M
open PySem PySem.Spec PyProof.Rows L2
section
variable {T : Tab} {call : Call} {glob : Nat → Option D} {ER : EK}
theorem SatL.after {K : PySem.W.Frag} {W : XK} {F H F1 H1 : Hp} {r r1 r2 : Env} {σ : L2.St} {q1 q2 : Bool} {o : Except Exc (List MV)} {Q : List V → Hp → Prop} (a : Mid K F H r σ q1 r1 F1 H1)
    (h : SatL K ER W F H r σ (q1 && q2) o r2 Q) : SatL K ER W F1 H1 r1 σ q2 o r2 Q := by
  cases o with
  | ok ms => exact fun vs F' H' M o f => h vs F' H' (a.trans M) o fun i m v e1 e2 b fb => ⟨by
      rcases (f i m v e1 e2 b fb).1 with ⟨z1, z2⟩ | z
      · rcases a.old b z2 with y | y
        · exact .inl ⟨by rw [z1, Bool.and_false], y⟩
        · exact .inr y
      · exact .inr (a.st.back z), (f i m v e1 e2 b fb).2⟩
  | error x => exact fun cls d F' H' X => h cls d F' H' (X.after a)
theorem ces_nil : ClEs T call glob ER .nil := by
  intro S X W es G hok r o r' F H σ Q h w s
  cases es <;> simp only [okEs, Bool.false_eq_true] at hok
  simp only [evalEs] at h
  obtain ⟨rfl, hr⟩ := ret_inv h
  subst hr
  exact ⟨_, pa_nil, s [] F H (Mid.refl w) .nil fun i m v e => by simp at e⟩
theorem fr_cons {K : PySem.W.Frag} {F H F1 H1 F2 H2 : Hp} {r r1 r2 : Env} {σ : L2.St} {q1 q2 : Bool} {m : MV} {v : V} {ms : List MV} {vs : List V} (V1 : VP K F H r σ q1 m r1 v F1 H1) (M2 : Mid K F1 H1 r1 σ q2 r2 F2 H2) (f : FrA r1 σ H1 q2 r2 ms vs) :
    FrA r σ H (q1 && q2) r2 (m :: ms) (v :: vs) := fun i m' v' e1 e2 b fb => by
  cases i with
  | zero =>
    simp at e1 e2
    subst e1 e2
    obtain ⟨h1, h2⟩ := V1.apart M2 b fb
    exact ⟨h1.imp (fun z => ⟨by rw [z.1]; rfl, z.2⟩) id, h2⟩
  | succ i =>
    obtain ⟨h1, h2⟩ := f i m' v' (by simpa using e1) (by simpa using e2) b fb
    refine ⟨?_, h2⟩
    rcases h1 with ⟨z1, z2⟩ | z
    · rcases V1.mid.old b z2 with y | y
      · exact .inl ⟨by rw [z1, Bool.and_false], y⟩
      · exact .inr y
    · exact .inr (V1.mid.st.back z)
theorem ces_cons {e : CE} {es : CEs} (he : ClE T call glob ER e) (hes : ClEs T call glob ER es) : ClEs T call glob ER (.cons e es) := by
  intro S X W xs G hok r o r' F H σ Q h w s
  cases xs <;> simp only [okEs, Bool.false_eq_true, Bool.and_eq_true] at hok
  rename_i x xs
  obtain ⟨⟨k1, k2⟩, k3⟩ := hok
  simp only [evalEs] at h
  refine ⟨_, pa_cons pe_U pa_U (star_cons k3), ?_⟩
  show UE X x σ H fun v H1 => UA X xs σ H1 fun vs H2 => Q (v :: vs) H2
  rcases bind_inv h with ⟨z, h1, rfl⟩ | ⟨m, r1, h1, h⟩
  · exact he S X W x G k1 _ _ _ F H σ _ h1 w fun cls d F' H' XX => s cls d F' H' (XX.flag andF1)
  refine he S X W x G k1 _ _ _ F H σ _ h1 w fun v F1 H1 V1 => ?_
  rcases bind_inv h with ⟨z, h2, rfl⟩ | ⟨ms, r2, h2, h⟩
  · exact hes S X W xs G k2 _ _ _ F1 H1 σ _ h2 V1.mid.wd fun cls d F' H' XX => s cls d F' H' (XX.after V1.mid)
  refine hes S X W xs G k2 _ _ _ F1 H1 σ _ h2 V1.mid.wd fun vs F2 H2 M2 os fs => ?_
  split at h
  · cases h
  rename_i ht
  obtain ⟨rfl, hr⟩ := ret_inv h
  subst hr
  exact s (v :: vs) F2 H2 (V1.mid.trans M2) (.cons (V1.thru M2 (Bool.eq_false_iff.mpr ht)) os) (fr_cons V1 M2 fs)
theorem cl_lst {es : CEs} (h0 : ClEs T call glob ER es) : ClE T call glob ER (.lst es) := by
  intro S X W e G hok r o r' F H σ Q h w s
  cases e <;> simp only [okE, Bool.false_eq_true] at hok
  rename_i xs p
  simp only [evalE] at h
  refine ⟨_, pe_lst pa_U, ?_⟩
  rcases bind_inv h with ⟨z, h1, rfl⟩ | ⟨ms, r1, h1, h⟩
  · exact h0 S X W xs G hok _ _ _ F H σ _ h1 w fun cls d F' H' XX => s cls d F' H' XX
  refine h0 S X W xs G hok _ _ _ F H σ _ h1 w fun vs F1 H1 M1 os fs => ?_
  split at h
  · rename_i hl
    obtain ⟨rfl, hr⟩ := ret_inv h
    subst hr
    have hlen : vs.length ≤ sizeLine := by rw [← os.len, ← line_eq]; exact hl
    refine ⟨hlen, fun p hp => ?_⟩
    cases ht : ms.any MV.temp with
    | true =>
      rw [ht] at s
      exact s _ _ _ (M1.newTmpL hp hlen (repAll_tmp M1.wd.ex os))
    | false =>
      rw [ht] at s
      obtain ⟨F3, e3, M3, rp⟩ := M1.freezeAll os fs ht
      exact s _ _ _ (M3.newL hp hlen rp)
  · cases h
theorem cl_tup {es : CEs} (h0 : ClEs T call glob ER es) : ClE T call glob ER (.tup es) := by
  intro S X W e G hok r o r' F H σ Q h w s
  cases e <;> simp only [okE, Bool.false_eq_true] at hok
  rename_i xs k p
  simp only [evalE] at h
  refine ⟨_, pe_tup pa_U, ?_⟩
  rcases bind_inv h with ⟨z, h1, rfl⟩ | ⟨ms, r1, h1, h⟩
  · exact h0 S X W xs G hok _ _ _ F H σ _ h1 w fun cls d F' H' XX => s cls d F' H' XX
  refine h0 S X W xs G hok _ _ _ F H σ _ h1 w fun vs F1 H1 M1 os fs => ?_
  split at h
  · rename_i hl
    obtain ⟨rfl, hr⟩ := ret_inv h
    subst hr
    have hlen : vs.length ≤ sizeLine := by rw [← os.len, ← line_eq]; exact hl
    refine ⟨hlen, fun p hp => ?_⟩
    cases ht : ms.any MV.temp with
    | true =>
      rw [ht] at s
      exact s _ _ _ (M1.newTmpT hp hlen (repAll_tmp M1.wd.ex os))
    | false =>
      rw [ht] at s
      obtain ⟨F3, e3, M3, rp⟩ := M1.freezeAll os fs ht
      exact s _ _ _ (M3.newT hp hlen rp)
  · cases h
theorem cl_dict0 : ClE T call glob ER .dict0 := by
  intro S X W e G hok r o r' F H σ Q h w s
  cases e <;> try (simp only [okE, Bool.false_eq_true] at hok; done)
  rename_i ks vs p
  match ks, vs, hok with
  | [], [], _ =>
    simp only [evalE] at h
    obtain ⟨rfl, hr⟩ := ret_inv h
    subst hr
    exact ⟨_, pe_dnewK, fun p hp => s _ _ _ ((Mid.refl w).newDic hp)⟩
theorem cl_idx {a b : CE} (ha : ClE T call glob ER a) (hb : ClE T call glob ER b) : ClE T call glob ER (.idx a b) := by
  intro S X W e G hok r ou r' F H σ Q h w s
  have hu := G.units
  cases e <;> try (simp only [okE, Bool.false_eq_true] at hok; done)
  rename_i ex ey p
  simp only [okE, Bool.and_eq_true] at hok
  obtain ⟨⟨k1, k2⟩, k3⟩ := hok
  simp only [evalE] at h
  refine ⟨_, pe_ix ix_U pe_U pe_U (plain_ix k3), ?_⟩
  refine two_ok ha hb G k1 k2 (RR := fun v u H2 => UIx X v u H2 Q) h w (fun x e => by subst e; exact s) fun z e x y v u F' H' M2 ox oy hz => ?_
  subst e
  exact idx_ok (by omega) M2 ox oy hz s
theorem co_no : ClO T call glob ER .no := by
  intro S X W e G hok r o r' F H σ Q h w s
  cases e <;> simp only [okO, Bool.false_eq_true] at hok
  simp only [evalO] at h
  obtain ⟨rfl, hr⟩ := ret_inv h
  subst hr
  exact ⟨_, po_none, s F H (Mid.refl w)⟩
theorem co_so {c : CE} (hc : ClE T call glob ER c) : ClO T call glob ER (.so c) := by
  intro S X W e G hok r o r' F H σ Q h w s
  cases e <;> simp only [okO, Bool.false_eq_true] at hok
  rename_i x
  simp only [evalO] at h
  refine ⟨_, po_some pe_U, ?_⟩
  rcases bind_inv h with ⟨z, h1, rfl⟩ | ⟨m, r1, h1, h⟩
  · exact hc S X W x G hok _ _ _ F H σ _ h1 w fun cls d F' H' XX => s cls d F' H' XX
  refine hc S X W x G hok _ _ _ F H σ _ h1 w fun v F1 H1 V1 => ?_
  split at h
  · rename_i i hi
    obtain ⟨rfl, hr⟩ := ret_inv h
    subst hr
    cases int_of V1.mid hi V1.own
    exact ⟨i, rfl, s _ _ V1.mid⟩
  · cases h
theorem cl_sli {a : CE} {lo hi : CO} (ha : ClE T call glob ER a) (h1 : ClO T call glob ER lo) (h2 : ClO T call glob ER hi) : ClE T call glob ER (.sli a lo hi) := by
  intro S X W e G hok r ou r' F H σ Q h w s
  cases e <;> try (simp only [okE, Bool.false_eq_true] at hok; done)
  rename_i ex ey p
  cases ey <;> try (simp only [okE, Bool.false_eq_true] at hok; done)
  rename_i elo ehi est ps
  cases est <;> simp only [okE, Bool.false_eq_true, Bool.and_eq_true] at hok
  obtain ⟨⟨k1, k2⟩, k3⟩ := hok
  simp only [evalE] at h
  simp only [CE.quiet] at s
  refine ⟨_, pe_slice sl_U pe_U po_U po_U, ?_⟩
  show UE X ex σ H fun v H1 => UO X elo σ H1 fun l H2 => UO X ehi σ H2 fun u H3 => USl X v l u H3 Q
  rcases bind_inv h with ⟨z, h3, rfl⟩ | ⟨x, r1, h3, h⟩
  · exact ha S X W ex G k1 _ _ _ F H σ _ h3 w (s.err fun z => by rw [z] <;> rfl)
  refine ha S X W ex G k1 _ _ _ F H σ _ h3 w fun v F1 H1 V1 => ?_
  rcases bind_inv h with ⟨z, h4, rfl⟩ | ⟨l, r2, h4, h⟩
  · exact h1 S X W elo G k2 _ _ _ F1 H1 σ _ h4 V1.mid.wd fun cls d F' H' XX => s cls d F' H' ((XX.after V1.mid).flag fun z => by rw [z] <;> rfl)
  refine h1 S X W elo G k2 _ _ _ F1 H1 σ _ h4 V1.mid.wd fun F2 H2 M2 => ?_
  rcases bind_inv h with ⟨z, h5, rfl⟩ | ⟨u, r3, h5, h⟩
  · exact h2 S X W ehi G k3 _ _ _ F2 H2 σ _ h5 M2.wd fun cls d F' H' XX => s cls d F' H' (XX.after (V1.mid.trans M2))
  refine h2 S X W ehi G k3 _ _ _ F2 H2 σ _ h5 M2.wd fun F3 H3 M3 => ?_
  split at h
  · cases h
  rename_i ht
  obtain ⟨m, hm, rfl, hr⟩ := lift_inv h
  subst hr
  have M23 := M2.trans M3
  exact sli_ok ((V1.mid.trans M2).trans M3) (V1.thru M23 (Bool.eq_false_iff.mpr ht)) hm s
theorem blt_free {S : Sc} {X : Cx} {W : WX} (G : Good T call glob ER S X W) {x : Str} (h : x ∈ bltNames) : X.mg x = none := G.free x h
def notIsi : Bi → Bool
  | .isi _ => false
  | _ => true
theorem bi_boot {b : Bi} (h : notIsi b = true) : biName b ∈ bltNames ∧ bootBuiltins (biName b) = some (biVal b) := by
  cases b <;> first | exact ⟨by decide +kernel, by decide +kernel⟩ | cases h
theorem isi_boot : ("isinstance" : Str) ∈ bltNames ∧ bootBuiltins "isinstance" = some (.builtin "isinstance") := ⟨by decide +kernel, by decide +kernel⟩
theorem ty_boot {t : Ty} : tyStr t ∈ bltNames ∧ bootBuiltins (tyStr t) = some (.type (tyName t)) := by
  cases t <;> exact ⟨by decide +kernel, by decide +kernel⟩
theorem pe_callV {X : Cx} {x : Str} {f : Value} {e : Expr} {es : List Expr} {p pos : Pos} {t : TA} {rr : List V → Hp → VK → Prop} (hc : CallR X f rr) (hf : (∃ id, f = .builtin id) ∨ ∃ n, f = .type n) (hg : Gl X x) (hm : X.mg x = none) (hv : bootBuiltins x = some f) (ha : PA X (e :: es) t) (hn : x ≠ "__name__") (hdb : (x == ("__debug__" : Str)) = false)
    (hs : (e :: es).all notStar = true) : PE X (.Call (.Name x p) (e :: es) [] pos) (tCB rr t) := by
  simp only [List.all_cons, Bool.and_eq_true] at hs
  rcases hf with ⟨id, rfl⟩ | ⟨n, rfl⟩
  · exact pe_callB hc hg hm hv ha hn hdb (star_cons hs.1) (star_none hs.2)
  · exact pe_callTy hc hg hm hv ha hn hdb (star_cons hs.1) (star_none hs.2)
theorem bi_kind (b : Bi) : (∃ id, biVal b = .builtin id) ∨ ∃ n, biVal b = .type n := by
  cases b <;> first | exact .inl ⟨_, rfl⟩ | exact .inr ⟨_, rfl⟩
theorem okEs_star : ∀ {S : Sc} {es : CEs} {xs : List Expr}, okEs T S es xs = true → xs.all notStar = true
  | _, .nil, [], _ => rfl
  | _, .nil, _ :: _, h => by simp only [okEs, Bool.false_eq_true] at h
  | _, .cons _ _, [], h => by simp only [okEs, Bool.false_eq_true] at h
  | S, .cons e es, x :: xs, h => by
    simp only [okEs, Bool.and_eq_true] at h
    simp only [List.all_cons, Bool.and_eq_true]
    exact ⟨h.2, okEs_star h.1.2⟩
theorem okE_isi {S : Sc} {t : Ty} {es : CEs} {fn : Expr} {args : List Expr} {kws : List Keyword} {p : Pos} (h : okE T S (.bi (.isi t) es) (.Call fn args kws p) = true) :
    ∃ a x px y z pz, es = .cons a .nil ∧ fn = .Name x px ∧ args = [y, .Name z pz] ∧ kws = [] ∧ isG S x = true ∧ x = "isinstance" ∧ okE T S a y = true ∧ isG S z = true ∧ z = tyStr t ∧ notStar y = true := by
  cases fn
  case Name x px =>
    cases es with
    | nil =>
      cases args with
      | nil => simp [okE] at h
      | cons y ys => cases kws <;> simp [okE] at h
    | cons a as =>
      cases as with
      | cons _ _ =>
        cases args with
        | nil => simp [okE] at h
        | cons y ys => cases kws <;> simp [okE] at h
      | nil =>
        cases args with
        | nil => simp [okE] at h
        | cons y ys =>
          cases kws with
          | cons _ _ => simp [okE] at h
          | nil =>
            cases ys with
            | nil => simp [okE] at h
            | cons z zs =>
              cases zs with
              | cons _ _ => simp [okE] at h
              | nil =>
                cases z
                case Name z pz =>
                  simp only [okE, Bool.and_eq_true, beq_iff_eq] at h
                  exact ⟨a, x, px, y, z, pz, rfl, rfl, rfl, rfl, h.1.1.1.1.1, h.1.1.1.1.2, h.1.1.1.2, h.1.1.2, h.1.2, h.2⟩
                all_goals simp [okE] at h
  all_goals simp [okE] at h
theorem okE_bi {S : Sc} {b : Bi} (hb : notIsi b = true) {es : CEs} {fn : Expr} {args : List Expr} {kws : List Keyword} {p : Pos} (h : okE T S (.bi b es) (.Call fn args kws p) = true) :
    ∃ x px y ys, fn = .Name x px ∧ args = y :: ys ∧ kws = [] ∧ isG S x = true ∧ x = biName b ∧ okEs T S es (y :: ys) = true := by
  cases fn
  case Name x px =>
    cases args with
    | nil => cases b <;> simp [okE] at h
    | cons y ys =>
      cases kws with
      | cons _ _ => cases b <;> simp [okE] at h
      | nil =>
        refine ⟨x, px, y, ys, rfl, rfl, rfl, ?_⟩
        cases b <;> first
          | (cases hb; done)
          | (simp only [okE, Bool.and_eq_true, beq_iff_eq, true_and] at h
             exact ⟨h.1.1, h.1.2, h.2⟩)
  all_goals (cases b <;> simp [okE] at h)
theorem cl_isi (t : Ty) {es : CEs} (h1 : ∀ a, es = .cons a .nil → ClE T call glob ER a) : ClE T call glob ER (.bi (.isi t) es) := by
  intro S X W e G hok r o r' F H σ Q h w s
  have hu := G.units
  cases e <;> try (simp only [okE, Bool.false_eq_true] at hok; done)
  rename_i fn args kws p
  obtain ⟨a, x, px, y, z, pz, rfl, rfl, rfl, rfl, k1, rfl, k3, k4, rfl, k6⟩ := okE_isi hok
  obtain ⟨g1, g2, g3⟩ := isG_inv G.sc k1
  obtain ⟨t1, t2, t3⟩ := isG_inv G.sc k4
  have ht1 := ty_boot (t := t)
  simp only [evalE, evalEs] at h
  have pz' : PE X (.Name (tyStr t) pz) (tC (.ty (tyName t))) := pe_bltn t1 (G.free _ ht1.1) ht1.2 rfl t3 t2
  refine ⟨_, pe_callV (call_U (f := .builtin "isinstance")) (.inl ⟨_, rfl⟩) g1 (G.free _ isi_boot.1) isi_boot.2 (pa_cons pe_U (pa_cons pz' pa_nil (star_cons rfl)) (star_cons k6)) g3 g2 (by
    show (notStar y && (true && true)) = true
    rw [k6]; rfl), ?_⟩
  show UE X y σ H fun v H1 => UCall X (.builtin "isinstance") [v, .ty (tyName t)] H1 Q
  have ha := h1 a rfl
  rcases bind_inv h with ⟨u, h2, rfl⟩ | ⟨ms, r1, h2, h⟩
  · rcases bind_inv h2 with ⟨u', h3, e3⟩ | ⟨m, r2, h3, h2⟩
    · cases e3
      exact ha S X W y G k3 _ _ _ F H σ _ h3 w (s.err fun z => by simp [CE.quiet, CEs.quiet, z])
    · rcases bind_inv h2 with ⟨u', h4, e4⟩ | ⟨ms', r3, h4, h2⟩
      · cases (ret_inv h4).1
      · split at h2 <;> cases h2
  · rcases bind_inv h2 with ⟨u', h3, e3⟩ | ⟨m, r2, h3, h2⟩
    · cases e3
    · rcases bind_inv h2 with ⟨u', h4, e4⟩ | ⟨ms', r3, h4, h2⟩
      · cases e4
      · obtain ⟨e5, hr⟩ := ret_inv h4
        cases e5
        subst hr
        split at h2
        · cases h2
        obtain ⟨e6, hr⟩ := ret_inv h2
        cases e6
        subst hr
        refine ha S X W y G k3 _ _ _ F H σ _ h3 w fun v F1 H1 V1 => ?_
        obtain ⟨mm, hm, rfl, hr⟩ := lift_inv h
        subst hr
        exact bi_ok (.isi t) G.calm G.guards hu V1.mid (.cons V1.own .nil) hm (s.flag fun z => by simp [CE.quiet, CEs.quiet, z])
theorem cl_bi (b : Bi) {es : CEs} (h0 : ClEs T call glob ER es) (h1 : ∀ a, es = .cons a .nil → ClE T call glob ER a) : ClE T call glob ER (.bi b es) := by
  by_cases hi : notIsi b = true
  · intro S X W e G hok r o r' F H σ Q h w s
    have hu := G.units
    cases e <;> try (cases b <;> simp only [okE, Bool.false_eq_true] at hok; done)
    rename_i fn args kws p
    obtain ⟨x, px, y, ys, rfl, rfl, rfl, k1, rfl, k3⟩ := okE_bi hi hok
    obtain ⟨g1, g2, g3⟩ := isG_inv G.sc k1
    have hb1 := bi_boot hi
    simp only [evalE] at h
    refine ⟨_, pe_callV (call_U (f := biVal b)) (bi_kind b) g1 (G.free _ hb1.1) hb1.2 pa_U g3 g2 (okEs_star k3), ?_⟩
    rcases bind_inv h with ⟨u, h2, rfl⟩ | ⟨ms, r1, h2, h⟩
    · exact h0 S X W _ G k3 _ _ _ F H σ _ h2 w fun cls d F' H' XX => s cls d F' H' XX
    refine h0 S X W _ G k3 _ _ _ F H σ _ h2 w fun vs F1 H1 M1 os fs => ?_
    obtain ⟨mm, hm, rfl, hr⟩ := lift_inv h
    subst hr
    have hbm : biMore b = [] := by cases b <;> first | rfl | cases hi
    have z := bi_ok b G.calm G.guards hu M1 os hm s
    rw [hbm, List.append_nil] at z
    exact z
  · cases b <;> first | exact absurd rfl hi | exact cl_isi _ h1
theorem me_slot (m : Me) : PlainAttrs (meTy m) ∧ Slot (meTy m) (meName m) (meId m) ∧ typeOf (.builtin (meId m)) = pure (.type "method_descriptor") := by
  cases m
  · exact ⟨F.plainAttrs_str, F.slot_str_split, F.type_str_split⟩
  · exact ⟨F.plainAttrs_str, F.slot_str_isalnum, F.type_str_isalnum⟩
  · exact ⟨F.plainAttrs_str, F.slot_str_isalpha, F.type_str_isalpha⟩
  · exact ⟨F.plainAttrs_str, F.slot_str_lower, F.type_str_lower⟩
  · exact ⟨F.plainAttrs_list, F.slot_list_index, F.type_list_index⟩
theorem few_of {es : List Expr} {e : Expr} {env : PySem.Env} {cp : Pos} (hs : (e :: es).all notStar = true) (hn : (e :: es).length < 20) : ((backTo cp (starEach (e :: es) env)).all (fun x => !x.1) && (backToKw cp (keywordEach [] env)).all (fun x => x.1.isSome)
      && decide ((e :: es).length + ([] : List Keyword).length + (if ([] : List Keyword).isEmpty then 0 else 1) < 30)) = true := by
  rw [star_all hs]
  simp only [List.length_cons] at hn ⊢
  show (true && true && decide _) = true
  simp
  omega
theorem me_ty {m : Me} {a : MV} {x : V} {K : PySem.W.Frag} {F H : Hp} (h : meTyOk m a.fz = true) (ex : Ex F H) (o : Own K F H a x) : tyV K (meTy m) x H := by
  have rp := o.rep ex
  unfold meTyOk at h
  split at h
  · rename_i xs hs
    rw [hs] at rp
    obtain ⟨l, ws, rfl, h1, h2, h3⟩ := rp.lst_inv
    exact .inl ⟨rfl, ws, h1.sq⟩
  · cases h
  · rename_i m' xs hn hs
    rw [hs] at rp
    cases rp.str_inv
    rename_i m _
    cases m <;> first | rfl | exact absurd rfl hn
  · cases h
theorem args_nil {S : Sc} {X : Cx} {W : WX} {es : CEs} (hok : okEs T S es [] = true) {r : Env} {o : Except Exc (List MV)} {r' : Env} {F H : Hp} {σ : L2.St} {Q : List V → Hp → Prop} (h : evalEs call glob es r = some (o, r')) (w : Wd X.K F H r σ)
    (s : SatL X.K ER (WE W σ) F H r σ es.quiet o r' Q) : tNil σ H Q := by
  cases es <;> simp only [okEs, Bool.false_eq_true] at hok
  simp only [evalEs] at h
  obtain ⟨rfl, hr⟩ := ret_inv h
  subst hr
  exact s [] F H (Mid.refl w) .nil fun i m v e => by simp at e
theorem cl_me (m : Me) {a : CE} {es : CEs} (ha : ClE T call glob ER a) (h0 : ClEs T call glob ER es) : ClE T call glob ER (.me m a es) := by
  intro S X W e G hok r o r' F H σ Q h w s
  have hu := G.units
  cases e <;> try (simp only [okE, Bool.false_eq_true] at hok; done)
  rename_i fn args kws p
  cases fn <;> try (simp only [okE, Bool.false_eq_true] at hok; done)
  rename_i ex n ap
  cases kws <;> simp only [okE, Bool.false_eq_true, Bool.and_eq_true, beq_iff_eq, decide_eq_true_eq] at hok
  obtain ⟨⟨⟨⟨⟨k1, rfl⟩, k3⟩, k4⟩, k5⟩, k6⟩ := hok
  obtain ⟨s1, s2, s3⟩ := me_slot m
  simp only [evalE] at h
  have key : ∀ AA : TA, (∀ r1 o r2 F1 H1 QQ, evalEs call glob es r1 = some (o, r2) → Wd X.K F1 H1 r1 σ → SatL X.K ER (WE W σ) F1 H1 r1 σ es.quiet o r2 QQ → AA σ H1 QQ) →
      UE X ex σ H fun v H1 => tyV X.K (meTy m) v H1 ∧ AA σ H1 fun vs H2 => UMt X (meId m) v vs H2 Q := fun AA hA => by
    rcases bind_inv h with ⟨u, h2, rfl⟩ | ⟨x, r1, h2, h⟩
    · exact ha S X W _ G k1 _ _ _ F H σ _ h2 w (s.err fun z => by simp [CE.quiet, z])
    refine ha S X W _ G k1 _ _ _ F H σ _ h2 w fun v F1 H1 V1 => ?_
    split at h
    · cases h
    rename_i hty
    simp only [Bool.not_eq_true', Bool.not_eq_false] at hty
    refine ⟨me_ty hty V1.mid.wd.ex V1.own, ?_⟩
    rcases bind_inv h with ⟨u, h3, rfl⟩ | ⟨ms, r2, h3, h⟩
    · exact hA _ _ _ F1 H1 _ h3 V1.mid.wd fun cls d F' H' XX => s cls d F' H' (XX.after V1.mid)
    refine hA _ _ _ F1 H1 _ h3 V1.mid.wd fun vs F2 H2 M2 os fs => ?_
    split at h
    · cases h
    rename_i ht
    obtain ⟨mm, hm, rfl, hr⟩ := lift_inv h
    subst hr
    exact (me_ok m hu (V1.mid.trans M2) (V1.thru M2 (Bool.eq_false_iff.mpr ht)) os hm s).2
  have k4' := beq_iff_eq.mpr k4
  cases args with
  | nil => exact ⟨_, pe_bm0 s1 s2 s3 mt_U pe_U (base_of k3) k4', key tNil fun r1 o r2 F1 H1 QQ z1 z2 z3 => args_nil k5 z1 z2 z3⟩
  | cons y ys =>
    have hs := okEs_star k5
    have hs' := hs
    simp only [List.all_cons, Bool.and_eq_true] at hs'
    exact ⟨_, pe_bm s1 s2 s3 mt_U pe_U pa_U (base_of k3) (few_of hs k6) k4' (star_cons hs'.1) (star_none hs'.2), key _ fun r1 o r2 F1 H1 QQ z1 z2 z3 => h0 S X W _ G k5 _ _ _ F1 H1 σ _ z1 z2 z3⟩
def muTy : Mu → String
  | _ => "list"
def muId : Mu → String
  | .append => "list.append" | .popAt => "list.pop"
theorem mu_slot (m : Mu) : PlainAttrs (muTy m) ∧ Slot (muTy m) (muName m) (muId m) ∧ typeOf (.builtin (muId m)) = pure (.type "method_descriptor") := by
  cases m
  · exact ⟨F.plainAttrs_list, F.slot_list_append, F.type_list_append⟩
  · exact ⟨F.plainAttrs_list, F.slot_list_pop, F.type_list_pop⟩
theorem allData_inv : ∀ {ms : List MV} {ds : List D}, allData ms = some ds → ms.any MV.temp = false ∧ ms.map MV.fz = ds
  | [], _, h => by cases h; exact ⟨rfl, rfl⟩
  | m :: ms, _, h => by
    unfold allData at h
    split at h
    · rename_i d ds h1 h2
      cases h
      obtain ⟨e1, e2⟩ := allData_inv h2
      have z : m.temp = false ∧ m.fz = d := by
        unfold MV.data at h1
        split at h1 <;> first | (cases h1; exact ⟨rfl, rfl⟩) | cases h1
      exact ⟨by rw [List.any_cons, z.1, e1]; rfl, by rw [List.map_cons, z.2, e2]⟩
    · cases h
theorem mu_ok {X : Cx} {i : Nat} {m : Mu} {m' : MV} {ds : List D} {d : D} {v : V} {vs : List V} {F H F1 H1 : Hp} {r r1 : Env} {σ : L2.St} {Q : VK} (M1 : Mid X.K F H r σ false r1 F1 H1) (e : σ[i]? = some (some v)) (h : mu m (slot r1 i) ds = some (m', d)) (rp : RepAll X.K F1 ds vs)
    (s : ∀ v' F' H', VP X.K F H r σ false (.dat d) (r1.set i m') v' F' H' → Q v' H') : UMt X (muId m) v vs H1 Q := by
  unfold mu at h
  split at h
  · rename_i xs d0 hs
    have hn : slot r1 i ≠ .no := fun z => by rw [hs] at z; cases z
    obtain ⟨u, e2, ow⟩ := M1.wd.slotAt hn
    rw [e] at e2
    cases e2
    rw [hs] at ow
    obtain ⟨a, us, rfl, h1, h0, h2, h3⟩ := ow
    cases rp with
    | cons hd hr =>
      cases hr
      rename_i y
      split at h
      · rename_i hl
        cases h
        have hlen : us.length < sizeLine := by rw [← h3.len, ← line_eq]; exact hl
        refine ⟨_, mt_append, a, us, y, rfl, rfl, h1, hlen, s _ _ _ ((M1.change rfl e (a := a) (by rw [hs]; rfl) (m' := .lst (xs ++ [d0])) (fun b f => (V.ref.inj f).symm) rfl ⟨a, us ++ [y], rfl, upd_same, h0, ?_, h3.append (.cons hd .nil)⟩).dat .non)⟩
        rw [List.length_append, List.length_singleton]
        omega
      · cases h
  · rename_i xs j hs
    have hn : slot r1 i ≠ .no := fun z => by rw [hs] at z; cases z
    obtain ⟨u, e2, ow⟩ := M1.wd.slotAt hn
    rw [e] at e2
    cases e2
    rw [hs] at ow
    obtain ⟨a, us, rfl, h1, h0, h2, h3⟩ := ow
    cases rp with
    | cons hd hr =>
      cases hr
      rename_i y
      cases hd.int_inv
      split at h
      · rename_i k hk
        split at h
        · rename_i d' hd'
          cases h
          rw [h3.len] at hk
          obtain ⟨z1, z2, z3, z4⟩ := ixN_seq hk
          obtain ⟨w, hw, rw'⟩ := h3.get hd'
          have := sizeLine_eq
          refine ⟨_, mt_popAt, a, us, j, k, w, rfl, rfl, h1, by omega, by omega, z1, hw, s _ _ _ ((M1.change rfl e (a := a) (by rw [hs]; rfl) (m' := .lst (xs.eraseIdx k)) (fun b f => (V.ref.inj f).symm) rfl ⟨a, us.eraseIdx k, rfl, upd_same, h0, ?_, h3.eraseIdx k⟩).dat rw')⟩
          have := len_erase us k
          omega
        · cases h
      · cases h
  · cases h
theorem cl_mu (m : Mu) (i : Nat) {es : CEs} (h0 : ClEs T call glob ER es) : ClE T call glob ER (.mu m i es) := by
  intro S X W e G hok r o r' F H σ Q h w s
  have hu := G.units
  cases e <;> try (simp only [okE, Bool.false_eq_true] at hok; done)
  rename_i fn args kws p
  cases fn <;> try (simp only [okE, Bool.false_eq_true] at hok; done)
  rename_i ex n ap
  cases ex <;> try (simp only [okE, Bool.false_eq_true] at hok; done)
  rename_i x px
  cases kws <;> simp only [okE, Bool.false_eq_true, Bool.and_eq_true, beq_iff_eq, decide_eq_true_eq] at hok
  obtain ⟨⟨⟨⟨k1, rfl⟩, k4⟩, k5⟩, k6⟩ := hok
  obtain ⟨n1, n2, n3, n4⟩ := isN_inv G.N G.sc k1
  obtain ⟨s1, s2, s3⟩ := mu_slot m
  simp only [evalE] at h
  split at h
  · cases h
  rename_i hm0
  simp only [Bool.not_eq_true', Bool.not_eq_false] at hm0
  obtain ⟨a, xs, hs⟩ : ∃ (a : Unit) (xs : List D), slot r i = .lst xs := by
    unfold muOk at hm0
    split at hm0
    · rename_i xs hh; exact ⟨(), xs, hh⟩
    · cases hm0
  have hn : slot r i ≠ .no := fun z => by rw [hs] at z; cases z
  obtain ⟨v, ev, ow⟩ := w.slotAt hn
  rw [hs] at ow
  obtain ⟨a, us, rfl, h1, hF, h2, h3⟩ := ow
  have key : ∀ AA : TA, (∀ o r2 QQ, evalEs call glob es r = some (o, r2) → SatL X.K ER (WE W σ) F H r σ es.quiet o r2 QQ → AA σ H QQ) →
      UE X (.Name x px) σ H fun v H1 => tyV X.K (muTy m) v H1 ∧ AA σ H1 fun vs H2 => UMt X (muId m) v vs H2 Q := fun AA hA => by
    refine ⟨_, pe_var n1 n2 n3 n4, .ref a, ev, .inl ⟨rfl, us, (sl_of h1).sq⟩, ?_⟩
    rcases bind_inv h with ⟨u, h3, rfl⟩ | ⟨ms, r2, h3, h⟩
    · exact hA _ _ _ h3 fun cls d F' H' XX => s cls d F' H' (XX.flag fun _ => rfl)
    refine hA _ _ _ h3 fun vs F2 H2 M2 os fs => ?_
    split at h
    · cases h
    rename_i ds hd
    split at h
    · cases h
    rename_i m' d hm
    obtain ⟨rfl, hr⟩ := ret_inv h
    subst hr
    obtain ⟨e1, rfl⟩ := allData_inv hd
    obtain ⟨F3, e3, M3, rp⟩ := M2.freezeAll os fs e1
    exact mu_ok (M3.flag fun _ => rfl) ev hm rp s
  have hb : attributeBase (.Name x px) (muName m) X.env (eval (.Name x px) X.env) = eval (.Name x px) X.env := rfl
  have k4' := beq_iff_eq.mpr k4
  cases args with
  | nil => exact ⟨_, pe_bm0 s1 s2 s3 mt_U pe_U hb k4', key tNil fun o r2 QQ z1 z3 => args_nil k5 z1 w z3⟩
  | cons y ys =>
    have hs := okEs_star k5
    have hs' := hs
    simp only [List.all_cons, Bool.and_eq_true] at hs'
    exact ⟨_, pe_bm s1 s2 s3 mt_U pe_U pa_U hb (few_of hs k6) k4' (star_cons hs'.1) (star_none hs'.2), key _ fun o r2 QQ z1 z3 => h0 S X W _ G k5 _ _ _ F H σ _ z1 w z3⟩
end
end M
set_option Elab.async false
set_option linter.all false
set_option maxRecDepth 100000
set_option maxHeartbeats 1000000
set_option autoImplicit false
namespace M
open PySem PySem.Spec PyProof.Rows L2
section
variable {T : Tab} {call : Call} {glob : Nat → Option D} {ER : EK}
theorem ArgR.step {K : PySem.W.Frag} {F H F2 H2 : Hp} {σ : L2.St} {P : Addr → Prop} {es : CAs} {ms : List MV} {ws vs : List V} (a : ArgR K F H σ es ms ws vs) (s : Stp F H P F2 H2) (ht : ms.any MV.temp = true → ∀ a, ¬ P a)
    (hf : ∀ (i : Nat) (m : MV) (v : V), ms[i]? = some m → ws[i]? = some v → ∀ a, Foot m v a → ¬ P a) : ArgR K F2 H2 σ es ms ws vs := by
  induction a with
  | nil => exact .nil
  | val h1 _ ih =>
    exact .val (h1.step s (fun t => ht (by simp [t])) fun a f => hf 0 _ _ rfl rfl a f) (ih (fun t => ht (by simp [List.any_cons, t])) fun i m v e1 e2 => hf (i + 1) m v (by simpa using e1) (by simpa using e2))
  | ref h _ ih => exact .ref h (ih ht hf)
theorem ArgR.own {K : PySem.W.Frag} {F H : Hp} {σ : L2.St} {es : CAs} {ms : List MV} {ws vs : List V} (a : ArgR K F H σ es ms ws vs) : OwnAll K F H ms ws := by
  induction a with
  | nil => exact .nil
  | val h1 _ ih => exact .cons h1 ih
  | ref h _ ih => exact ih
theorem ArgR.toF {K : PySem.W.Frag} {F H F3 : Hp} {σ : L2.St} {es : CAs} {ms : List MV} {ws vs : List V} (a : ArgR K F H σ es ms ws vs) : RepAll K F3 (ms.map MV.fz) ws → ArgF K F3 σ es ms vs := by
  induction a with
  | nil => exact fun _ => .nil
  | val h1 _ ih => intro h; cases h with | cons h h' => exact .val h (ih h')
  | ref h _ ih => exact fun h' => .ref h (ih h')
theorem as_val {K : PySem.W.Frag} {W : XK} {F H F1 H1 : Hp} {r r1 r2 : Env} {σ : L2.St} {e : CE} {es : CAs} {m : MV} {v : V} {o : Except Exc (List MV)} {Q : List V → Hp → Prop} {o' : Except Exc (List MV)} {r' : Env} (V1 : VP K F H r σ e.quiet m r1 v F1 H1)
    (h : R.bind (some (o, r2)) (fun ms r2 => if m.temp && !es.quiet then none else ret (m :: ms) r2) = some (o', r')) (s : SatA K ER W F H r σ (.val e es) o' r' Q) : SatA K ER W F1 H1 r1 σ es o r2 fun us => Q (v :: us) := by
  cases o with
  | error x =>
    cases h
    exact fun cls d F' H' XX => s cls d F' H' (XX.after V1.mid)
  | ok ms =>
    intro ws vs F2 H2 M2 ar fr
    rcases bind_inv h with ⟨z, h2, _⟩ | ⟨ms', r3, h2, h⟩
    · cases h2
    cases h2
    split at h
    · cases h
    rename_i ht
    obtain ⟨rfl, hr⟩ := ret_inv h
    subst hr
    exact s _ _ F2 H2 (V1.mid.trans M2) (.val (V1.thru M2 (Bool.eq_false_iff.mpr ht)) ar) (fr_cons V1 M2 fr)
theorem as_ref {K : PySem.W.Frag} {W : XK} {F H : Hp} {r r2 : Env} {σ : L2.St} {i : Nat} {es : CAs} {v : V} {o : Except Exc (List MV)} {Q : List V → Hp → Prop} (e : σ[i]? = some (some v)) (s : SatA K ER W F H r σ (.ref i es) o r2 Q) : SatA K ER W F H r σ es o r2 fun us => Q (v :: us) := by
  cases o with
  | error x => exact fun cls d F' H' XX => s cls d F' H' (XX.flag fun _ => rfl)
  | ok ms => exact fun ws vs F2 H2 M2 ar fr => s ws _ F2 H2 (M2.flag fun _ => rfl) (.ref e ar) fun j m v e1 e2 a f => ⟨(fr j m v e1 e2 a f).1.imp (fun z => ⟨rfl, z.2⟩) id, (fr j m v e1 e2 a f).2⟩
def ClK (c : CAs) : Prop := ∀ (S : Sc) (X : Cx) (W : WX) (kws : List Keyword), Good T call glob ER S X W → okAs T S c (kws.map Keyword.value) = true → ∀ r o r' F H σ Q, evalAs call glob c r = some (o, r') → Wd X.K F H r σ →
  SatA X.K ER (WE W σ) F H r σ c o r' Q → UK X kws σ H Q
theorem bind_some {α β : Type} {mm : R α} {f : α → Env → R β} {z : Except Exc β × Env} (h : R.bind mm f = some z) : ∃ o r1, mm = some (o, r1) ∧ R.bind (some (o, r1)) f = some z := by
  cases e : mm with
  | none => rw [e] at h; cases h
  | some p => exact ⟨p.1, p.2, rfl, by rw [e] at h; exact h⟩
theorem ck_nil : ClK (T := T) (call := call) (glob := glob) (ER := ER) .nil := by
  intro S X W kws G hok r o r' F H σ Q h w s
  cases kws <;> simp only [List.map_nil, List.map_cons, okAs, Bool.false_eq_true] at hok
  simp only [evalAs] at h
  obtain ⟨rfl, hr⟩ := ret_inv h
  subst hr
  exact ⟨_, pk_nil, s [] [] F H (Mid.refl w) .nil fun i m v e => by simp at e⟩
theorem ck_val {e : CE} {es : CAs} (he : ClE T call glob ER e) (hes : ClK (T := T) (call := call) (glob := glob) (ER := ER) es) : ClK (T := T) (call := call) (glob := glob) (ER := ER) (.val e es) := by
  intro S X W kws G hok r o r' F H σ Q h w s
  cases kws with
  | nil => simp only [List.map_nil, okAs, Bool.false_eq_true] at hok
  | cons kw kws =>
    obtain ⟨nm, x, kp⟩ := kw
    simp only [List.map_cons, okAs, Bool.and_eq_true] at hok
    obtain ⟨⟨k1, k2⟩, k3⟩ := hok
    simp only [evalAs] at h
    refine ⟨_, pk_cons pe_U pk_U, ?_⟩
    show UE X x σ H fun v H1 => UK X kws σ H1 fun us H2 => Q (v :: us) H2
    rcases bind_inv h with ⟨z, h1, rfl⟩ | ⟨m, r1, h1, h⟩
    · exact he S X W x G k1 _ _ _ F H σ _ h1 w fun cls d F' H' XX => s cls d F' H' (XX.flag andF1)
    refine he S X W x G k1 _ _ _ F H σ _ h1 w fun v F1 H1 V1 => ?_
    obtain ⟨o2, r2, h2, h⟩ := bind_some h
    exact hes S X W kws G k2 _ _ _ F1 H1 σ _ h2 V1.mid.wd (as_val V1 h s)
theorem ck_ref (i : Nat) {es : CAs} (hes : ClK (T := T) (call := call) (glob := glob) (ER := ER) es) : ClK (T := T) (call := call) (glob := glob) (ER := ER) (.ref i es) := by
  intro S X W kws G hok r o r' F H σ Q h w s
  cases kws with
  | nil => simp only [List.map_nil, okAs, Bool.false_eq_true] at hok
  | cons kw kws =>
    obtain ⟨nm, x, kp⟩ := kw
    cases x <;> simp only [List.map_cons, okAs, Bool.and_eq_true, Bool.false_eq_true] at hok
    rename_i x px
    obtain ⟨k1, k2⟩ := hok
    obtain ⟨n1, n2, n3, n4⟩ := isN_inv G.N G.sc k1
    simp only [evalAs] at h
    split at h
    · rename_i ho
      have hn : slot r i ≠ .no := fun z => by rw [z] at ho; cases ho
      obtain ⟨v, ev, ow⟩ := w.slotAt hn
      exact ⟨_, pk_cons (pe_var n1 n2 n3 n4) pk_U, v, ev, hes S X W kws G k2 _ _ _ F H σ _ h w (as_ref ev s)⟩
    · cases h
theorem ca_nil : ClAs T call glob ER .nil := by
  intro S X W es kws G hok r o r' F H σ L Q h w s hL
  cases es <;> simp only [List.nil_append, List.cons_append, okAs, Bool.false_eq_true] at hok
  exact ⟨_, pa_nil, hL, ck_nil S X W kws G hok _ _ _ F H σ _ h w s⟩
theorem ca_val {e : CE} {es : CAs} (he : ClE T call glob ER e) (hk : ClK (T := T) (call := call) (glob := glob) (ER := ER) es) (hes : ClAs T call glob ER es) : ClAs T call glob ER (.val e es) := by
  intro S X W xs kws G hok r o r' F H σ L Q h w s hL
  cases xs with
  | nil => exact ⟨_, pa_nil, hL, ck_val he hk S X W kws G hok _ _ _ F H σ _ h w s⟩
  | cons x xs =>
    simp only [List.cons_append, okAs, Bool.and_eq_true] at hok
    obtain ⟨⟨k1, k2⟩, k3⟩ := hok
    simp only [evalAs] at h
    refine ⟨_, pa_cons pe_U pa_U (star_cons k3), ?_⟩
    show UE X x σ H fun v H1 => UA X xs σ H1 fun us H2 => L (us.length + 1) ∧ UK X kws σ H2 fun zs H3 => Q (v :: (us ++ zs)) H3
    rcases bind_inv h with ⟨z, h1, rfl⟩ | ⟨m, r1, h1, h⟩
    · exact he S X W x G k1 _ _ _ F H σ _ h1 w fun cls d F' H' XX => s cls d F' H' (XX.flag andF1)
    refine he S X W x G k1 _ _ _ F H σ _ h1 w fun v F1 H1 V1 => ?_
    obtain ⟨o2, r2, h2, h⟩ := bind_some h
    exact hes S X W xs kws G k2 _ _ _ F1 H1 σ (fun k => L (k + 1)) _ h2 V1.mid.wd (as_val V1 h s) hL
theorem ca_ref (i : Nat) {es : CAs} (hk : ClK (T := T) (call := call) (glob := glob) (ER := ER) es) (hes : ClAs T call glob ER es) : ClAs T call glob ER (.ref i es) := by
  intro S X W xs kws G hok r o r' F H σ L Q h w s hL
  cases xs with
  | nil => exact ⟨_, pa_nil, hL, ck_ref i hk S X W kws G hok _ _ _ F H σ _ h w s⟩
  | cons x xs =>
    cases x <;> simp only [List.cons_append, okAs, Bool.and_eq_true, Bool.false_eq_true] at hok
    rename_i x px
    obtain ⟨k1, k2⟩ := hok
    obtain ⟨n1, n2, n3, n4⟩ := isN_inv G.N G.sc k1
    simp only [evalAs] at h
    split at h
    · rename_i ho
      have hn : slot r i ≠ .no := fun z => by rw [z] at ho; cases ho
      obtain ⟨v, ev, ow⟩ := w.slotAt hn
      exact ⟨_, pa_cons (pe_var n1 n2 n3 n4) pa_U (star_cons rfl), v, ev, hes S X W xs kws G k2 _ _ _ F H σ (fun k => L (k + 1)) _ h w (as_ref ev s) hL⟩
    · cases h
end
end M
set_option Elab.async false
set_option linter.all false
set_option maxRecDepth 100000
set_option maxHeartbeats 1000000
set_option autoImplicit false
namespace M
open PySem PySem.Spec PyProof.Rows L2
theorem kwNames_each {env : PySem.Env} {pos : Pos} : ∀ {kws : List Keyword} {ks : List Str}, kwNames kws = some ks → ((backToKw pos (keywordEach kws env)).all (·.1.isSome) = true ∧ (backToKw pos (keywordEach kws env)).filterMap (·.1) = ks) ∧ (backToKw pos (keywordEach kws env)).any (·.1.isNone) = false ∧ kws.length = ks.length
  | [], _, h => by cases h; exact ⟨⟨rfl, rfl⟩, rfl, rfl⟩
  | ⟨some k, v, p⟩ :: r, ks, h => by
    simp only [kwNames] at h
    cases e : kwNames r with
    | none => rw [e] at h; cases h
    | some l =>
      rw [e] at h
      cases h
      obtain ⟨⟨h1, h2⟩, h3, h4⟩ := kwNames_each (env := env) (pos := pos) e
      refine ⟨⟨?_, ?_⟩, ?_, by simp [h4]⟩
      · show (true && (backToKw pos (keywordEach r env)).all (·.1.isSome)) = true
        rw [h1]; rfl
      · show k :: (backToKw pos (keywordEach r env)).filterMap (·.1) = _
        rw [h2]
      · show (false || (backToKw pos (keywordEach r env)).any (·.1.isNone)) = false
        rw [h3]; rfl
  | ⟨none, v, p⟩ :: r, ks, h => by simp [kwNames] at h
def tCallGW (n c : Nat) (sp : Sp) (gV : List V → List V) (E : L2.St → XK) (t tk : TA) : TE := fun σ H Q => t σ H fun vs H1 => vs.length = n ∧ tk σ H1 fun zs H2 => (vs ++ zs).length = n + c ∧ sp (gV (vs ++ zs)) H2 Q (E σ)
section
variable {X : Cx} {k n : Nat} {f : Addr} {fd : FuncData} {ps ks : List Str} {sp : Sp} {x : Str} {p pos : Pos} {t tk : TA} {E : L2.St → XK} {kws : List Keyword} {g : List Value → List Value} {gV : List V → List V}
theorem pe_callGW (G : FnG X.prog X.w X.K X.mg X.base k f fd ps sp) (hr : Room k X.A) (hg : X.A.guards = some []) (hgl : Gl X x) (hm : X.mg x = some (.ref f)) (hk : PySem.W.keepIn X.K (.ref f) = true)
    (hb : ∀ (s : Shared) (us ws : List Value), X.K.In s.heap → us.length = n → (us ++ ws).length = n + ks.length → (g (us ++ ws)).length = ps.length → BindsTo s fd ⟨us, ks.zip ws⟩ (ps.zip (g (us ++ ws))))
    (hrel : ∀ {vs : List V} {us : List Value}, Vals vs us → vs.length = n + ks.length → Vals (gV vs) (g us)) (hx : ∀ σ, PassesAt (L2.CX X.prog X.w) X σ (E σ)) {es : List Expr} (ha : PA X es t) (hkw : PK X kws tk) (hks : kwNames kws = some ks)
    (hdb : (x == ("__debug__" : Str)) = false) (hs : es.all notStar = true) : PE X (.Call (.Name x p) es kws pos) (tCallGW n ks.length sp gV E t tk) := by
  refine ⟨fun pins s σ H Q I h => ?_⟩
  refine wpAny_Call_Name_kw (ld_glob I hgl hm ?_ hdb)
  obtain ⟨⟨k1, k2⟩, k3, _⟩ := kwNames_each (env := X.env) (pos := pos) hks
  have fin : ∀ {us : List Value} {vs : List V} {H1 : Hp} {s1 : Shared}, L2.Inv X pins σ H1 s1 → Vals vs us → vs.length = n ∧ tk σ H1 (fun zs H2 => (vs ++ zs).length = n + ks.length ∧ sp (gV (vs ++ zs)) H2 Q (E σ)) →
      wpAny (model X.prog X.w) X.A (evalAll ((backToKw pos (keywordEach kws X.env)).map (·.2))) (fun zs s2 => X.K.In s2.heap ∧ wpAny (model X.prog X.w) X.A (PySem.call (.ref f) ([] ++ us) (((backToKw pos (keywordEach kws X.env)).filterMap (·.1)).zip zs)) (EP X pins σ Q) X.xe s2) X.xe s1 := by
    intro us vs H1 s1 I1 rv hs
    refine thn (hkw.run pos pins s1 σ H1 _ I1 hs.2) fun ws s2 ⟨zs, H2, I2, rz, q1, q2⟩ => ⟨I2.kIn, ?_⟩
    rw [k2]
    have rr : Vals (vs ++ zs) (us ++ ws) := rv.append rz
    have r3 := hrel rr q1
    have hbb := hb s2 us ws I2.kIn (by rw [← rv.length]; exact hs.1) (by rw [← rr.length]; exact q1) (by rw [← r3.length]; exact G.len _ _ _ _ q2)
    refine wpAny_call (codeAny_mono (run_G G hr hg hbb (hx σ) I2 r3 q2) fun rr s' hq => ?_)
    cases rr with
    | error e => exact hq
    | ok fl => cases fl <;> first | exact hq | exact hq.elim
  cases es with
  | nil =>
    intro Γ q hΓ
    obtain ⟨vs, H1, I1, rv, q1⟩ := (ha.run pos pins s σ H _ I h) Γ q hΓ
    exact PySem.W.callWith_KW0 (h₀ := X.base) I.ok.mod.kin hk k1 (fin I1 rv q1) (by show (false || (backToKw pos (keywordEach kws X.env)).any (·.1.isNone)) = false; rw [k3]; rfl) Γ q hΓ
  | cons e es =>
    have hs' := hs
    simp only [List.all_cons, Bool.and_eq_true] at hs'
    refine PySem.W.callWith_KW (h₀ := X.base) I.ok.mod.kin hk k1 (thn (ha.run pos pins s σ H _ I h) fun us s1 ⟨vs, H1, I1, rv, q⟩ => fin I1 rv q) ?_ (star_cons hs'.1)
    rw [star_none hs, k3]; rfl
end
theorem argsOf_nr {r r2 : Env} : ∀ {es : CAs} {ms : List MV}, (refsOf es).length = 0 → argsOf r es ms = argsOf r2 es ms
  | .nil, [], _ => by simp [argsOf]
  | .nil, _ :: _, _ => by simp [argsOf]
  | .val _ es, [], _ => by simp [argsOf]
  | .val _ es, m :: ms, h => by
    unfold refsOf at h
    simp only [argsOf]
    rw [argsOf_nr (es := es) h]
  | .ref _ _, _, h => by unfold refsOf at h; simp at h
theorem backIn_nr {r : Env} : ∀ {es : CAs} {ms : List MV}, (refsOf es).length = 0 → backIn r es ms = r
  | .nil, _, _ => by unfold backIn; rfl
  | .val _ _, [], _ => by unfold backIn; rfl
  | .val _ es, _ :: ms, h => by
    unfold refsOf at h
    unfold backIn
    exact backIn_nr (es := es) h
  | .ref _ _, _, h => by unfold refsOf at h; simp at h
theorem ArgF.nr {K : PySem.W.Frag} {F : Hp} {σ σ2 : L2.St} {es : CAs} {ms : List MV} {vs : List V} (a : ArgF K F σ es ms vs) : (refsOf es).length = 0 → ArgF K F σ2 es ms vs := by
  induction a with
  | nil => exact fun _ => .nil
  | val h _ ih => intro z; unfold refsOf at z; exact .val h (ih z)
  | ref h _ ih => intro z; unfold refsOf at z; simp at z
theorem quiet_refs : ∀ {es : CAs}, es.quiet = true → refsOf es = []
  | .nil, _ => by unfold refsOf; rfl
  | .val _ es, h => by
    unfold refsOf
    simp only [CAs.quiet, Bool.and_eq_true] at h
    exact quiet_refs h.2
  | .ref _ _, h => by simp [CAs.quiet] at h
theorem wd_nil {K : PySem.W.Frag} {H : Hp} : Wd K H H [] [] := ⟨Ex.refl H, rfl, fun i m e => by simp at e, fun i m e => by simp at e, fun i j m n v w a e => by simp at e⟩
theorem has_nr {K : PySem.W.Frag} {F : Hp} {σ : L2.St} {es : CAs} {ms args : List MV} {vs : List V} {r : Env} (hn : (refsOf es).length = 0) (a : ArgF K F σ es ms vs) (e : argsOf r es ms = some args) : ∀ b, ¬ Has args (vs.map some) b := fun b h => by
  obtain ⟨p, i, v, z1, _⟩ := args_has a e h
  have := refAt_mem z1
  cases hr : refsOf es with
  | nil => rw [hr] at this; cases this
  | cons _ _ => rw [hr] at hn; simp at hn
section
variable {T : Tab} {call : Call} {glob : Nat → Option D} {ER : EK}
def tmpOf : MV → Option MV
  | .dat d => some (MV.of false d)
  | .lst xs => some (.tmp (.lst xs))
  | _ => none
theorem tmp_val {K : PySem.W.Frag} {F H F2 H2 : Hp} {r : Env} {σ : L2.St} {args args' : List MV} {vs : List V} {m m' : MV} {v : V} (w : Wd K F H r σ) (hn : ∀ b, ¬ Has args (vs.map some) b) (V1 : VP K H H args (vs.map some) false m args' v F2 H2)
    (hm : tmpOf m = some m') : VP K F H r σ true m' r v F H2 := by
  have M1 := call_tmp w hn V1.mid
  unfold tmpOf at hm
  split at hm
  · rename_i d
    cases hm
    exact M1.of (Rep.mono V1.mid.wd.ex V1.own) (fun z => by cases z)
  · rename_i xs
    cases hm
    exact M1.tmp (V1.own.rep V1.mid.wd.ex)
  · cases hm
theorem call_ok {K : PySem.W.Frag} {n f : Nat} {es : CAs} {ms : List MV} {ws vs : List V} {F H F1 H1 : Hp} {r r1 r' : Env} {σ : L2.St} {o : Except Exc MV} {W : XK} {Q : VK} (hers : ∀ x cls d F H F', ER x cls d F H → x.fs.all D.scal = true → ER x cls d F' H)
    (M1 : Mid K F H r σ es.quiet r1 F1 H1) (ar : ArgR K F1 H1 σ es ms ws vs) (fr : FrA r σ H es.quiet r1 ms ws) (h : doCall call f es ms r1 = some (o, r')) (hl : ∀ args z, call f args = some z → args.length = n) (s : Sat K ER W F H r σ es.quiet o r' Q) :
    SpF K ER n (call f) vs H1 Q W := by
  unfold doCall at h
  split at h
  · cases h
  rename_i args ha
  split at h
  · cases h
  rename_i h1
  split at h
  · cases h
  rename_i h2
  have nd : (refsOf es).Nodup := by simpa using h2
  cases ht : ms.any MV.temp with
  | true =>
    rw [ht] at h h1
    have hr : (refsOf es).length = 0 := by simpa using h1
    have ar0 : ArgF K H1 σ es ms vs := ar.toF (repAll_tmp M1.wd.ex ar.own)
    have ar1 : ArgF K H1 [] es ms vs := ar0.nr hr
    have ha1 : argsOf [] es ms = some args := by rw [← ha]; exact argsOf_nr hr
    have w1 := args_wd (wd_nil (K := K) (H := H1)) nd ar1 ha1
    have hn := has_nr hr ar1 ha1
    unfold afterCall at h
    split at h
    · cases h
    · rename_i x args' hc
      split at h
      · cases h
      rename_i hx
      cases h
      refine ⟨?_, H1, args, _, args', w1, hc, fun cls d F2 H2 XX => ?_⟩
      · rw [← args_len ar1 ha1]; exact hl _ _ hc
      · rw [backIn_nr hr] at s
        have M2 := call_tmp M1.wd hn XX.mid
        exact s cls d F1 H2 ⟨(M1.trans M2).flag fun z => by simpa using z, hers _ _ _ _ _ _ XX.exc (by simpa using hx)⟩
    · rename_i m args' hc
      rw [backIn_nr hr] at h
      have key : ∀ m', tmpOf m = some m' → o = .ok m' → r' = r1 → SpF K ER n (call f) vs H1 Q W := fun m' e1 e2 e3 => by
        subst e2 e3
        refine ⟨?_, H1, args, _, args', w1, hc, fun v F2 H2 V2 => ?_⟩
        · rw [← args_len ar1 ha1]; exact hl _ _ hc
        · exact s v F1 H2 ((M1.val (tmp_val M1.wd hn V2 e1)).flag fun z => by simpa using z)
      split at h
      · rename_i hb; cases hb
      · rename_i d
        obtain ⟨rfl, e3⟩ := ret_inv h
        exact key _ rfl rfl e3
      · rename_i xs
        obtain ⟨rfl, e3⟩ := ret_inv h
        exact key _ rfl rfl e3
      · cases h
  | false =>
    rw [ht] at h
    obtain ⟨F3, e3, M3, rp⟩ := M1.freezeAll ar.own fr ht
    have ar0 : ArgF K F3 σ es ms vs := ar.toF rp
    have w1 := args_wd M3.wd nd ar0 ha
    have hq : (es.quiet && (refsOf es).isEmpty) = false → es.quiet = false := fun z => by
      cases hz : es.quiet with
      | false => rfl
      | true => rw [hz, quiet_refs hz] at z; cases z
    unfold afterCall at h
    split at h
    · cases h
    · rename_i x args' hc
      rw [if_neg (by simp)] at h
      cases h
      refine ⟨?_, F3, args, _, args', w1, hc, fun cls d F2 H2 XX => ?_⟩
      · rw [← args_len ar0 ha]; exact hl _ _ hc
      · exact s cls d F2 H2 ⟨(M3.trans (call_mid M3.wd nd ar0 ha XX.mid)).flag hq, XX.exc⟩
    · rename_i m args' hc
      split at h
      · obtain ⟨rfl, e5⟩ := ret_inv h
        subst e5
        refine ⟨?_, F3, args, _, args', w1, hc, fun v F2 H2 V2 => ?_⟩
        · rw [← args_len ar0 ha]; exact hl _ _ hc
        · exact s v F2 H2 ((M3.val (call_val M3.wd nd ar0 ha V2)).flag hq)
      · rename_i hb; cases hb
      · rename_i hb; cases hb
      · cases h
theorem okAs_star : ∀ {S : Sc} {es : CAs} {xs ys : List Expr}, okAs T S es (xs ++ ys) = true → xs.all notStar = true
  | _, _, [], _, _ => rfl
  | _, .nil, _ :: _, _, h => by simp only [List.cons_append, okAs, Bool.false_eq_true] at h
  | S, .val e es, x :: xs, ys, h => by
    simp only [List.cons_append, okAs, Bool.and_eq_true] at h
    simp only [List.all_cons, Bool.and_eq_true]
    exact ⟨h.2, okAs_star h.1.2⟩
  | S, .ref i es, x :: xs, ys, h => by
    cases x <;> simp only [List.cons_append, okAs, Bool.and_eq_true, Bool.false_eq_true] at h
    simp only [List.all_cons, Bool.and_eq_true]
    exact ⟨rfl, okAs_star h.2⟩
theorem argR_len {K : PySem.W.Frag} {F H : Hp} {σ : L2.St} {S : Sc} : ∀ {es : CAs} {ms : List MV} {ws vs : List V} {xs : List Expr}, ArgR K F H σ es ms ws vs → okAs T S es xs = true → vs.length = xs.length := by
  intro es ms ws vs xs a
  induction a generalizing xs with
  | nil => intro h; cases xs <;> simp only [okAs, Bool.false_eq_true] at h; rfl
  | val _ _ ih =>
    intro h
    cases xs <;> simp only [okAs, Bool.false_eq_true, Bool.and_eq_true] at h
    simp [ih h.1.2]
  | ref _ _ ih =>
    intro h
    cases xs with
    | nil => simp only [okAs, Bool.false_eq_true] at h
    | cons x xs =>
      cases x <;> simp only [okAs, Bool.false_eq_true, Bool.and_eq_true] at h
      simp [ih h.2]
theorem cl_call (f : Nat) {es : CAs} (h0 : ClAs T call glob ER es) : ClE T call glob ER (.call f es) := by
  intro S X W e G hok r o r' F H σ Q h w s
  cases e <;> try (simp only [okE, Bool.false_eq_true] at hok; done)
  rename_i fn args kws p
  cases fn <;> try (simp only [okE, Bool.false_eq_true] at hok; done)
  rename_i x px
  cases kws <;> simp only [okE, Bool.false_eq_true, Bool.and_eq_true, beq_iff_eq] at hok
  obtain ⟨⟨k1, k2⟩, k3⟩ := hok
  obtain ⟨g1, g2, g3⟩ := isG_inv G.sc k1
  obtain ⟨k, hroom, hf⟩ := G.fns
  obtain ⟨a, fd, ps, f1, f2, f3, f4, f5, f6⟩ := hf x f k2
  simp only [evalE] at h
  have k3' : okAs T S es (args ++ ([] : List Keyword).map Keyword.value) = true := by simpa using k3
  refine ⟨_, pe_callGW (n := args.length) (ks := []) (g := fun us => us) (gV := fun vs => vs) f3 hroom G.guards g1 f1 f2 (fun s us ws z1 z2 z3 z4 => ?_) (fun z _ => z) G.pas pa_U pk_U rfl g2 (okAs_star k3'), ?_⟩
  · have z5 : ws = [] := by
      rw [List.length_append, z2] at z3
      cases ws with
      | nil => rfl
      | cons _ _ => simp at z3
    subst z5
    exact f4 s us z1 z4
  show UA X args σ H fun vs H1 => vs.length = args.length ∧ UK X [] σ H1 fun zs H2 => (vs ++ zs).length = args.length + 0 ∧ SpF X.K ER ps.length (call f) (vs ++ zs) H2 Q (WE W σ)
  rcases bind_inv h with ⟨z, h1, rfl⟩ | ⟨ms, r1, h1, h⟩
  · exact h0 S X W args [] G k3' _ _ _ F H σ (fun k => k = args.length) (fun vs H2 => vs.length = args.length + 0 ∧ SpF X.K ER ps.length (call f) vs H2 Q (WE W σ)) h1 w (fun cls d F' H' XX => s cls d F' H' XX) rfl
  refine h0 S X W args [] G k3' _ _ _ F H σ (fun k => k = args.length) (fun vs H2 => vs.length = args.length + 0 ∧ SpF X.K ER ps.length (call f) vs H2 Q (WE W σ)) h1 w (fun ws vs F1 H1 M1 ar fr => ?_) rfl
  exact ⟨argR_len ar k3, call_ok G.ers M1 ar fr h f5 s⟩
theorem wd_dat {K : PySem.W.Frag} {F H : Hp} {ds : List D} {vs : List V} (ex : Ex F H) (h : RepAll K F ds vs) : Wd K F H (ds.map .dat) (vs.map some) where
  ex := ex
  len := by rw [List.length_map, List.length_map]; exact h.len
  nt := fun i m e => by
    rw [List.getElem?_map] at e
    cases z : ds[i]? with
    | none => rw [z] at e; cases e
    | some d => rw [z] at e; cases e; rfl
  at_ := fun i m e _ => by
    rw [List.getElem?_map] at e
    cases z : ds[i]? with
    | none => rw [z] at e; cases e
    | some d =>
      rw [z] at e; cases e
      obtain ⟨v, h1, h2⟩ := h.get z
      exact ⟨v, map_some_get.mpr h1, h2⟩
  sep := fun i j m n v w a e _ f => by
    rw [List.getElem?_map] at e
    cases z : ds[i]? with
    | none => rw [z] at e; cases e
    | some d => rw [z] at e; cases e; exact f.elim
theorem has_dat {ds : List D} {σ : L2.St} : ∀ b, ¬ Has (ds.map .dat) σ b := fun b ⟨i, m, v, e, _, f⟩ => by
  rw [List.getElem?_map] at e
  cases z : ds[i]? with
  | none => rw [z] at e; cases e
  | some d => rw [z] at e; cases e; exact f
theorem mid_nohas {K : PySem.W.Frag} {F H F2 H2 : Hp} {r args args' : Env} {σ σ' : L2.St} (w : Wd K F H r σ) (hn : ∀ b, ¬ Has args σ' b) (M1 : Mid K F H args σ' false args' F2 H2) : Mid K F H r σ true r F2 H2 := by
  have st : Stp F H (fun b => true = false ∧ Has r σ b) F2 H2 := M1.st.mono fun b z => absurd z.2 (hn b)
  refine ⟨⟨M1.wd.ex, w.len, w.nt, fun j m e1 n => ?_, w.sep⟩, st, fun b h => .inl h⟩
  obtain ⟨v, e2, o⟩ := w.at_ j m e1 n
  exact ⟨v, e2, o.step st (fun _ _ z => by cases z.1) fun _ _ z => by cases z.1⟩
theorem val_nohas {K : PySem.W.Frag} {F H F2 H2 : Hp} {r args args' : Env} {σ σ' : L2.St} {m : MV} {v : V} (w : Wd K F H r σ) (hn : ∀ b, ¬ Has args σ' b) (V1 : VP K F H args σ' false m args' v F2 H2) : VP K F H r σ true m r v F2 H2 := by
  refine ⟨mid_nohas w hn V1.mid, V1.own, fun b f => ?_⟩
  have hb : H b = none := (V1.fr b f).1.resolve_left fun z => hn b z.2
  exact ⟨.inr hb, fun h => (w.has h).1 hb⟩
theorem rep_perm {K : PySem.W.Frag} {F : Hp} {ds : List D} {vs : List V} (h : RepAll K F ds vs) : ∀ {perm : List Nat}, (∀ i ∈ perm, i < vs.length) → RepAll K F (perm.map fun i => ds.getD i .non) (perm.map fun i => vs.getD i .non)
  | [], _ => .nil
  | i :: perm, hp => by
    have hi := hp i List.mem_cons_self
    have hi' : i < ds.length := by rw [h.len]; exact hi
    obtain ⟨v, e, rp⟩ := h.get (List.getElem?_eq_getElem hi')
    refine .cons ?_ (rep_perm h fun j hj => hp j (List.mem_cons_of_mem _ hj))
    show Rep K F (ds.getD i .non) (vs.getD i .non)
    rw [List.getD_eq_getElem?_getD, List.getD_eq_getElem?_getD, e, List.getElem?_eq_getElem hi']
    exact rp
theorem vals_perm {vs : List V} {us : List Value} (h : Vals vs us) : ∀ {perm : List Nat}, (∀ i ∈ perm, i < vs.length) → Vals (perm.map fun i => vs.getD i .non) (perm.map fun i => us.getD i .none)
  | [], _ => .nil
  | i :: perm, hp => by
    have hi := hp i List.mem_cons_self
    obtain ⟨u, e, rv⟩ := h.get (List.getElem?_eq_getElem hi)
    refine .cons ?_ (vals_perm h fun j hj => hp j (List.mem_cons_of_mem _ hj))
    show L2.RelV (vs.getD i .non) (us.getD i .none)
    rw [List.getD_eq_getElem?_getD, List.getD_eq_getElem?_getD, e, List.getElem?_eq_getElem hi]
    exact rv
theorem fz_perm (ms : List MV) (perm : List Nat) : (perm.map fun i => MV.dat (ms.getD i .no).fz) = (perm.map fun i => (ms.map MV.fz).getD i .non).map MV.dat := by
  rw [List.map_map]
  refine List.map_congr_left fun i _ => ?_
  simp only [Function.comp, List.getD_eq_getElem?_getD, List.getElem?_map]
  cases ms[i]? <;> rfl
theorem argR_nr {K : PySem.W.Frag} {F H : Hp} {σ : L2.St} {es : CAs} {ms : List MV} {ws vs : List V} (a : ArgR K F H σ es ms ws vs) : (refsOf es).length = 0 → ws = vs := by
  induction a with
  | nil => exact fun _ => rfl
  | val _ _ ih => intro z; unfold refsOf at z; rw [ih z]
  | ref _ _ ih => intro z; unfold refsOf at z; simp at z
theorem callk_ok {K : PySem.W.Frag} {n f : Nat} {es : CAs} {perm : List Nat} {ms : List MV} {vs : List V} {F H F1 H1 : Hp} {r r1 r' : Env} {σ : L2.St} {o : Except Exc MV} {W : XK} {Q : VK} (hers : ∀ x cls d F H F', ER x cls d F H → x.fs.all D.scal = true → ER x cls d F' H)
    (hr : (refsOf es).length = 0) (hp : ∀ i ∈ perm, i < vs.length)
    (M1 : Mid K F H r σ es.quiet r1 F1 H1) (ar : OwnAll K F1 H1 ms vs) (fr : FrA r σ H es.quiet r1 ms vs) (h : afterCall (ms.any MV.temp) es (call f (perm.map fun i => .dat (ms.getD i .no).fz)) r1 = some (o, r')) (hl : ∀ args z, call f args = some z → args.length = n) (s : Sat K ER W F H r σ es.quiet o r' Q) :
    SpF K ER n (call f) (perm.map fun i => vs.getD i .non) H1 Q W := by
  rw [fz_perm] at h
  have hlen : ∀ {z}, call f ((perm.map fun i => (ms.map MV.fz).getD i .non).map MV.dat) = some z → (perm.map fun i => vs.getD i V.non).length = n := fun hc => by
    have := hl _ _ hc
    simpa using this
  cases ht : ms.any MV.temp with
  | true =>
    rw [ht] at h
    have rp := rep_perm (repAll_tmp M1.wd.ex ar) hp
    have w1 := wd_dat (Ex.refl H1) rp
    unfold afterCall at h
    split at h
    · cases h
    · rename_i x args' hc
      split at h
      · cases h
      rename_i hx
      cases h
      refine ⟨hlen hc, H1, _, _, args', w1, hc, fun cls d F2 H2 XX => ?_⟩
      rw [backIn_nr hr] at s
      have M2 := call_tmp M1.wd has_dat XX.mid
      exact s cls d F1 H2 ⟨(M1.trans M2).flag fun z => by simpa using z, hers _ _ _ _ _ _ XX.exc (by simpa using hx)⟩
    · rename_i m args' hc
      rw [backIn_nr hr] at h
      have key : ∀ m', tmpOf m = some m' → o = .ok m' → r' = r1 → SpF K ER n (call f) (perm.map fun i => vs.getD i .non) H1 Q W := fun m' e1 e2 e3 => by
        subst e2 e3
        exact ⟨hlen hc, H1, _, _, args', w1, hc, fun v F2 H2 V2 => s v F1 H2 ((M1.val (tmp_val M1.wd has_dat V2 e1)).flag fun z => by simpa using z)⟩
      split at h
      · rename_i hb; cases hb
      · rename_i d
        obtain ⟨rfl, e3⟩ := ret_inv h
        exact key _ rfl rfl e3
      · rename_i xs
        obtain ⟨rfl, e3⟩ := ret_inv h
        exact key _ rfl rfl e3
      · cases h
  | false =>
    rw [ht] at h
    obtain ⟨F3, e3, M3, rp0⟩ := M1.freezeAll ar fr ht
    have rp := rep_perm rp0 hp
    have w1 := wd_dat M3.wd.ex rp
    unfold afterCall at h
    split at h
    · cases h
    · rename_i x args' hc
      rw [if_neg (by simp)] at h
      cases h
      rw [backIn_nr hr] at s
      exact ⟨hlen hc, F3, _, _, args', w1, hc, fun cls d F2 H2 XX => s cls d F2 H2 ⟨(M3.trans (mid_nohas M3.wd has_dat XX.mid)).flag fun z => by simpa using z, XX.exc⟩⟩
    · rename_i m args' hc
      rw [backIn_nr hr] at h
      split at h
      · obtain ⟨rfl, e5⟩ := ret_inv h
        subst e5
        exact ⟨hlen hc, F3, _, _, args', w1, hc, fun v F2 H2 V2 => s v F2 H2 ((M3.val (val_nohas M3.wd has_dat V2)).flag fun z => by simpa using z)⟩
      · rename_i hb; cases hb
      · rename_i hb; cases hb
      · cases h
theorem cl_callk (f : Nat) (perm : List Nat) {es : CAs} (h0 : ClAs T call glob ER es) : ClE T call glob ER (.callk f perm es) := by
  intro S X W e G hok r o r' F H σ Q h w s
  cases e <;> try (simp only [okE, Bool.false_eq_true] at hok; done)
  rename_i fn args kws p
  cases fn <;> try (simp only [okE, Bool.false_eq_true] at hok; done)
  rename_i x px
  simp only [okE, Bool.false_eq_true, Bool.and_eq_true, beq_iff_eq] at hok
  obtain ⟨⟨⟨⟨k1, k2⟩, kk⟩, k3⟩, k4⟩ := hok
  split at kk
  case h_2 => cases kk
  rename_i ks hks
  have kk' : (f, args.length, ks, perm) ∈ T.kw := by simpa using kk
  obtain ⟨g1, g2, g3⟩ := isG_inv G.sc k1
  obtain ⟨k, hroom, hf⟩ := G.fns
  obtain ⟨a, fd, ps, f1, f2, f3, f4, f5, f6⟩ := hf x f k2
  obtain ⟨b1, b2, b3⟩ := f6 _ _ _ kk'
  obtain ⟨_, _, hkl⟩ := kwNames_each (env := X.env) (pos := p) hks
  simp only [evalE] at h
  refine ⟨_, pe_callGW (n := args.length) (ks := ks) (g := fun us => perm.map fun i => us.getD i .none) (gV := fun vs => perm.map fun i => vs.getD i .non) f3 hroom G.guards g1 f1 f2 (fun s us ws z1 z2 z3 z4 => b3 s us ws z1 z2 z3) (fun z zl => vals_perm z fun i hi => by rw [zl]; exact b2 i hi) G.pas pa_U pk_U hks g2 (okAs_star k3), ?_⟩
  show UA X args σ H fun vs H1 => vs.length = args.length ∧ UK X kws σ H1 fun zs H2 => (vs ++ zs).length = args.length + ks.length ∧ SpF X.K ER ps.length (call f) (perm.map fun i => (vs ++ zs).getD i .non) H2 Q (WE W σ)
  rcases bind_inv h with ⟨z, h1, rfl⟩ | ⟨ms, r1, h1, h⟩
  · exact h0 S X W args kws G k3 _ _ _ F H σ (fun k => k = args.length) (fun vs H2 => vs.length = args.length + ks.length ∧ SpF X.K ER ps.length (call f) (perm.map fun i => vs.getD i .non) H2 Q (WE W σ)) h1 w (fun cls d F' H' XX => s cls d F' H' XX) rfl
  refine h0 S X W args kws G k3 _ _ _ F H σ (fun k => k = args.length) (fun vs H2 => vs.length = args.length + ks.length ∧ SpF X.K ER ps.length (call f) (perm.map fun i => vs.getD i .non) H2 Q (WE W σ)) h1 w (fun ws vs F1 H1 M1 ar fr => ?_) rfl
  split at h
  · cases h
  rename_i hr
  have hr' : (refsOf es).length = 0 := by simpa using hr
  have hlen : vs.length = args.length + ks.length := by
    rw [argR_len ar k3, List.length_append, List.length_map, hkl]
  have e := argR_nr ar hr'
  subst e
  exact ⟨hlen, callk_ok G.ers hr' (fun i hi => by rw [hlen]; exact b2 i hi) M1 ar.own fr h f5 s⟩
end
end M
set_option Elab.async false
set_option linter.all false
set_option maxRecDepth 100000
set_option maxHeartbeats 1000000
set_option autoImplicit false
namespace M
open PySem PySem.Spec PyProof.Rows L2
theorem meets_enum1 {v : Value} {o : Obj} {H : Heap → Prop} (B : Begins v o H) :
    Meets (Builtin.«enumerate.__new__» ⟨[.type "enumerate", v], []⟩) (fun _ R s => H s.heap ∧
      R (.ok (.ret (.ref (s.heap.push o).objs.size))) { s with heap := (s.heap.push o).push { cls := .type "enumerate", data := .fields #[.none, .bool false, .ref s.heap.objs.size, rawInt 0, .none, .none] } }) :=
  .of_wp fun prog w A R s h => by
    obtain ⟨hp, g, d, tk, os⟩ := s; obtain ⟨h1, h⟩ := h
    have hsub := sub_enumerate
    have q1 : ∀ {A' : Around} {E : Value → Shared → Prop} {Q : Value → Shared → Prop}, Q (.ref hp.objs.size) ⟨hp.push o, g, d, tk, os⟩ → wpAny (model prog w) A' (pyIter v) Q E ⟨hp, g, d, tk, os⟩ :=
      fun q => B.iter prog w _ _ ⟨hp, g, d, tk, os⟩ _ h1 q
    wp_walk using q1
    refine wpAny_stack_any fun st => wpAny_pure ?_
    split
    · rename_i c _ _ _ _ _
      cases (c == Value.type "enumerate")
      · wp_walk using q1
        exact ⟨_, rfl, h⟩
      · wp_walk using q1
        exact ⟨_, rfl, h⟩
    · wp_walk using q1
      exact ⟨_, rfl, h⟩
section
variable {prog : Program} {w : World} {A : Around} {E : Value → Shared → Prop} {s : Shared}
theorem enum1_begins {v : Value} {o : Obj} {H : Heap → Prop} {Q : Value → Shared → Prop} (B : Begins v o H) (h1 : H s.heap)
    (h : ∀ h', IsEnum h' (s.heap.objs.size + 1) s.heap.objs.size 0 .none → h'.get? s.heap.objs.size = some o → h'.objs.size = s.heap.objs.size + 2 →
      (∀ b o, s.heap.get? b = some o → h'.get? b = some o) → Q (.ref (s.heap.objs.size + 1)) { s with heap := h' }) :
    wpAny (model prog w) A (call (.type "enumerate") [v]) Q E s := by
  refine callType_new F.called_enumerate (by decide) (F.typeCall_enumerate_1 _) (F.newCall_enumerate_1 _) (fun obj => F.args_object_init_2 obj _) F.entry_enumerate_new
    (meets_enum1 B) ⟨h1, ?_⟩
  have hz : (s.heap.push o).objs.size = s.heap.objs.size + 1 := Heap.size_push ..
  show _ ∧ _
  rw [hz]
  have he : IsEnum ((s.heap.push o).push { cls := .type "enumerate", data := .fields #[.none, .bool false, .ref s.heap.objs.size, rawInt 0, .none, .none] }) (s.heap.objs.size + 1) s.heap.objs.size 0 .none := by
    have := Heap.get?_push_size (s.heap.push o) (o := { cls := .type "enumerate", data := .fields #[.none, .bool false, .ref s.heap.objs.size, rawInt 0, .none, .none] }) rfl
    rw [hz] at this; exact this
  refine ⟨⟨_, he, rfl⟩, h _ he (Heap.get?_push_of_some _ (Heap.get?_push_size _ B.free)) (by rw [Heap.size_push, hz]) fun b o x => Heap.get?_push_of_some _ (Heap.get?_push_of_some _ x)⟩
end
def IteT (K : PySem.W.Frag) (a : Addr) : It :=
  ⟨fun i H => ∃ (xs : List V) (x : V), SqT K H a xs ∧ xs[i]? = some x, fun i H v H' => ∃ T x, v = .ref T ∧ H T = none ∧ H' = upd H T (.tup [.int (i : Nat), x]) ∧ ∀ xs, SqT K H a xs → xs[i]? = some x, fun i H => ∃ xs : List V, SqT K H a xs ∧ xs.length = i⟩
theorem turn_enumT {P : Program} {w : World} {K : PySem.W.Frag} {elts : List Expr} {kk : Nat} {tpos : Pos} (a e it : Addr) (hae : a ≠ e) (hai : a ≠ it) :
    Turn P w K (.Tuple elts kk tpos) (IteT K a) [e, it] e (fun i h => (∃ old, IsEnum h e it ((i : Nat) : Int) old) ∧ h.IsTupleIter it a i ∧ e ≠ it) where
  mem := by simp
  obj := fun i h st b hb => by
    obtain ⟨⟨old, he⟩, ⟨o, ho, hc, hd⟩, _⟩ := st
    have e' : b = e ∨ b = it := by simpa using hb
    rcases e' with z | z
    · rw [z]; exact ⟨_, he, fun v q => nomatch q⟩
    · rw [z]; exact ⟨o, ho, fun v q => by rw [hd] at q; cases q⟩
  keep := fun i h h' st k => let ⟨⟨old, he⟩, hi, hne⟩ := st; ⟨⟨old, k e (by simp) _ he⟩, hi.at fun o q => k it (by simp) o q, hne⟩
  item := by
    intro X hP hw hK hc i pins s σ H E I hf st hg
    subst hP hw hK
    obtain ⟨⟨old, he⟩, hit, hne⟩ := st
    obtain ⟨xs, x, hq, hx⟩ := hg
    obtain ⟨its, rv, p, hz⟩ := I.tuple hq
    obtain ⟨u, hu, ru⟩ := rv.get hx
    have hel : e < s.heap.objs.size := Heap.lt_size he
    have hil : it < s.heap.objs.size := by obtain ⟨_, q, _⟩ := hit; exact Heap.lt_size q
    have pt : s.heap.IsTuple a its.toArray := p
    have hlt : i < its.toArray.size := by
      have := (List.getElem?_eq_some_iff.mp hu).1
      simpa using this
    have hh : X.A.in1.handled = none := I.ok.hd hc
    refine wpAny_pyNext_enum_itemD (Draws.tuple hh it a hai its.toArray) he ⟨hit, pt⟩ hlt hne (by simp only [List.mem_cons, List.mem_singleton, List.not_mem_nil, or_false, not_or]; exact ⟨hne, Ne.symm hae⟩) fun x' h' tk hPx ho hst' hT hsz hk => ?_
    have ex : x' = u := by
      have z : its.toArray[i]? = some x' := hPx
      rw [← Array.getElem?_toList] at z
      have z' : its[i]? = some x' := z
      rw [hu] at z'
      exact (Option.some.inj z').symm
    subst ex
    refine ⟨_, rfl, wpAny_letOwnedTupleGo_enum (s := { s with heap := h', toks := tk + 1 }) ho fun h'' he' sb => ?_⟩
    have hT2 : h''.get? s.heap.objs.size = some { cls := .type "tuple", data := .seq #[.int i tk, x'] } := (sb.2 _ (Nat.ne_of_gt hel)).trans hT
    have new : ObjOk X.prog X.w (upd H s.heap.objs.size (.tup [.int (i : Nat), x])) h'' s.heap.objs.size (.tup [.int (i : Nat), x]) :=
      ⟨by show 2 ≤ sizeLine; decide, [.int i tk, x'], .cons ⟨_, rfl⟩ (.cons ru .nil), ⟨_, hT2, rfl, _, rfl⟩⟩
    have I1 : Inv X pins σ (upd H s.heap.objs.size (.tup [.int (i : Nat), x])) { s with heap := h'', toks := tk + 1 } :=
      I.turnedNew (ch := [e, it]) (fun b ob hb q => (sb.2 b (fun z => hb (by simp [z]))).trans (hk b ob (fun z => hb (by simp [z])) (fun z => hb (by simp [z])) q)) hf (Nat.le_refl _) new
    refine ⟨.ref s.heap.objs.size, _, I1, rfl, ⟨_, x, rfl, I.hok.fresh (Nat.le_refl _), rfl, fun ys hy => by rw [I.tuple_inj hy hq]; exact hx⟩, ⟨⟨x', ?_⟩, hst'.1.at fun o q => (sb.2 it (Ne.symm hne)).trans q, hne⟩, fun b hb => ?_⟩
    · have e1 : ((i + 1 : Nat) : Int) = (i : Int) + 1 := by omega
      rw [e1]; exact he'
    · have hb' : b < s.heap.objs.size := by
        have e' : b = e ∨ b = it := by simpa using hb
        rcases e' with z | z
        · rw [z]; exact hel
        · rw [z]; exact hil
      rw [upd_ne (Nat.ne_of_lt hb')]
      exact (hf b hb).1
  done := by
    intro X hP hw hK hc i pins s σ H E I hf st hg
    subst hP hw hK
    obtain ⟨⟨old, he⟩, hit, hne⟩ := st
    obtain ⟨xs, hq, hx⟩ := hg
    obtain ⟨its, rv, p, hz⟩ := I.tuple hq
    obtain ⟨f0, f1, f2, f3, f4, f5⟩ := hf it (by simp)
    have hl := rv.length
    have pt : s.heap.IsTuple a its.toArray := p
    have hsz : its.toArray.size = i := by simp; omega
    have hh : X.A.in1.handled = none := I.ok.hd hc
    exact wpAny_pyNext_enum_endD (Draws.tuple hh it a hai its.toArray) he ⟨by rw [hsz]; exact hit, pt⟩ fun h' eb => ⟨rfl, I.turned (t' := s.toks) (fun b o hb q => eb b o hb q) f0 f1 f3 f4 f5⟩
  self := fun A i s Q E st h => let ⟨⟨_, he⟩, _⟩ := st; wpAny_pyIter_enum he h
def iEnumT (K : PySem.W.Frag) (ta : TA) : TI := fun σ H R => ta σ H fun vs H1 => ∃ a xs, vs = [.ref a] ∧ SqT K H1 a xs ∧ R (IteT K a) H1
theorem pi_enumT {X : Cx} {e : Expr} {ta : TA} {p pos tpos : Pos} {elts : List Expr} {kk : Nat} (hg : Gl X "enumerate") (hm : X.mg "enumerate" = none) (ha : PA X [e] ta) (hs : starEach [e] X.env = [(false, eval e X.env)]) :
    PI X (.Tuple elts kk tpos) (.Call (.Name "enumerate" p) [e] [] pos) (iEnumT X.K ta) := by
  refine ⟨fun pins s σ H R I h => ?_⟩
  refine Call_ (ld_blt I hg hm boot_enumerate (PyProof.Rows.callWith_type1 (thn (ha.run pos pins s σ H _ I h) fun us s1 ⟨vs, H1, I1, r1, q1⟩ => ?_) hs rfl))
  obtain ⟨a, xs, ex, hq, q⟩ := q1
  subst ex
  cases r1 with
  | cons r rr =>
    cases rr
    cases r
    obtain ⟨its, rv, p', hz⟩ := I1.tuple hq
    have pt : s1.heap.IsTuple a its.toArray := p'
    have la : a < s1.heap.objs.size := by obtain ⟨o, q, _⟩ := pt; exact Heap.lt_size q
    refine enum1_begins (begins_tuple a its.toArray) pt fun h' he hit hsz hk => wpAny_pyIter_enum he ?_
    have I2 : Inv X pins σ H1 { s1 with heap := h' } := I1.kept (t' := s1.toks) hk
    refine ⟨s1.heap.objs.size + 1, [s1.heap.objs.size + 1, s1.heap.objs.size], _, _, H1, rfl, I2, turn_enumT a (s1.heap.objs.size + 1) s1.heap.objs.size (Nat.ne_of_lt (Nat.lt_succ_of_lt la)) (Nat.ne_of_lt la), ⟨⟨.none, he⟩, ⟨_, hit, rfl, rfl⟩, Nat.succ_ne_self _⟩, fun b hb => ?_, q⟩
    have e' : b = s1.heap.objs.size + 1 ∨ b = s1.heap.objs.size := by simpa using hb
    have hle : s1.heap.objs.size ≤ b := by
      rcases e' with z | z
      · rw [z]; exact Nat.le_add_right _ _
      · rw [z]; exact Nat.le_refl _
    exact I1.fpOk hle (I1.hok.fresh hle)
end M
set_option Elab.async false
set_option linter.all false
set_option maxRecDepth 100000
set_option maxHeartbeats 1000000
set_option autoImplicit false
namespace M
open PySem PySem.Spec PyProof.Rows L2
section
variable {K : PySem.W.Frag} {F H : Hp} {a b : Addr} {vs us : List V} {ds es : List D}
theorem it_same {J : It} {F : Hp} (hg : ∀ (i : Nat) (d : D) (F' H' : Hp), Ex F F' → Ex F' H' → ds[i]? = some d → J.go i H' ∧ ∀ x H'', J.yld i H' x H'' → H'' = H' ∧ Rep K F' d x) (hs : ∀ (F' H' : Hp), Ex F F' → Ex F' H' → J.stop ds.length H') : ItR K J ds F := fun i F' H' e1 e2 => by
  refine ⟨fun d hd => ?_, fun e => by subst e; exact hs F' H' e1 e2⟩
  obtain ⟨h1, h2⟩ := hg i d F' H' e1 e2 hd
  refine ⟨h1, fun x H'' y => ?_⟩
  obtain ⟨rfl, rp⟩ := h2 x H'' y
  exact ⟨F', Ex.refl F', e2, Ex.refl H'', fun a h => .inl h, rp⟩
theorem it_list (h : LsL K F a vs) (r : RepAll K F ds vs) : ItR K (Itl K a) ds F := by
  refine it_same (fun i d F' H' e1 e2 hd => ?_) fun F' H' e1 e2 => ⟨vs, (ex_ls (e1.trans e2) h).sq, by rw [r.len]; exact Nat.le_refl _⟩
  obtain ⟨v, hv, rp⟩ := r.get hd
  have sq := (ex_ls (e1.trans e2) h).sq
  exact ⟨⟨vs, v, sq, hv⟩, fun x H'' ⟨e, y⟩ => ⟨e, by have := y vs sq; rw [hv] at this; cases this; exact rp.mono e1⟩⟩
theorem it_tup (h : SqT K F a vs) (r : RepAll K F ds vs) : ItR K (Itt K a) ds F := by
  refine it_same (fun i d F' H' e1 e2 hd => ?_) fun F' H' e1 e2 => ⟨vs, ex_t (e1.trans e2) h, by rw [r.len]; exact Nat.le_refl _⟩
  obtain ⟨v, hv, rp⟩ := r.get hd
  have sq := ex_t (e1.trans e2) h
  exact ⟨⟨vs, v, sq, hv⟩, fun x H'' ⟨e, y⟩ => ⟨e, by have := y vs sq; rw [hv] at this; cases this; exact rp.mono e1⟩⟩
theorem it_str (s : Str) : ItR K (Its s) (s.cps.toList.map fun c => .str ⟨#[c]⟩) F := by
  refine it_same (fun i d F' H' e1 e2 hd => ?_) fun F' H' e1 e2 => by
    show s.cps.size ≤ _
    rw [List.length_map, Array.length_toList]
    exact Nat.le_refl _
  rw [List.getElem?_map] at hd
  cases hc : s.cps.toList[i]? with
  | none => rw [hc] at hd; cases hd
  | some c =>
    rw [hc] at hd
    cases hd
    have hc' : s.cps[i]? = some c := by rw [← Array.getElem?_toList]; exact hc
    refine ⟨?_, fun x H'' ⟨e, c', z, e2⟩ => ⟨e, ?_⟩⟩
    · show i < s.cps.size
      have := (List.getElem?_eq_some_iff.mp hc).1
      rw [Array.length_toList] at this
      exact this
    · rw [hc'] at z; cases z; subst e2; exact .str _
theorem it_range (lo : Int) (n : Nat) : ItR K (Itr lo n) (range lo n) F := by
  have hl : (range lo n).length = n := by unfold range; rw [List.length_map, List.length_range]
  refine it_same (fun i d F' H' e1 e2 hd => ?_) fun F' H' e1 e2 => by
    show n ≤ _
    rw [hl]
    exact Nat.le_refl _
  have hi : i < n := by rw [← hl]; exact (List.getElem?_eq_some_iff.mp hd).1
  unfold range at hd
  rw [List.getElem?_map, List.getElem?_range hi] at hd
  cases hd
  exact ⟨hi, fun x H'' ⟨e, e2⟩ => ⟨e, by subst e2; exact .int _⟩⟩
theorem it_pair {J : It} (hg : ∀ (i : Nat) (d : D) (F' H' : Hp), Ex F F' → Ex F' H' → ds[i]? = some d → J.go i H' ∧ ∀ x H'', J.yld i H' x H'' → ∃ T x1 x2 d1 d2, x = .ref T ∧ H' T = none ∧ H'' = upd H' T (.tup [x1, x2]) ∧ d = .tup [d1, d2] ∧ Rep K F' d1 x1 ∧ Rep K F' d2 x2)
    (hs : ∀ (F' H' : Hp), Ex F F' → Ex F' H' → J.stop ds.length H') : ItR K J ds F := fun i F' H' e1 e2 => by
  refine ⟨fun d hd => ?_, fun e => by subst e; exact hs F' H' e1 e2⟩
  obtain ⟨h1, h2⟩ := hg i d F' H' e1 e2 hd
  refine ⟨h1, fun x H'' y => ?_⟩
  obtain ⟨T, x1, x2, d1, d2, rfl, hT, rfl, rfl, r1, r2⟩ := h2 x H'' y
  have fT : F' T = none := e2.back hT
  refine ⟨upd F' T (.tup [x1, x2]), Ex.new fT, e2.upd2, Ex.new hT, fun a h => ?_, .tup (st_of upd_same) (by show 2 ≤ sizeLine; decide) (.cons (r1.mono (Ex.new fT)) (.cons (r2.mono (Ex.new fT)) .nil))⟩
  by_cases z : a = T
  · subst z; exact .inr hT
  · rw [upd_ne z] at h; exact .inl h
theorem enumD_get : ∀ {ds : List D} {k i : Nat} {d : D}, (enumD k ds)[i]? = some d → ∃ e, ds[i]? = some e ∧ d = .tup [.int ((k + i : Nat) : Int), e]
  | [], k, i, d, h => by simp [enumD] at h
  | x :: xs, k, 0, d, h => by simp [enumD] at h; subst h; exact ⟨x, rfl, rfl⟩
  | x :: xs, k, i + 1, d, h => by
    obtain ⟨e, h1, h2⟩ := enumD_get (ds := xs) (k := k + 1) (i := i) (d := d) (by simpa [enumD] using h)
    refine ⟨e, by simpa using h1, ?_⟩
    rw [h2, show k + 1 + i = k + (i + 1) by omega]
theorem enumD_len : ∀ {ds : List D} {k : Nat}, (enumD k ds).length = ds.length
  | [], _ => rfl
  | x :: xs, k => by simp [enumD, enumD_len (ds := xs)]
theorem it_enum (h : LsL K F a vs) (r : RepAll K F ds vs) : ItR K (Ite K a) (enumD 0 ds) F := by
  refine it_pair (fun i d F' H' e1 e2 hd => ?_) fun F' H' e1 e2 => ⟨vs, (ex_ls (e1.trans e2) h).sq, by rw [enumD_len, r.len]; exact Nat.le_refl _⟩
  obtain ⟨e, he, rfl⟩ := enumD_get hd
  obtain ⟨v, hv, rp⟩ := r.get he
  have sq := (ex_ls (e1.trans e2) h).sq
  refine ⟨⟨vs, v, sq, hv⟩, fun x H'' ⟨T, x2, y1, y2, y3, y⟩ => ?_⟩
  have := y vs sq
  rw [hv] at this
  cases this
  exact ⟨T, _, _, _, _, y1, y2, y3, rfl, by rw [Nat.zero_add]; exact .int _, rp.mono e1⟩
theorem it_enumT (h : SqT K F a vs) (r : RepAll K F ds vs) : ItR K (IteT K a) (enumD 0 ds) F := by
  refine it_pair (fun i d F' H' e1 e2 hd => ?_) fun F' H' e1 e2 => ⟨vs, ex_t (e1.trans e2) h, by rw [enumD_len, r.len]⟩
  obtain ⟨e, he, rfl⟩ := enumD_get hd
  obtain ⟨v, hv, rp⟩ := r.get he
  have sq := ex_t (e1.trans e2) h
  refine ⟨⟨vs, v, sq, hv⟩, fun x H'' ⟨T, x2, y1, y2, y3, y⟩ => ?_⟩
  have := y vs sq
  rw [hv] at this
  cases this
  exact ⟨T, _, _, _, _, y1, y2, y3, rfl, by rw [Nat.zero_add]; exact .int _, rp.mono e1⟩
theorem zipD_get : ∀ {ds es : List D} {i : Nat} {d : D}, (zipD ds es)[i]? = some d → ∃ e1 e2, ds[i]? = some e1 ∧ es[i]? = some e2 ∧ d = .tup [e1, e2]
  | [], _, i, d, h => by simp [zipD] at h
  | _ :: _, [], i, d, h => by simp [zipD] at h
  | x :: xs, y :: ys, 0, d, h => by simp [zipD] at h; subst h; exact ⟨x, y, rfl, rfl, rfl⟩
  | x :: xs, y :: ys, i + 1, d, h => by
    obtain ⟨e1, e2, h1, h2, h3⟩ := zipD_get (ds := xs) (es := ys) (i := i) (d := d) (by simpa [zipD] using h)
    exact ⟨e1, e2, by simpa using h1, by simpa using h2, h3⟩
theorem zipD_len : ∀ {ds es : List D}, ds.length ≤ (zipD ds es).length ∨ es.length ≤ (zipD ds es).length
  | [], _ => .inl (Nat.zero_le _)
  | _ :: _, [] => .inr (Nat.zero_le _)
  | x :: xs, y :: ys => by
    simp only [zipD, List.length_cons]
    rcases zipD_len (ds := xs) (es := ys) with h | h
    · exact .inl (Nat.succ_le_succ h)
    · exact .inr (Nat.succ_le_succ h)
theorem zipD_le : ∀ {ds es : List D}, (zipD ds es).length ≤ ds.length
  | [], _ => by simp [zipD]
  | _ :: _, [] => by simp [zipD]
  | x :: xs, y :: ys => by simp only [zipD, List.length_cons]; exact Nat.succ_le_succ zipD_le
theorem it_zip (h : LsL K F a vs) (r : RepAll K F ds vs) (h2 : LsL K F b us) (r2 : RepAll K F es us) : ItR K (Itz K a b) (zipD ds es) F := by
  refine it_pair (fun i d F' H' e1 e2 hd => ?_) fun F' H' e1 e2 => ⟨vs, us, (ex_ls (e1.trans e2) h).sq, (ex_ls (e1.trans e2) h2).sq, by rw [← r.len, ← r2.len]; exact zipD_len⟩
  obtain ⟨d1, d2, g1, g2, rfl⟩ := zipD_get hd
  obtain ⟨v, hv, rp⟩ := r.get g1
  obtain ⟨u, hu, rq⟩ := r2.get g2
  have sq := (ex_ls (e1.trans e2) h).sq
  have sq2 := (ex_ls (e1.trans e2) h2).sq
  refine ⟨⟨vs, us, v, u, sq, sq2, hv, hu⟩, fun x H'' ⟨T, x1, x2, y1, y2, y3, y, y'⟩ => ?_⟩
  have z1 := y vs sq
  have z2 := y' us sq2
  rw [hv] at z1; cases z1
  rw [hu] at z2; cases z2
  exact ⟨T, _, _, _, _, y1, y2, y3, rfl, rp.mono e1, rq.mono e1⟩
theorem it_zipT (h : SqT K F a vs) (r : RepAll K F ds vs) (h2 : SqT K F b us) (r2 : RepAll K F es us) : ItR K (RZ.ItzT K a b) (zipD ds es) F := by
  refine it_pair (fun i d F' H' e1 e2 hd => ?_) fun F' H' e1 e2 => ⟨vs, us, ex_t (e1.trans e2) h, ex_t (e1.trans e2) h2, by rw [← r.len, ← r2.len]; exact zipD_len⟩
  obtain ⟨d1, d2, g1, g2, rfl⟩ := zipD_get hd
  obtain ⟨v, hv, rp⟩ := r.get g1
  obtain ⟨u, hu, rq⟩ := r2.get g2
  have sq := ex_t (e1.trans e2) h
  have sq2 := ex_t (e1.trans e2) h2
  refine ⟨⟨vs, us, v, u, sq, sq2, hv, hu⟩, fun x H'' ⟨T, x1, x2, y1, y2, y3, y, y'⟩ => ?_⟩
  have z1 := y vs sq
  have z2 := y' us sq2
  rw [hv] at z1; cases z1
  rw [hu] at z2; cases z2
  exact ⟨T, _, _, _, _, y1, y2, y3, rfl, rp.mono e1, rq.mono e1⟩
end
section
variable {T : Tab} {call : Call} {glob : Nat → Option D} {ER : EK}
theorem frz_seq {K : PySem.W.Frag} {F H F1 H1 : Hp} {r r1 : Env} {σ : L2.St} {q : Bool} {m : MV} {v : V} {xs : List D} (V1 : VP K F H r σ q m r1 v F1 H1) (h : m.data = some (.lst xs)) :
    ∃ F3 a vs, v = .ref a ∧ Mid K F H r σ q r1 F3 H1 ∧ LsL K F3 a vs ∧ vs.length ≤ sizeLine ∧ RepAll K F3 xs vs := by
  have ht : m.temp = false ∧ m.fz = .lst xs := by
    unfold MV.data at h
    split at h <;> first | (cases h; exact ⟨rfl, rfl⟩) | cases h
  obtain ⟨F3, e3, M3, rp⟩ := V1.freeze ht.1
  rw [ht.2] at rp
  obtain ⟨a, vs, e, h1, h2, h3⟩ := rp.lst_inv
  exact ⟨F3, a, vs, e, M3, h1, h2, h3⟩
theorem blt_in {x : Str} (h : x ∈ bltNames) {S : Sc} {X : Cx} {W : WX} (G : Good T call glob ER S X W) : X.mg x = none := G.free x h
theorem ci_over {a : CE} (ha : ClE T call glob ER a) : ClI T call glob ER (.over a) := by
  intro S X W tg e G hok r o r' F H σ R h w s
  have hok' : okE T S a e = true := by cases e <;> simpa only [okI] using hok
  simp only [evalI] at h
  rcases bind_inv h with ⟨z, h1, rfl⟩ | ⟨m, r1, h1, h⟩
  · exact ⟨_, pi_list pe_U, ha S X W e G hok' _ _ _ F H σ _ h1 w fun cls d F' H' XX => s cls d F' H' XX⟩
  have onL : ∀ xs, m.data = some (.lst xs) → ret xs r1 = some (o, r') → UI X tg e σ H R := fun xs hm hr => by
    obtain ⟨rfl, hr2⟩ := ret_inv hr
    subst hr2
    refine ⟨_, pi_list pe_U, ha S X W e G hok' _ _ _ F H σ _ h1 w fun v F1 H1 V1 => ?_⟩
    obtain ⟨F3, l, vs, rfl, M3, z1, z2, z3⟩ := frz_seq V1 hm
    exact ⟨l, rfl, ⟨vs, (ex_ls M3.wd.ex z1).sq⟩, s (by rw [z3.len]; exact z2) _ F3 H1 M3 (it_list z1 z3)⟩
  split at h
  · exact onL _ rfl h
  · rename_i xs
    obtain ⟨rfl, hr⟩ := ret_inv h
    subst hr
    refine ⟨_, pi_tup pe_U, ha S X W e G hok' _ _ _ F H σ _ h1 w fun v F1 H1 V1 => ?_⟩
    obtain ⟨l, vs, rfl, z1, z2, z3⟩ := Rep.tup_inv V1.own
    exact ⟨l, rfl, ⟨vs, ex_t V1.mid.wd.ex z1⟩, s (by rw [z3.len]; exact z2) _ F1 H1 V1.mid (it_tup z1 z3)⟩
  · exact onL _ rfl h
  · rename_i x
    split at h
    · rename_i hl
      obtain ⟨rfl, hr⟩ := ret_inv h
      subst hr
      refine ⟨_, pi_str pe_U, ha S X W e G hok' _ _ _ F H σ _ h1 w fun v F1 H1 V1 => ?_⟩
      cases Rep.str_inv V1.own
      refine ⟨x, rfl, s ?_ _ F1 H1 V1.mid (it_str x)⟩
      rw [List.length_map, Array.length_toList, ← line_eq]
      exact hl
    · cases h
  · cases h
theorem rng_bnd {n : Int} (h : (-line ≤ n && n ≤ line) = true) : -(2 ^ 62) ≤ n ∧ n < 2 ^ 62 ∧ n.toNat ≤ sizeLine := by
  simp only [Bool.and_eq_true, decide_eq_true_eq] at h
  have := sizeLine_eq
  have l : (line : Nat) = sizeLine := line_eq
  omega
theorem ci_rng1 {a : CE} (ha : ClE T call glob ER a) : ClI T call glob ER (.rng1 a) := by
  intro S X W tg e G hok r o r' F H σ R h w s
  cases e <;> try (simp only [okI, Bool.false_eq_true] at hok; done)
  rename_i fn args kws p
  cases fn <;> try (simp only [okI, Bool.false_eq_true] at hok; done)
  rename_i x px
  match args, kws, hok with
  | [y], [], hok =>
    simp only [okI, Bool.and_eq_true, beq_iff_eq] at hok
    obtain ⟨⟨⟨k1, rfl⟩, k3⟩, k4⟩ := hok
    obtain ⟨g1, g2, g3⟩ := isG_inv G.sc k1
    refine ⟨_, pi_range1 g1 (G.free _ (by decide)) (pa_cons pe_U pa_nil (star_cons k4)) (star_cons k4), ?_⟩
    show UE X y σ H fun v H1 => ∃ j : Int, [v] = [.int j] ∧ -(2 ^ 62) ≤ j ∧ j < 2 ^ 62 ∧ R (Itr 0 j.toNat) H1
    simp only [evalI] at h
    rcases bind_inv h with ⟨z, h1, rfl⟩ | ⟨m, r1, h1, h⟩
    · exact ha S X W y G k3 _ _ _ F H σ _ h1 w fun cls d F' H' XX => s cls d F' H' XX
    refine ha S X W y G k3 _ _ _ F H σ _ h1 w fun v F1 H1 V1 => ?_
    split at h
    · rename_i n hn
      split at h
      · rename_i hb
        obtain ⟨b1, b2, b3⟩ := rng_bnd hb
        obtain ⟨rfl, hr⟩ := ret_inv h
        subst hr
        cases int_of V1.mid hn V1.own
        refine ⟨n, rfl, b1, b2, s ?_ _ F1 H1 V1.mid (it_range 0 _)⟩
        unfold range
        rw [List.length_map, List.length_range]
        exact b3
      · cases h
    · cases h
theorem ci_rng2 {a b : CE} (ha : ClE T call glob ER a) (hb : ClE T call glob ER b) : ClI T call glob ER (.rng2 a b) := by
  intro S X W tg e G hok r o r' F H σ R h w s
  cases e <;> try (simp only [okI, Bool.false_eq_true] at hok; done)
  rename_i fn args kws p
  cases fn <;> try (simp only [okI, Bool.false_eq_true] at hok; done)
  rename_i x px
  match args, kws, hok with
  | [y, z], [], hok =>
    simp only [okI, Bool.and_eq_true, beq_iff_eq] at hok
    obtain ⟨⟨⟨⟨⟨k1, rfl⟩, k3⟩, k4⟩, k5⟩, k6⟩ := hok
    obtain ⟨g1, g2, g3⟩ := isG_inv G.sc k1
    refine ⟨_, pi_range2 g1 (G.free _ (by decide)) (pa_cons pe_U (pa_cons pe_U pa_nil (star_cons k6)) (star_cons k5)) ((star_cons k5).trans (by rw [star_cons k6]; rfl)) (star_cons k6), ?_⟩
    show UE X y σ H fun v H1 => UE X z σ H1 fun u H2 => ∃ i j : Int, [v, u] = [.int i, .int j] ∧ (-(2 ^ 62) ≤ i ∧ i < 2 ^ 62 ∧ -(2 ^ 62) ≤ j ∧ j < 2 ^ 62) ∧ R (Itr i (j - i).toNat) H2
    simp only [evalI] at h
    rcases bind_inv h with ⟨zz, h1, rfl⟩ | ⟨m, r1, h1, h⟩
    · exact ha S X W y G k3 _ _ _ F H σ _ h1 w fun cls d F' H' XX => s cls d F' H' (XX.flag andF1)
    refine ha S X W y G k3 _ _ _ F H σ _ h1 w fun v F1 H1 V1 => ?_
    rcases bind_inv h with ⟨zz, h2, rfl⟩ | ⟨n, r2, h2, h⟩
    · exact hb S X W z G k4 _ _ _ F1 H1 σ _ h2 V1.mid.wd fun cls d F' H' XX => s cls d F' H' (XX.after V1.mid)
    refine hb S X W z G k4 _ _ _ F1 H1 σ _ h2 V1.mid.wd fun u F2 H2 V2 => ?_
    split at h
    · rename_i i j hi hj
      split at h
      · rename_i hbd
        simp only [Bool.and_eq_true, decide_eq_true_eq] at hbd
        obtain ⟨rfl, hr⟩ := ret_inv h
        subst hr
        have e1 : v = .int i := by
          have o1 := V1.own
          cases m with
          | no => exact o1.elim
          | dat d => have hd : d = .int i := hi; subst hd; exact Rep.int_inv o1
          | tmp d => have hd : d = .int i := hi; subst hd; exact Rep.int_inv o1
          | _ => cases hi
        subst e1
        cases int_of V2.mid hj V2.own
        have l : (line : Nat) = sizeLine := line_eq
        have l2 := sizeLine_eq
        refine ⟨i, j, rfl, by omega, s ?_ _ F2 H2 (V1.mid.trans V2.mid) (it_range i _)⟩
        unfold range
        rw [List.length_map, List.length_range]
        omega
      · cases h
    · cases h
theorem ci_enm {a : CE} (ha : ClE T call glob ER a) : ClI T call glob ER (.enm a) := by
  intro S X W tg e G hok r o r' F H σ R h w s
  cases tg <;> try (simp only [okI, Bool.false_eq_true] at hok; done)
  rename_i elts kk tpos
  cases e <;> try (simp only [okI, Bool.false_eq_true] at hok; done)
  rename_i fn args kws p
  cases fn <;> try (simp only [okI, Bool.false_eq_true] at hok; done)
  rename_i x px
  match args, kws, hok with
  | [y], [], hok =>
    simp only [okI, Bool.and_eq_true, beq_iff_eq] at hok
    obtain ⟨⟨⟨k1, rfl⟩, k3⟩, k4⟩ := hok
    obtain ⟨g1, g2, g3⟩ := isG_inv G.sc k1
    simp only [evalI] at h
    have pl := pi_enum (X := X) (elts := elts) (kk := kk) (tpos := tpos) (p := px) (pos := p) (e := y) g1 (G.free _ (by decide)) (pa_cons pe_U pa_nil (star_cons k4)) (star_cons k4)
    have pt := pi_enumT (X := X) (elts := elts) (kk := kk) (tpos := tpos) (p := px) (pos := p) (e := y) g1 (G.free _ (by decide)) (pa_cons pe_U pa_nil (star_cons k4)) (star_cons k4)
    rcases bind_inv h with ⟨z, h1, rfl⟩ | ⟨m, r1, h1, h⟩
    · refine ⟨_, pl, ?_⟩
      show UE X y σ H fun v H1 => ∃ a xs, [v] = [.ref a] ∧ SqL X.K H1 a xs ∧ R (Ite X.K a) H1
      exact ha S X W y G k3 _ _ _ F H σ _ h1 w fun cls d F' H' XX => s cls d F' H' XX
    have onL : ∀ xs, m.data = some (.lst xs) → ret (enumD 0 xs) r1 = some (o, r') → UI X _ (.Call (.Name "enumerate" px) [y] [] p) σ H R := fun xs hm hr => by
      obtain ⟨rfl, hr2⟩ := ret_inv hr
      subst hr2
      refine ⟨_, pl, ?_⟩
      show UE X y σ H fun v H1 => ∃ a xs, [v] = [.ref a] ∧ SqL X.K H1 a xs ∧ R (Ite X.K a) H1
      refine ha S X W y G k3 _ _ _ F H σ _ h1 w fun v F1 H1 V1 => ?_
      obtain ⟨F3, l, vs, rfl, M3, z1, z2, z3⟩ := frz_seq V1 hm
      exact ⟨l, vs, rfl, (ex_ls M3.wd.ex z1).sq, s (by rw [enumD_len, z3.len]; exact z2) _ F3 H1 M3 (it_enum z1 z3)⟩
    split at h
    · exact onL _ rfl h
    · obtain ⟨rfl, hr⟩ := ret_inv h
      subst hr
      refine ⟨_, pt, ?_⟩
      show UE X y σ H fun v H1 => ∃ a xs, [v] = [.ref a] ∧ SqT X.K H1 a xs ∧ R (IteT X.K a) H1
      refine ha S X W y G k3 _ _ _ F H σ _ h1 w fun v F1 H1 V1 => ?_
      obtain ⟨l, vs, rfl, z1, z2, z3⟩ := Rep.tup_inv V1.own
      exact ⟨l, vs, rfl, ex_t V1.mid.wd.ex z1, s (by rw [enumD_len, z3.len]; exact z2) _ F1 H1 V1.mid (it_enumT z1 z3)⟩
    · exact onL _ rfl h
    · cases h
theorem ci_zip {a b : CE} (ha : ClE T call glob ER a) (hb : ClE T call glob ER b) : ClI T call glob ER (.zip a b) := by
  intro S X W tg e G hok r o r' F H σ R h w s
  cases tg <;> try (simp only [okI, Bool.false_eq_true] at hok; done)
  cases e <;> try (simp only [okI, Bool.false_eq_true] at hok; done)
  rename_i fn args kws p
  cases fn <;> try (simp only [okI, Bool.false_eq_true] at hok; done)
  rename_i x px
  match args, kws, hok with
  | [y, z], [], hok =>
    simp only [okI, Bool.and_eq_true, beq_iff_eq] at hok
    obtain ⟨⟨⟨⟨⟨k1, rfl⟩, k3⟩, k4⟩, k5⟩, k6⟩ := hok
    obtain ⟨g1, g2, g3⟩ := isG_inv G.sc k1
    refine ⟨_, RZ.pi_zipA g1 (G.free _ (by decide)) (pa_cons pe_U (pa_cons pe_U pa_nil (star_cons k6)) (star_cons k5)) (star_cons k5) (by rw [star_cons k6]; rfl), ?_⟩
    show UE X y σ H fun v H1 => UE X z σ H1 fun u H2 => ∃ a b xs ys, [v, u] = [.ref a, .ref b] ∧ ((SqL X.K H2 a xs ∧ SqL X.K H2 b ys ∧ R (Itz X.K a b) H2) ∨ (SqT X.K H2 a xs ∧ SqT X.K H2 b ys ∧ R (RZ.ItzT X.K a b) H2))
    simp only [evalI] at h
    rcases bind_inv h with ⟨zz, h1, rfl⟩ | ⟨m, r1, h1, h⟩
    · exact ha S X W y G k3 _ _ _ F H σ _ h1 w fun cls d F' H' XX => s cls d F' H' (XX.flag andF1)
    refine ha S X W y G k3 _ _ _ F H σ _ h1 w fun v F1 H1 V1 => ?_
    rcases bind_inv h with ⟨zz, h2, rfl⟩ | ⟨n, r2, h2, h⟩
    · exact hb S X W z G k4 _ _ _ F1 H1 σ _ h2 V1.mid.wd fun cls d F' H' XX => s cls d F' H' (XX.after V1.mid)
    refine hb S X W z G k4 _ _ _ F1 H1 σ _ h2 V1.mid.wd fun u F2 H2 V2 => ?_
    split at h
    · obtain ⟨rfl, hr⟩ := ret_inv h
      subst hr
      obtain ⟨l, vs, rfl, z1, z2, z3⟩ := Rep.lst_inv V1.own
      obtain ⟨l2, us, rfl, y1, y2, y3⟩ := Rep.lst_inv V2.own
      have e := V2.mid.st.ef
      exact ⟨l, l2, vs, us, rfl, .inl ⟨(ex_ls (e.trans V2.mid.wd.ex) z1).sq, (ex_ls V2.mid.wd.ex y1).sq, s (Nat.le_trans zipD_le (by rw [z3.len]; exact z2)) _ F2 H2 (V1.mid.trans V2.mid) (it_zip (ex_ls e z1) (z3.mono e) y1 y3)⟩⟩
    · obtain ⟨rfl, hr⟩ := ret_inv h
      subst hr
      obtain ⟨l, vs, rfl, z1, z2, z3⟩ := Rep.tup_inv V1.own
      obtain ⟨l2, us, rfl, y1, y2, y3⟩ := Rep.tup_inv V2.own
      have e := V2.mid.st.ef
      exact ⟨l, l2, vs, us, rfl, .inr ⟨ex_t (e.trans V2.mid.wd.ex) z1, ex_t V2.mid.wd.ex y1, s (Nat.le_trans zipD_le (by rw [z3.len]; exact z2)) _ F2 H2 (V1.mid.trans V2.mid) (it_zipT (ex_t e z1) (z3.mono e) y1 y3)⟩⟩
    · cases h
theorem cif_no : ClIf T call glob ER .no := by
  intro S X W es G hok r o r' F H σ Q h w s
  cases es <;> simp only [okIf, Bool.false_eq_true] at hok
  simp only [evalC] at h
  obtain ⟨rfl, hr⟩ := ret_inv h
  subst hr
  exact ⟨_, pts_nil, s F H (Mid.refl w)⟩
theorem cif_so {c : CE} (hc : ClT T call glob ER c) : ClIf T call glob ER (.so c) := by
  intro S X W es G hok r o r' F H σ Q h w s
  match es, hok with
  | [x], hok =>
    simp only [okIf] at hok
    simp only [evalC] at h
    refine ⟨_, pts_one pt_U, ?_⟩
    rcases bind_inv h with ⟨z, h1, rfl⟩ | ⟨m, r1, h1, h⟩
    · exact hc S X W x G hok _ _ _ F H σ _ h1 w fun cls d F' H' XX => s cls d F' H' XX
    obtain ⟨k, hk, rfl, hr⟩ := lift_inv h
    subst hr
    exact hc S X W x G hok _ _ _ F H σ _ h1 w ⟨k, hk, s⟩
end
end M
set_option Elab.async false
set_option linter.all false
set_option maxRecDepth 100000
set_option maxHeartbeats 1000000
set_option autoImplicit false
namespace M
open PySem PySem.Spec PyProof.Rows L2
section
variable {K : PySem.W.Frag} {F H F1 H1 F2 H2 F3 : Hp} {r r1 r2 : Env} {σ σ2 : L2.St} {m : MV} {v : V}
theorem Wd.put {i : Nat} (w : Wd K F H r σ) (o : Own K F H m v) (nt : m.temp = false) (fr : ∀ a, Foot m v a → ¬ Has r σ a) : Wd K F H (r.set i m) (σ.set i (some v)) where
  ex := w.ex
  len := by rw [List.length_set, List.length_set]; exact w.len
  nt := fun j n e => by
    rcases get_set_inv e with ⟨_, z, _⟩ | ⟨_, z⟩
    · subst z; exact nt
    · exact w.nt j n z
  at_ := fun j n e nn => by
    rcases get_set_inv e with ⟨z0, z, zl⟩ | ⟨z0, z⟩
    · subst z z0
      exact ⟨v, by rw [List.getElem?_set_self (by rw [← w.len]; exact zl)], o⟩
    · obtain ⟨u, e2, o2⟩ := w.at_ j n z nn
      exact ⟨u, by rw [List.getElem?_set_ne z0]; exact e2, o2⟩
  sep := fun j k n n' u u' a e1 e2 f e3 e4 g => by
    have get : ∀ {j : Nat} {u : V}, (σ.set i (some v))[j]? = some (some u) → (i = j ∧ u = v) ∨ (i ≠ j ∧ σ[j]? = some (some u)) := fun {j u} e => by
      by_cases h : i = j
      · subst h
        by_cases hl : i < σ.length
        · rw [List.getElem?_set_self hl] at e
          exact .inl ⟨rfl, (Option.some.inj (Option.some.inj e)).symm⟩
        · rw [List.getElem?_eq_none (by simpa using hl)] at e; cases e
      · rw [List.getElem?_set_ne h] at e
        exact .inr ⟨h, e⟩
    rcases get_set_inv e1 with ⟨z0, z, _⟩ | ⟨z0, z⟩
    · rcases get_set_inv e3 with ⟨y0, y, _⟩ | ⟨y0, y⟩
      · exact z0.symm.trans y0
      · rcases get e2 with ⟨_, rfl⟩ | ⟨h, _⟩
        · rcases get e4 with ⟨h, _⟩ | ⟨_, h4⟩
          · exact absurd h y0
          · subst z
            exact absurd ⟨k, n', u', y, h4, g⟩ (fr a f)
        · exact absurd z0 h
    · rcases get_set_inv e3 with ⟨y0, y, _⟩ | ⟨y0, y⟩
      · rcases get e4 with ⟨_, rfl⟩ | ⟨h, _⟩
        · rcases get e2 with ⟨h, _⟩ | ⟨_, h2⟩
          · exact absurd h z0
          · subst y
            exact absurd ⟨j, n, u, z, h2, f⟩ (fr a g)
        · exact absurd y0 h
      · rcases get e2 with ⟨h, _⟩ | ⟨_, h2⟩
        · exact absurd h z0
        · rcases get e4 with ⟨h, _⟩ | ⟨_, h4⟩
          · exact absurd h y0
          · exact w.sep j k n n' u u' a z h2 f y h4 g
theorem Has.put {i : Nat} {a : Addr} (h : Has (r.set i m) (σ.set i (some v)) a) : Has r σ a ∨ Foot m v a := by
  obtain ⟨j, n, u, e1, e2, f⟩ := h
  rcases get_set_inv e1 with ⟨z0, z, zl⟩ | ⟨z0, z⟩
  · subst z z0
    by_cases hl : i < σ.length
    · rw [List.getElem?_set_self hl] at e2
      cases e2
      exact .inr f
    · rw [List.getElem?_eq_none (by simpa using hl)] at e2; cases e2
  · rw [List.getElem?_set_ne z0] at e2
    exact .inl ⟨j, n, u, z, e2, f⟩
theorem Wd.frz (w : Wd K F H r σ) (e : Ex F F3) (e3 : Ex F3 H) (hn : ∀ x, F3 x ≠ none → F x ≠ none ∨ ¬ Has r σ x) : Wd K F3 H r σ where
  ex := e3
  len := w.len
  nt := w.nt
  at_ := fun i m e1 n => by
    obtain ⟨v, e2, ow⟩ := w.at_ i m e1 n
    exact ⟨v, e2, ow.step (P := fun x => F3 x ≠ none ∧ F x = none) ⟨e, fun x o _ h => h, fun _ h => h, fun x h => by
      cases z : F x with
      | none => exact .inr (.inr ⟨h, rfl⟩)
      | some o => exact .inl (fun w => nomatch w)⟩ (fun t => by rw [w.nt i m e1] at t; cases t) fun x f ⟨z1, z2⟩ => (hn x z1).elim (fun w => w z2) fun z => z ⟨i, m, v, e1, e2, f⟩⟩
  sep := w.sep
end
theorem assignEach_len {env : PySem.Env} : ∀ {es : List Expr}, (assignEach es env).length = es.length
  | [] => rfl
  | e :: es => by cases e <;> simp [assignEach, assignEach_len (es := es)]
theorem assignEach_cons {env : PySem.Env} {e : Expr} {es : List Expr} (h : notStar e = true) : assignEach (e :: es) env = (false, assign e env) :: assignEach es env := by
  cases e <;> first | rfl | cases h
theorem assignEach_star {env : PySem.Env} : ∀ {es : List Expr}, es.all notStar = true → (assignEach es env).findIdx? (·.1) = none
  | [], _ => rfl
  | e :: es, h => by
    simp only [List.all_cons, Bool.and_eq_true] at h
    rw [assignEach_cons h.1, List.findIdx?_cons]
    show (Option.map (· + 1) ((assignEach es env).findIdx? (·.1))) = none
    rw [assignEach_star h.2]
    rfl
section
variable {T : Tab}
theorem okTs_star : ∀ {S : Sc} {ts : CTs} {xs : List Expr}, okTs T S ts xs = true → xs.all notStar = true
  | _, .nil, [], _ => rfl
  | _, .nil, _ :: _, h => by simp only [okTs, Bool.false_eq_true] at h
  | _, .cons _ _, [], h => by simp only [okTs, Bool.false_eq_true] at h
  | S, .cons e es, x :: xs, h => by
    simp only [okTs, Bool.and_eq_true] at h
    simp only [List.all_cons, Bool.and_eq_true]
    exact ⟨h.2, okTs_star h.1.2⟩
theorem okTs_len {K : PySem.W.Frag} {F : Hp} : ∀ {S : Sc} {ts : CTs} {xs : List Expr} {ds : List D} {vs : List V} {r r' : Env}, okTs T S ts xs = true → asgs ts ds r = some r' → RepAll K F ds vs → vs.length = xs.length
  | _, .nil, [], [], _, _, _, _, _, c => by cases c; rfl
  | _, .nil, [], _ :: _, _, _, _, _, b, _ => by simp only [asgs] at b; cases b
  | _, .nil, _ :: _, _, _, _, _, a, _, _ => by simp only [okTs, Bool.false_eq_true] at a
  | _, .cons _ _, [], _, _, _, _, a, _, _ => by simp only [okTs, Bool.false_eq_true] at a
  | _, .cons _ _, _ :: _, [], _, _, _, _, b, _ => by simp only [asgs] at b; cases b
  | S, .cons t ts, x :: xs, d :: ds, vs, r, r', a, b, c => by
    simp only [okTs, Bool.and_eq_true] at a
    simp only [asgs] at b
    split at b
    · cases c with
      | cons _ c => simp only [List.length_cons]; rw [okTs_len a.1.2 b c]
    · cases b
structure Bnd (K : PySem.W.Frag) (F H : Hp) (r : Env) (σ : L2.St) (is : List Nat) (m : MV) (v : V) (r' : Env) (σ' : L2.St) (F' : Hp) : Prop where
  wd : Wd K F' H r' σ'
  ef : Ex F F'
  len : σ'.length = σ.length
  out : ∀ j, j ∉ is → σ'[j]? = σ[j]? ∧ r'[j]? = r[j]?
  has : ∀ a, Has r' σ' a → Has r σ a ∨ Foot m v a
  frz : ∀ a, F' a ≠ none → F a ≠ none ∨ Foot m v a
def Names (S : Sc) (X : Cx) : Prop := ∀ i x p, isL S i x = true → PG X (.Name x p) (gName i)
def ClT' (T : Tab) (t : CT) : Prop := ∀ (S : Sc) (X : Cx) (tg : Expr), X.calm = true → Names S X → okT T S t tg = true → ∀ (own : Bool) m r r' F H σ v Q, asg own t m r = some r' → Wd X.K F H r σ → Own X.K F H m v → m.temp = false → (∀ a, Foot m v a → ¬ Has r σ a) →
  (∀ F' σ', Bnd X.K F H r σ (tgts t) m v r' σ' F' → Q σ' H) → UG X tg v σ H Q
def ClTs' (T : Tab) (ts : CTs) : Prop := ∀ (S : Sc) (X : Cx) (tgs : List Expr), X.calm = true → Names S X → okTs T S ts tgs = true → ∀ ds r r' F H σ vs Q, asgs ts ds r = some r' → Wd X.K F H r σ → RepAll X.K F ds vs →
  (∀ σ', Bnd X.K F H r σ (tgtss ts) (.dat .non) .non r' σ' F → Q σ' H) → vs.length = tgs.length ∧ UGs X tgs vs σ H Q
theorem nm_ok {K : PySem.W.Frag} {i : Nat} {own : Bool} {m : MV} {r r' : Env} {F H : Hp} {σ : L2.St} {v : V} {Q : L2.St → Hp → Prop} (h : asg own (.nm i) m r = some r') (w : Wd K F H r σ) (o : Own K F H m v) (nt : m.temp = false) (fr : ∀ a, Foot m v a → ¬ Has r σ a)
    (s : ∀ F' σ', Bnd K F H r σ (tgts (.nm i)) m v r' σ' F' → Q σ' H) : gName i v σ H Q := by
  have dat : ∀ {d : D} {F' : Hp}, Ex F F' → Wd K F' H r σ → Rep K F' d v → (∀ a, F' a ≠ none → F a ≠ none ∨ Foot m v a) → r' = r.set i (.dat d) → gName i v σ H Q := fun {d F'} e wd rp hf hr => by
    subst hr
    exact s F' _ ⟨wd.put rp rfl (fun a f => f.elim), e, List.length_set, fun j hj => by
      have hij : i ≠ j := fun z => hj (by rw [z]; unfold tgts; exact List.mem_cons_self)
      exact ⟨List.getElem?_set_ne hij, List.getElem?_set_ne hij⟩, fun a ha => ha.put.elim .inl fun f => f.elim, hf⟩
  have keep : r' = r.set i m → gName i v σ H Q := fun hr => by
    subst hr
    exact s F _ ⟨w.put o nt fr, Ex.refl F, List.length_set, fun j hj => by
      have hij : i ≠ j := fun z => hj (by rw [z]; unfold tgts; exact List.mem_cons_self)
      exact ⟨List.getElem?_set_ne hij, List.getElem?_set_ne hij⟩, fun a ha => ha.put, fun a ha => .inl ha⟩
  have froz : r' = r.set i (.dat m.fz) → gName i v σ H Q := fun hr => by
    have oa : OwnAll K F H [m] [v] := .cons o .nil
    have e3 := frozen_ex oa
    have hf : ∀ a, frozen F H [m] [v] a ≠ none → F a ≠ none ∨ Foot m v a := fun a ha => by
      by_cases h : ∃ (i : Nat) (m' : MV) (v' : V), [m][i]? = some m' ∧ [v][i]? = some v' ∧ Foot m' v' a
      · obtain ⟨j, m', v', e1, e2, f⟩ := h
        cases j with
        | zero => simp at e1 e2; subst e1 e2; exact .inr f
        | succ j => simp at e1
      · unfold frozen at ha
        rw [if_neg h] at ha
        exact .inl ha
    have rp := repAll_frozen e3 oa (by simp [nt]) fun j m' v' e1 e2 a f => frozen_in e1 e2 f
    cases rp with
    | cons rp _ => exact dat e3 (w.frz e3 (frozen_le w.ex) fun a ha => (hf a ha).imp id (fr a)) rp hf hr
  simp only [asg] at h
  split at h
  · rename_i d
    split at h
    · cases h; exact keep rfl
    · cases h
  · rename_i xs
    split at h
    · cases h
      cases own with
      | true => exact keep rfl
      | false => exact froz rfl
    · cases h
  · rename_i xs
    split at h
    · cases h
      cases own with
      | true => exact keep rfl
      | false => exact froz rfl
    · cases h
  · cases h
theorem tg_nm (i : Nat) : ClT' T (.nm i) := by
  intro S X tg hc hN hok own m r r' F H σ v Q h w o nt fr s
  cases tg <;> simp only [okT, Bool.false_eq_true] at hok
  rename_i x p
  exact ⟨_, hN i x p hok, nm_ok h w o nt fr s⟩
theorem tg_tp {ts : CTs} (ht : ClTs' T ts) : ClT' T (.tp ts) := by
  intro S X tg hc hN hok own m r r' F H σ v Q h w o nt fr s
  cases tg <;> simp only [okT, Bool.false_eq_true] at hok
  rename_i xs k p
  simp only [asg] at h
  split at h
  · rename_i ds
    obtain ⟨a, vs, rfl, h1, h2, h3⟩ := Rep.tup_inv o
    obtain ⟨hl, hu⟩ := ht S X xs hc hN hok ds r r' F H σ vs Q h w h3 fun σ' B => s F σ' ⟨B.wd, B.ef, B.len, by unfold tgts; exact B.out, fun a ha => (B.has a ha).imp id fun f => f.elim, fun a ha => .inl ha⟩
    exact ⟨_, pg_tup (n := xs.length) hc pgs_U assignEach_len (assignEach_star (okTs_star hok)), a, vs, rfl, ex_t w.ex h1, hl, hu⟩
  · cases h
theorem tgs_nil : ClTs' T .nil := by
  intro S X tgs hc hN hok ds r r' F H σ vs Q h w rp s
  cases tgs <;> simp only [okTs, Bool.false_eq_true] at hok
  cases ds with
  | nil =>
    simp only [asgs] at h
    cases h
    cases rp
    exact ⟨rfl, _, pgs_nil, rfl, s σ ⟨w, Ex.refl F, rfl, fun j _ => ⟨rfl, rfl⟩, fun a h => .inl h, fun a h => .inl h⟩⟩
  | cons _ _ => simp only [asgs] at h; cases h
theorem tgs_cons {t : CT} {ts : CTs} (ht : ClT' T t) (hts : ClTs' T ts) : ClTs' T (.cons t ts) := by
  intro S X tgs hc hN hok ds r r' F H σ vs Q h w rp s
  cases tgs with
  | nil => simp only [okTs, Bool.false_eq_true] at hok
  | cons x xs =>
    simp only [okTs, Bool.and_eq_true] at hok
    obtain ⟨⟨k1, k2⟩, k3⟩ := hok
    cases ds with
    | nil => simp only [asgs] at h; cases h
    | cons d ds =>
      simp only [asgs] at h
      cases rp with
      | cons r1 r2 =>
        rename_i v vs
        split at h
        · rename_i rm hr
          refine ⟨by simp only [List.length_cons]; rw [okTs_len k2 h r2], ?_⟩
          refine ⟨_, pgs_cons pg_U pgs_U (by rw [assignEach_cons k3]; rfl), v, vs, rfl, ?_⟩
          refine ht S X x hc hN k1 false (.dat d) r rm F H σ v _ hr w r1 rfl (fun a f => f.elim) fun F' σ' B => ?_
          refine (hts S X xs hc hN k2 ds rm r' F' H σ' vs Q h B.wd (r2.mono B.ef) fun σ'' B' => ?_).2
          have hFF : F' = F := funext fun a => by
            cases z : F' a with
            | none =>
              cases z2 : F a with
              | none => rfl
              | some o => rw [B.ef a o z2] at z; cases z
            | some o =>
              rcases B.frz a (by rw [z]; exact fun w => nomatch w) with q | q
              · cases z2 : F a with
                | none => exact absurd z2 q
                | some o2 => rw [B.ef a o2 z2] at z; cases z; rfl
              · exact q.elim
          subst hFF
          refine s σ'' ⟨B'.wd, B'.ef, B'.len.trans B.len, fun j hj => ?_, fun a ha => (B'.has a ha).elim (fun z => (B.has a z).imp id fun f => f.elim) fun f => f.elim, fun a ha => .inl ha⟩
          unfold tgtss at hj
          simp only [List.mem_append, not_or] at hj
          obtain ⟨a1, a2⟩ := B.out j hj.1
          obtain ⟨b1, b2⟩ := B'.out j hj.2
          exact ⟨b1.trans a1, b2.trans a2⟩
        · cases h
mutual
theorem tg_ok : ∀ t : CT, ClT' T t
  | .nm i => tg_nm i
  | .tp ts => tg_tp (tgs_ok ts)
theorem tgs_ok : ∀ ts : CTs, ClTs' T ts
  | .nil => tgs_nil
  | .cons t ts => tgs_cons (tg_ok t) (tgs_ok ts)
end
end
end M
set_option Elab.async false
set_option linter.all false
set_option maxRecDepth 100000
set_option maxHeartbeats 1000000
set_option autoImplicit false
namespace M
open PySem PySem.Spec PyProof.Rows L2
theorem wipe_len : ∀ {is : List Nat} {r : Env}, (wipe r is).length = r.length
  | [], _ => by unfold wipe; rfl
  | i :: is, r => by unfold wipe; rw [List.length_set, wipe_len]
theorem wipe_in : ∀ {is : List Nat} {r : Env} {j : Nat} {m : MV}, j ∈ is → (wipe r is)[j]? = some m → m = .no
  | i :: is, r, j, m, h, e => by
    unfold wipe at e
    rcases get_set_inv e with ⟨_, z, _⟩ | ⟨z0, z⟩
    · exact z
    · exact wipe_in ((List.mem_cons.mp h).resolve_left fun q => z0 q.symm) z
theorem wipe_out : ∀ {is : List Nat} {r : Env} {j : Nat}, j ∉ is → (wipe r is)[j]? = r[j]?
  | [], _, _, _ => by unfold wipe; rfl
  | i :: is, r, j, h => by
    unfold wipe
    rw [List.getElem?_set_ne fun z => h (by rw [z]; exact List.mem_cons_self)]
    exact wipe_out fun z => h (List.mem_cons_of_mem _ z)
theorem unwipe_len {r0 : Env} : ∀ {is : List Nat} {r : Env}, (unwipe r0 r is).length = r.length
  | [], _ => by unfold unwipe; rfl
  | i :: is, r => by unfold unwipe; rw [List.length_set, unwipe_len]
theorem unwipe_in {r0 : Env} : ∀ {is : List Nat} {r : Env} {j : Nat} {m : MV}, j ∈ is → (unwipe r0 r is)[j]? = some m → m = slot r0 j
  | i :: is, r, j, m, h, e => by
    unfold unwipe at e
    rcases get_set_inv e with ⟨z0, z, _⟩ | ⟨z0, z⟩
    · subst z0; exact z
    · exact unwipe_in ((List.mem_cons.mp h).resolve_left fun q => z0 q.symm) z
theorem unwipe_out {r0 : Env} : ∀ {is : List Nat} {r : Env} {j : Nat}, j ∉ is → (unwipe r0 r is)[j]? = r[j]?
  | [], _, _, _ => by unfold unwipe; rfl
  | i :: is, r, j, h => by
    unfold unwipe
    rw [List.getElem?_set_ne fun z => h (by rw [z]; exact List.mem_cons_self)]
    exact unwipe_out fun z => h (List.mem_cons_of_mem _ z)
theorem wipeS_out : ∀ {is : List Nat} {σ : L2.St} {j : Nat}, j ∉ is → (L2.wipe σ is)[j]? = σ[j]?
  | [], _, _, _ => by unfold L2.wipe; rfl
  | i :: is, σ, j, h => by
    unfold L2.wipe
    rw [List.getElem?_set_ne fun z => h (by rw [z]; exact List.mem_cons_self)]
    exact wipeS_out fun z => h (List.mem_cons_of_mem _ z)
theorem wipeS_in : ∀ {is : List Nat} {σ : L2.St} {j : Nat}, j ∈ is → j < σ.length → (L2.wipe σ is)[j]? = some none
  | i :: is, σ, j, h, hl => by
    unfold L2.wipe
    by_cases hij : i = j
    · subst hij
      rw [List.getElem?_set_self (by rw [L2.wipe_length]; exact hl)]
    · rw [List.getElem?_set_ne hij]
      exact wipeS_in ((List.mem_cons.mp h).resolve_left fun q => hij q.symm) hl
theorem noOwn_at {r : Env} : ∀ {is : List Nat} {j : Nat}, noOwn r is = true → j ∈ is → (slot r j).own = false
  | i :: is, j, h, hj => by
    unfold noOwn at h
    simp only [Bool.and_eq_true, Bool.not_eq_true'] at h
    rcases List.mem_cons.mp hj with rfl | hj
    · exact h.1
    · exact noOwn_at h.2 hj
theorem slot_get {r : Env} {i : Nat} {m : MV} (h : r[i]? = some m) : slot r i = m := by
  unfold slot
  rw [List.getD_eq_getElem?_getD, h]
  rfl
theorem foot_own {m : MV} {v : V} {a : Addr} (f : Foot m v a) : m.own = true := by
  cases m <;> first | rfl | exact f.elim
section
variable {K : PySem.W.Frag} {F H F1 H1 F2 H2 F3 : Hp} {r r1 r2 : Env} {σ σ2 : L2.St} {own : List Nat}
theorem Wd.wipe (w : Wd K F H r σ) : Wd K F H (M.wipe r own) (L2.wipe σ own) where
  ex := w.ex
  len := by rw [wipe_len, L2.wipe_length]; exact w.len
  nt := fun j m e => by
    by_cases h : j ∈ own
    · rw [wipe_in h e]; rfl
    · rw [wipe_out h] at e; exact w.nt j m e
  at_ := fun j m e n => by
    by_cases h : j ∈ own
    · exact absurd (wipe_in h e) n
    · rw [wipe_out h] at e
      rw [wipeS_out h]
      exact w.at_ j m e n
  sep := fun i j m n v u a e1 e2 f e3 e4 g => by
    by_cases h : i ∈ own
    · rw [wipe_in h e1] at f; exact f.elim
    · by_cases h' : j ∈ own
      · rw [wipe_in h' e3] at g; exact g.elim
      · rw [wipe_out h] at e1
        rw [wipe_out h'] at e3
        rw [wipeS_out h] at e2
        rw [wipeS_out h'] at e4
        exact w.sep i j m n v u a e1 e2 f e3 e4 g
theorem Has.wiped {a : Addr} (h : Has (M.wipe r own) (L2.wipe σ own) a) : Has r σ a := by
  obtain ⟨i, m, v, e1, e2, f⟩ := h
  by_cases h : i ∈ own
  · rw [wipe_in h e1] at f; exact f.elim
  · rw [wipe_out h] at e1
    rw [wipeS_out h] at e2
    exact ⟨i, m, v, e1, e2, f⟩
theorem Mid.unwipe {q1 q2 : Bool} {rb : Env} {F' H' : Hp} (M1 : Mid K F H r σ q1 r1 F' H1) (e1 : Ex F' F1) (e2 : Ex F1 H2) (e3 : Ex H1 H2) (hf : ∀ a, F1 a ≠ none → F' a ≠ none ∨ H1 a = none) (no : noOwn r1 own = true)
    (B : Bnd K F1 H2 (M.wipe r1 own) (L2.wipe σ own) own (.dat .non) .non rb σ2 F1) (M2 : Mid K F1 H2 rb σ2 q2 r2 F2 H') : Mid K F H r σ (q1 && q2) (M.unwipe r1 r2 own) F2 H' := by
  have lenr : r2.length = r1.length := by
    rw [M2.wd.len, B.len, L2.wipe_length, M1.wd.len]
  have out : ∀ {j : Nat}, j ∉ own → σ2[j]? = σ[j]? := fun {j} h => by rw [(B.out j h).1, wipeS_out h]
  have hasb : ∀ {a : Addr}, Has rb σ2 a → Has r1 σ a := fun {a} h => ((B.has a h).resolve_right fun f => f.elim).wiped
  have has2 : ∀ {a : Addr}, Has (M.unwipe r1 r2 own) σ a → Has r2 σ2 a := fun {a} ⟨j, n, u, z1, z2, f⟩ => by
    by_cases h : j ∈ own
    · have z := unwipe_in h z1
      have := noOwn_at no h
      rw [← z, foot_own f] at this
      cases this
    · rw [unwipe_out h] at z1
      rw [← out h] at z2
      exact ⟨j, n, u, z1, z2, f⟩
  have ef : Ex F' F2 := e1.trans M2.st.ef
  refine ⟨⟨M2.wd.ex, by rw [unwipe_len, lenr, M1.wd.len], fun j n z => ?_, fun j n z nn => ?_, fun i j n n' u u' a z1 z2 f z3 z4 g => ?_⟩, ?_, fun a h => ?_⟩
  · by_cases h : j ∈ own
    · have z' := unwipe_in h z
      by_cases hn : slot r1 j = .no
      · rw [z', hn]; rfl
      · rw [z']; exact M1.wd.nt j _ (slot_some hn)
    · rw [unwipe_out h] at z
      exact M2.wd.nt j n z
  · by_cases h : j ∈ own
    · have z' := unwipe_in h z
      subst z'
      obtain ⟨u, y1, y2⟩ := M1.wd.at_ j _ (slot_some nn) nn
      refine ⟨u, y1, ?_⟩
      have no' := noOwn_at no h
      have nt' := M1.wd.nt j _ (slot_some nn)
      cases hs : slot r1 j with
      | no => exact absurd hs nn
      | dat d => rw [hs] at y2; exact Rep.mono ef y2
      | tmp d => rw [hs] at nt'; cases nt'
      | blst d => rw [hs] at nt'; cases nt'
      | bdic d => rw [hs] at nt'; cases nt'
      | lst d => rw [hs] at no'; cases no'
      | dic d => rw [hs] at no'; cases no'
    · rw [unwipe_out h] at z
      obtain ⟨u, y1, y2⟩ := M2.wd.at_ j n z nn
      rw [out h] at y1
      exact ⟨u, y1, y2⟩
  · have own' : ∀ {j : Nat} {n : MV} {u : V}, (M.unwipe r1 r2 own)[j]? = some n → Foot n u a → j ∉ own := fun {j n u} z f h => by
      have z' := unwipe_in h z
      have := noOwn_at no h
      rw [← z', foot_own f] at this
      cases this
    have hi := own' z1 f
    have hj := own' z3 g
    rw [unwipe_out hi] at z1
    rw [unwipe_out hj] at z3
    rw [← out hi] at z2
    rw [← out hj] at z4
    exact M2.wd.sep i j n n' u u' a z1 z2 f z3 z4 g
  ·
    have s1 : Stp F' H1 (fun _ => False) F1 H2 := ⟨e1, fun a o _ h => e3 a o h, fun a h z => h (e3.back z), fun a h => (hf a h).elim .inl fun z => .inr (.inl z)⟩
    have s2 : Stp F H (fun a => q1 = false ∧ Has r σ a) F1 H2 := M1.st.trans s1 (fun _ h => h) fun _ h => h.elim
    refine s2.trans M2.st (fun a h => ⟨by rw [h.1]; rfl, h.2⟩) fun a ⟨z1, z2⟩ => ?_
    exact (M1.old a (hasb z2)).imp (fun z => ⟨by rw [z1, Bool.and_false], z⟩) id
  · rcases M2.old a (has2 h) with z | z
    · exact M1.old a (hasb z)
    · exact .inr (M1.st.back (e3.back z))
end
theorem unwipe_no {r1 r2 : Env} {own : List Nat} (no : noOwn r1 own = true) (hl : r2.length = r1.length) : noOwn (unwipe r1 r2 own) own = true := by
  have key : ∀ {is : List Nat}, (∀ j ∈ is, j ∈ own) → noOwn (unwipe r1 r2 own) is = true := by
    intro is
    induction is with
    | nil => intro _; rfl
    | cons i is ih =>
      intro h
      have hi := h i List.mem_cons_self
      unfold noOwn
      rw [ih fun j hj => h j (List.mem_cons_of_mem _ hj), Bool.and_true, Bool.not_eq_true']
      cases e : (unwipe r1 r2 own)[i]? with
      | none =>
        unfold slot
        rw [List.getD_eq_getElem?_getD, e]
        rfl
      | some m =>
        rw [slot_get e, unwipe_in hi e]
        exact noOwn_at no hi
  exact key fun _ h => h
theorem wipeS_eq {σ2 σ : L2.St} {own : List Nat} (hl : σ2.length = σ.length) (h : ∀ j, j ∉ own → σ2[j]? = σ[j]?) : L2.wipe σ2 own = L2.wipe σ own := by
  refine List.ext_getElem? fun j => ?_
  by_cases hj : j ∈ own
  · by_cases hlt : j < σ.length
    · rw [wipeS_in hj (by rw [hl]; exact hlt), wipeS_in hj hlt]
    · rw [List.getElem?_eq_none (by rw [L2.wipe_length]; omega), List.getElem?_eq_none (by rw [L2.wipe_length]; omega)]
  · rw [wipeS_out hj, wipeS_out hj, h j hj]
mutual
theorem inOwn_tgts {T : Tab} {own : List Nat} : ∀ {t : CT}, inOwn T own t = true → ∀ j ∈ tgts t, j ∈ own
  | .nm i, h, j, hj => by
    unfold tgts at hj
    have := List.mem_singleton.mp hj
    subst this
    simpa [inOwn] using h
  | .tp ts, h, j, hj => by
    unfold tgts at hj
    simp only [inOwn] at h
    exact inOwns_tgts h j hj
theorem inOwns_tgts {T : Tab} {own : List Nat} : ∀ {ts : CTs}, inOwns T own ts = true → ∀ j ∈ tgtss ts, j ∈ own
  | .nil, _, j, hj => by unfold tgtss at hj; cases hj
  | .cons t ts, h, j, hj => by
    unfold tgtss at hj
    simp only [inOwns, Bool.and_eq_true] at h
    rcases List.mem_append.mp hj with hj | hj
    · exact inOwn_tgts h.1 j hj
    · exact inOwns_tgts h.2 j hj
end
theorem noSet_fold {iter : Expr} {env : PySem.Env} (h : notSet iter = true) : ∀ x, foldedSetIterable iter env x = pure x := fun x => by
  cases iter <;> first | rfl | cases h
section
variable {K : PySem.W.Frag} {F H F1 H1 F2 H2 F3 : Hp} {r r1 r2 : Env} {σ σ2 : L2.St} {own : List Nat} {q : Bool} {p : Addr} {o : HO}
theorem Wd.grow (w : Wd K F H r σ) (s : Stp F H (fun _ => False) F2 H2) (e : Ex F2 H2) : Wd K F2 H2 r σ where
  ex := e
  len := w.len
  nt := w.nt
  at_ := fun j m e1 n => by
    obtain ⟨v, e2, ow⟩ := w.at_ j m e1 n
    exact ⟨v, e2, ow.step s (fun _ _ z => z) fun _ _ z => z⟩
  sep := w.sep
theorem Bnd.same {is : List Nat} {m : MV} {v : V} (B : Bnd K F H r σ is m v r2 σ2 F2) (hm : ∀ a, ¬ Foot m v a) : F2 = F := funext fun a => by
  cases z : F2 a with
  | none =>
    cases z2 : F a with
    | none => rfl
    | some o => rw [B.ef a o z2] at z; cases z
  | some o =>
    rcases B.frz a (by rw [z]; exact fun w => nomatch w) with q | q
    · cases z2 : F a with
      | none => exact absurd z2 q
      | some o2 => rw [B.ef a o2 z2] at z; cases z; rfl
    · exact absurd q (hm a)
theorem Mid.turnFree (M : Mid K F H r σ q r1 F1 H1) (h0 : H p = none) (h1 : F1 p = none) (h2 : ¬ Has r1 σ p) : Mid K F H r σ q r1 F1 (upd H1 p o) := by
  have s : Stp F1 H1 (fun b => b = p) F1 (upd H1 p o) := ⟨Ex.refl F1, fun b w nb hb => by rw [upd_ne nb]; exact hb, fun b hb => by
    by_cases z : b = p
    · subst z; rw [upd_same]; exact fun w => nomatch w
    · rw [upd_ne z]; exact hb, fun b hb => .inl hb⟩
  refine ⟨⟨M.wd.ex.right h1, M.wd.len, M.wd.nt, fun j m e1 n => ?_, M.wd.sep⟩, M.st.trans s (fun _ h => h) fun b hb => .inr (by rw [hb]; exact h0), M.old⟩
  obtain ⟨v, e2, ow⟩ := M.wd.at_ j m e1 n
  exact ⟨v, e2, ow.step s (fun t => by rw [M.wd.nt j m e1] at t; cases t) fun a f z => h2 (by subst z; exact ⟨j, m, v, e1, e2, f⟩)⟩
theorem Has.unwiped {a : Addr} (no : noOwn r1 own = true) (out : ∀ j, j ∉ own → σ2[j]? = σ[j]?) (h : Has (M.unwipe r1 r2 own) σ a) : Has r2 σ2 a := by
  obtain ⟨j, n, u, z1, z2, f⟩ := h
  by_cases h : j ∈ own
  · have z := unwipe_in h z1
    have := noOwn_at no h
    rw [← z, foot_own f] at this
    cases this
  · rw [unwipe_out h] at z1
    rw [← out j h] at z2
    exact ⟨j, n, u, z1, z2, f⟩
theorem Mid.keepFree (M : Mid K F H r σ q r1 F1 H1) (h0 : H p = some o) (h1 : F p = none) (h2 : ¬ Has r σ p) : H1 p = some o ∧ F1 p = none ∧ ¬ Has r1 σ p := by
  refine ⟨M.st.keep p o (fun z => h2 z.2) h0, ?_, fun h => ?_⟩
  · cases z : F1 p with
    | none => rfl
    | some u =>
      rcases M.st.frz p (by rw [z]; exact fun w => nomatch w) with q | q | q
      · exact absurd h1 q
      · rw [h0] at q; cases q
      · exact absurd q.2 h2
  · rcases M.old p h with z | z
    · exact h2 z
    · rw [h0] at z; cases z
end
section
variable {T : Tab} {call : Call} {glob : Nat → Option D} {ER : EK}
theorem okE_lc {S : Sc} {own : List Nat} {t : CT} {it : CI} {c : CO} {e : CE} {x : Expr} (h : okE T S (.lc own t it c e) x = true) : ∃ elt tg iter ifs scope pos, x = .ListComp elt [⟨tg, iter, ifs, 0⟩] scope pos ∧ blkC S.N S.sc scope (ownN S own) = true ∧
    okI T S it tg iter = true ∧ okT T ⟨S.N, scope⟩ t tg = true ∧ inOwn T own t = true ∧ okIf T ⟨S.N, relS scope S.sc⟩ c ifs = true ∧ okE T ⟨S.N, relS scope S.sc⟩ e elt = true ∧ notSet iter = true := by
  cases x
  case ListComp elt gens scope pos =>
    match gens with
    | [] => simp [okE] at h
    | [⟨tg, iter, ifs, .ofNat 0⟩] =>
      have h : okE T S (.lc own t it c e) (.ListComp elt [⟨tg, iter, ifs, 0⟩] scope pos) = true := h
      simp only [okE, Bool.and_eq_true] at h
      exact ⟨elt, tg, iter, ifs, scope, pos, rfl, h.1.1.1.1.1.1, h.1.1.1.1.1.2, h.1.1.1.1.2, h.1.1.1.2, h.1.1.2, h.1.2, h.2⟩
    | [⟨tg, iter, ifs, .ofNat (_ + 1)⟩] => simp only [okE, Bool.false_eq_true] at h
    | [⟨tg, iter, ifs, .negSucc _⟩] => simp [okE] at h
    | _ :: _ :: _ => simp [okE] at h
  all_goals simp [okE] at h
theorem names_blk {S : Sc} {X : Cx} {scope : Scope} (hN : X.N = S.N) (nd : X.N.Nodup) {s : Shared} {H : Hp} {C : Addr} {cl : List (Str × Addr)} {fp : List Addr} : Names ⟨S.N, scope⟩ (X.blk s H scope (compEnvC scope cl C X.env) fp) := fun i x p h => by
  unfold isL at h
  simp only [Bool.and_eq_true, beq_iff_eq, Bool.not_eq_true'] at h
  obtain ⟨⟨h1, h2⟩, h3⟩ := h
  have hi : X.N[i]? = some x := by rw [hN]; exact h1
  have hl : scope.names.lookup x = some .local ∨ scope.names.lookup x = some .cell := by
    unfold locB at h2
    dsimp only at h2
    split at h2 <;> simp_all
  refine pg_name (X := X.blk s H scope (compEnvC scope cl C X.env) fp) nd hi ?_ ?_
  · exact hl.elim (fun z => .inl (lookup_relS_keep (by decide) z)) fun z => .inr (lookup_relS_keep (by decide) z)
  · exact hl.elim (fun z => .inr (lookup_relS_keep (by decide) z)) fun z => .inl (by show (scope.names.lookup x == some NameKind.cell) = true; rw [z]; rfl)
theorem Good.blk {S : Sc} {X : Cx} {W : WX} (G : Good T call glob ER S X W) {scope : Scope} {s : Shared} {H : Hp} {C : Addr} {cl : List (Str × Addr)} {fp : List Addr} :
    Good T call glob ER ⟨S.N, relS scope S.sc⟩ (X.blk s H scope (compEnvC scope cl C X.env) fp) (fun _ _ _ _ => False) where
  N := G.N
  nd := G.nd
  sc := by
    show relabel scope X.env = relS scope S.sc
    rw [← G.sc]
    rfl
  calm := G.calm
  guards := G.guards
  units := G.units
  free := G.free
  glb := G.glb
  fns := G.fns
  pas := fun σ => passAt (fun u s' ⟨_, _, _, _, _, _, _, _, _, _, _, _, _, _, _, _, w⟩ => w.elim) σ
  ers := G.ers
theorem lc_step {α : Type} {step : D → Env → R (Option D)} {d : D} {ds acc out : List D} {r r2 : Env} (h : lcLoop step (d :: ds) acc r = some (.ok out, r2)) : ∃ o r1, step d r = some (.ok o, r1) ∧ lcLoop step ds (acc ++ o.toList) r1 = some (.ok out, r2) := by
  simp only [lcLoop] at h
  rcases bind_inv h with ⟨z, _, e⟩ | ⟨o, r1, h1, h⟩
  · cases e
  · exact ⟨o, r1, h1, h⟩
def lcG (X : Cx) (scope : Scope) (tg : Expr) : TG := fun v σ H Q => ∀ s0 H0 C cl fp, UG (X.blk s0 H0 scope (compEnvC scope cl C X.env) fp) tg v σ H Q
def lcT (X : Cx) (scope : Scope) (ifs : List Expr) : TT := fun σ H Q => ∀ s0 H0 C cl fp, UTs (X.blk s0 H0 scope (compEnvC scope cl C X.env) fp) ifs σ H Q
def lcE (X : Cx) (scope : Scope) (elt : Expr) : TE := fun σ H Q => ∀ s0 H0 C cl fp, UE (X.blk s0 H0 scope (compEnvC scope cl C X.env) fp) elt σ H Q
theorem lcG_ok {X : Cx} {scope : Scope} {tg : Expr} (s0 : Shared) (H0 : Hp) (C : Addr) (cl : List (Str × Addr)) (fp : List Addr) : PG (X.blk s0 H0 scope (compEnvC scope cl C X.env) fp) tg (lcG X scope tg) := ⟨fun pins s σ H v u Q I r z => pg_U.run pins s σ H v u Q I r (z s0 H0 C cl fp)⟩
theorem lcT_ok {X : Cx} {scope : Scope} {ifs : List Expr} (s0 : Shared) (H0 : Hp) (C : Addr) (cl : List (Str × Addr)) (fp : List Addr) : PTs (X.blk s0 H0 scope (compEnvC scope cl C X.env) fp) ifs (lcT X scope ifs) := ⟨fun pins s σ H Q I z => pts_U.run pins s σ H Q I (z s0 H0 C cl fp)⟩
theorem lcE_ok {X : Cx} {scope : Scope} {elt : Expr} (s0 : Shared) (H0 : Hp) (C : Addr) (cl : List (Str × Addr)) (fp : List Addr) : PE (X.blk s0 H0 scope (compEnvC scope cl C X.env) fp) elt (lcE X scope elt) := ⟨fun pins s σ H Q I z => pe_U.run pins s σ H Q I (z s0 H0 C cl fp)⟩
theorem lc_main {own : List Nat} {t : CT} {it : CI} {c : CO} {e : CE} (hI : ClI T call glob ER it) (hC : ClIf T call glob ER c) (hE : ClE T call glob ER e) {S : Sc} {X : Cx} {W : WX} (G : Good T call glob ER S X W) {elt tg iter : Expr} {ifs : List Expr} {scope : Scope}
    (k1 : blkC S.N S.sc scope (ownN S own) = true) (k2 : okI T S it tg iter = true) (k3 : okT T ⟨S.N, scope⟩ t tg = true) (k4 : inOwn T own t = true) (k5 : okIf T ⟨S.N, relS scope S.sc⟩ c ifs = true) (k6 : okE T ⟨S.N, relS scope S.sc⟩ e elt = true)
    {r r' : Env} {o : Except Exc MV} {F H : Hp} {σ : L2.St} {Q : VK} (h : evalE call glob (.lc own t it c e) r = some (o, r')) (w : Wd X.K F H r σ) (s : Sat X.K ER (WE W σ) F H r σ (CE.lc own t it c e).quiet o r' Q) :
    tLc (UI X tg iter) (lcG X scope tg) (lcT X scope ifs) (lcE X scope elt) own σ H Q := by
  simp only [evalE] at h
  generalize hq : (CE.lc own t it c e).quiet = q0 at s
  simp only [CE.quiet] at hq
  rcases bind_inv h with ⟨z, h1, rfl⟩ | ⟨ds, r1, h1, h⟩
  · exact hI S X W tg iter G k2 _ _ _ F H σ _ h1 w fun cls d F' H' XX => s cls d F' H' (XX.flag fun z => by rw [← hq, z]; rfl)
  split at h
  · cases h
  rename_i hno
  simp only [Bool.not_eq_true', Bool.not_eq_false] at hno
  refine hI S X W tg iter G k2 _ _ _ F H σ _ h1 w fun hlen J F1 H1 M1 itr D hD => ?_
  split at h
  case h_2 => cases h
  rename_i out r2 hl
  obtain ⟨rfl, hr⟩ := ret_inv h
  subst hr
  generalize hstep : (fun (d : M.D) (r : Env) => match asg false t (.dat d) (M.wipe r own) with
        | none => none
        | some r' => R.bind (evalC call glob c r') fun k r2 => if k then R.bind (evalE call glob e r2) fun m r3 => match m.data with
            | some d => ret (some d) (unwipe r r3 own)
            | none => none
          else ret none (unwipe r r2 own)) = step at hl
  have hH : H D = none := M1.st.back hD
  let P : Nat → Hp → Prop := fun i H' => i ≤ ds.length ∧ ∃ F' ri acc outs, Mid X.K F H r σ q0 ri F' H' ∧ noOwn ri own = true ∧ Ex F1 F' ∧ H' D = some (.lst acc) ∧ F' D = none ∧ ¬ Has ri σ D ∧ RepAll X.K F' outs acc ∧ acc.length ≤ i ∧ lcLoop step (ds.drop i) outs ri = some (.ok out, r')
  have p0 : P 0 (upd H1 D (.lst [])) := ⟨Nat.zero_le _, F1, r1, [], [], (M1.flag fun z => by rw [← hq, z]; rfl).new hD, hno, Ex.refl F1, upd_same, M1.wd.ex.back hD, M1.notHas hD, .nil, Nat.le_refl _, hl⟩
  refine ⟨fun i m H' => m = ds.length - i ∧ P i H', ⟨_, rfl, p0⟩, fun i m H' ⟨hm, hi, F', ri, acc, outs, Mi, no, eF, d1, d2, d3, d4, d5, hlc⟩ => ?_⟩
  by_cases hlt : i < ds.length
  ·
    have hd : ds[i]? = some ds[i] := List.getElem?_eq_getElem hlt
    generalize ds[i] = d at hd
    rw [List.drop_eq_getElem?_toList_append, hd] at hlc
    have hlc : lcLoop step (d :: ds.drop (i + 1)) outs ri = some (.ok out, r') := hlc
    obtain ⟨oo, rj, hs1, hs2⟩ := lc_step (α := Unit) hlc
    obtain ⟨go, yl⟩ := (itr i F' H' eF Mi.wd.ex).1 d hd
    refine .inr ⟨go, P (i + 1), fun H'' p => ⟨_, by omega, rfl, p⟩, fun x H'' y => ?_⟩
    obtain ⟨F'', e1, e2, e3, fz, rx⟩ := yl x H'' y
    rw [← hstep] at hs1
    dsimp only at hs1
    split at hs1
    · cases hs1
    rename_i ra ha
    have D1 : H'' D = some (.lst acc) := e3 D _ d1
    have D2 : F'' D = none := by
      cases z : F'' D with
      | none => rfl
      | some u =>
        rcases fz D (by rw [z]; exact fun w => nomatch w) with q | q
        · exact absurd d2 q
        · rw [d1] at q; cases q
    have st : Stp F' H' (fun _ => False) F'' H'' := ⟨e1, fun a o _ h => e3 a o h, fun a h z => h (e3.back z), fun a h => (fz a h).elim .inl fun z => .inr (.inl z)⟩
    have w1 : Wd X.K F'' H'' (M.wipe ri own) (L2.wipe σ own) := (Mi.wd.grow st e2).wipe
    intro s0 H0 C cl fp
    refine tg_ok (T := T) t ⟨S.N, scope⟩ (X.blk s0 H0 scope (compEnvC scope cl C X.env) fp) tg G.calm (names_blk G.N G.nd) k3 false (.dat d) _ ra F'' H'' (L2.wipe σ own) x _ ha w1 rx rfl (fun a f => f.elim) fun Fb σ2 B => ?_
    have eb := B.same fun a f => f.elim
    subst eb
    have B' : Bnd X.K Fb H'' (M.wipe ri own) (L2.wipe σ own) own (.dat .non) .non ra σ2 Fb := ⟨B.wd, B.ef, B.len, fun j hj => B.out j fun z => hj (inOwn_tgts k4 j z), fun a h => (B.has a h).imp id fun f => f.elim, fun a h => (B.frz a h).imp id fun f => f.elim⟩
    have out2 : ∀ j, j ∉ own → σ2[j]? = σ[j]? := fun j hj => by rw [(B'.out j hj).1, wipeS_out hj]
    refine ⟨wipeS_eq (by rw [B.len, L2.wipe_length]) out2, fun s1 H01 C1 cl1 fp1 => ?_⟩
    have D3 : ¬ Has ra σ2 D := fun h => d3 ((B'.has D h).resolve_right fun f => f.elim).wiped
    rcases bind_inv hs1 with ⟨z, _, ez⟩ | ⟨k, rc, hc, hs1⟩
    · cases ez
    refine hC ⟨S.N, relS scope S.sc⟩ (X.blk s1 H01 scope (compEnvC scope cl1 C1 X.env) fp1) (fun _ _ _ _ => False) ifs G.blk k5 _ _ _ Fb H'' σ2 _ hc B.wd fun F3 H3 M3 => ?_
    have fin : ∀ {q2 : Bool} {rX : Env} {F5 H4 : Hp}, (q0 && q2) = false ∨ True → (q2 = false → q0 = false) → Mid X.K Fb H'' ra σ2 q2 rX F5 H4 → Mid X.K F H r σ q0 (unwipe ri rX own) F5 H4 ∧ noOwn (unwipe ri rX own) own = true ∧ Ex F1 F5 ∧ H4 D = some (.lst acc) ∧ F5 D = none ∧ ¬ Has (unwipe ri rX own) σ D := fun {q2 rX F5 H4} _ hq2 M => by
      obtain ⟨y1, y2, y3⟩ := M.keepFree D1 D2 D3
      refine ⟨(Mi.unwipe e1 e2 e3 fz no B' M).flag fun z => ?_, unwipe_no no ?_, (eF.trans e1).trans M.st.ef, y1, y2, fun h => y3 (h.unwiped no out2)⟩
      · cases q0 with
        | false => rfl
        | true =>
          cases q2 with
          | false => exact hq2 rfl
          | true => exact z
      · rw [M.wd.len, B.len, L2.wipe_length, Mi.wd.len]
    cases k with
    | false =>
      simp only [Bool.false_eq_true, if_false] at hs1 ⊢
      obtain ⟨e5, e6⟩ := ret_inv hs1
      cases e5
      subst e6
      obtain ⟨f1, f2, f3, f4, f5, f6⟩ := fin (.inr trivial) (fun z => by rw [← hq, z]; simp) M3
      exact ⟨hlt, F3, _, acc, outs, f1, f2, f3, f4, f5, f6, d4.mono (e1.trans M3.st.ef), Nat.le_succ_of_le d5, by simpa using hs2⟩
    | true =>
      simp only [if_true] at hs1 ⊢
      intro s2 H02 C2 cl2 fp2
      rcases bind_inv hs1 with ⟨z, _, ez⟩ | ⟨mm, rd, hm, hs1⟩
      · cases ez
      refine hE ⟨S.N, relS scope S.sc⟩ (X.blk s2 H02 scope (compEnvC scope cl2 C2 X.env) fp2) (fun _ _ _ _ => False) elt G.blk k6 _ _ _ F3 H3 σ2 _ hm M3.wd fun y F4 H4 V4 => ?_
      split at hs1
      case h_2 => cases hs1
      rename_i dd hdd
      obtain ⟨e5, e6⟩ := ret_inv hs1
      cases e5
      subst e6
      have ht : mm.temp = false ∧ mm.fz = dd := by
        unfold MV.data at hdd
        split at hdd <;> first | (cases hdd; exact ⟨rfl, rfl⟩) | cases hdd
      obtain ⟨F5, e7, M5, rp⟩ := V4.freeze ht.1
      rw [ht.2] at rp
      have M6 := M3.trans M5
      obtain ⟨f1, f2, f3, f4, f5, f6⟩ := fin (.inr trivial) (fun z => by rw [← hq, Bool.and_assoc, z, Bool.and_false]) M6
      refine ⟨acc, f4, by omega, hlt, F5, _, acc ++ [y], outs ++ [dd], f1.turnFree hH f5 f6, f2, f3, upd_same, f5, f6, (d4.mono (e1.trans M6.st.ef)).append (.cons rp .nil), ?_, by simpa using hs2⟩
      rw [List.length_append, List.length_singleton]
      omega
  ·
    have hie : i = ds.length := by omega
    subst hie
    refine .inl ⟨(itr _ F' H' eF Mi.wd.ex).2 rfl, ?_⟩
    rw [List.drop_length] at hlc
    simp only [lcLoop] at hlc
    obtain ⟨e5, e6⟩ := ret_inv hlc
    cases e5
    subst e6
    exact s _ F' H' ⟨Mi, ⟨D, acc, rfl, d1, d2, by omega, d4⟩, fun a f => by
      cases (show V.ref D = .ref a from f)
      exact ⟨.inr hH, d3⟩⟩
theorem own_map {S : Sc} {own : List Nat} : (ownN S own).map (·.2) = own := by
  unfold ownN
  rw [List.map_map]
  exact List.map_id own
theorem cl_lc (own : List Nat) {t : CT} {it : CI} {c : CO} {e : CE} (hI : ClI T call glob ER it) (hC : ClIf T call glob ER c) (hE : ClE T call glob ER e) : ClE T call glob ER (.lc own t it c e) := by
  intro S X W ex G hok r o r' F H σ Q h w s
  obtain ⟨elt, tg, iter, ifs, scope, pos, rfl, k1, k2, k3, k4, k5, k6, k7⟩ := okE_lc hok
  have ok : BlkOk X.N X.env.scope scope (ownN S own) := by rw [G.N, G.sc]; exact blkOk_by k1
  refine ⟨_, pe_lc (X := X) (own := ownN S own) G.calm G.nd pi_U ok lcG_ok lcT_ok lcE_ok (noSet_fold k7), ?_⟩
  rw [own_map]
  exact lc_main hI hC hE G k1 k2 k3 k4 k5 k6 h w s
end
end M
set_option Elab.async false
set_option linter.all false
set_option maxRecDepth 100000
set_option maxHeartbeats 1000000
set_option autoImplicit false
namespace M
open PySem PySem.Spec PyProof.Rows L2
theorem isTrue_if {c a b : Expr} {p : Pos} {env : PySem.Env} {w : Sem Value} : isTrue (.IfExp c a b p) env w = (do
    if ← isTrue c env (eval c env) then isTrue a env (eval a env) else isTrue b env (eval b env)) := by rfl
theorem pt_if {X : Cx} {c a b : Expr} {p : Pos} {tc ta tb : TT} (hc : PT X c tc) (ha : PT X a ta) (hb : PT X b tb) : PT X (.IfExp c a b p) (fun σ H Q => tc σ H fun d H1 => if d = true then ta σ H1 Q else tb σ H1 Q) := by
  refine ⟨fun pins s σ H Q I h => ?_⟩
  rw [isTrue_if]
  refine wpAny_bind (thn (hc.run pins s σ H _ I h) fun d s1 ⟨H1, I1, q1⟩ => ?_)
  cases d with
  | true => exact ha.run pins s1 σ H1 Q I1 q1
  | false => exact hb.run pins s1 σ H1 Q I1 q1
section
variable {T : Tab} {call : Call} {glob : Nat → Option D} {ER : EK}
theorem ct_ite {c a b : CE} (hc : ClT T call glob ER c) (ha : ClT T call glob ER a) (hb : ClT T call glob ER b) : ClT T call glob ER (.ite c a b) := by
  intro S X W e G hok r ou r' F H σ Q h w s
  cases e <;> simp only [okE, Bool.false_eq_true, Bool.and_eq_true] at hok
  rename_i ec ea eb p
  obtain ⟨⟨k1, k2⟩, k3⟩ := hok
  refine ⟨_, pt_if pt_U pt_U pt_U, ?_⟩
  simp only [evalE] at h
  simp only [CE.quiet] at s
  rcases bind_inv h with ⟨x, h1, rfl⟩ | ⟨x, r1, h1, h⟩
  · exact hc S X W ec G k1 _ _ _ F H σ _ h1 w fun cls d F' H' XX => s cls d F' H' (XX.flag fun z => by simp [z])
  have fl : ∀ {y : CE}, (y.quiet = false → (c.quiet && a.quiet && b.quiet) = false) → ∀ {F1 H1 : Hp}, Mid X.K F H r σ c.quiet r1 F1 H1 → SatT X.K ER (WE W σ) F1 H1 r1 σ y.quiet ou r' Q := fun {y} hy {F1 H1} M1 => by
    cases ou with
    | ok m =>
      obtain ⟨k, e, s⟩ := s
      refine ⟨k, e, fun F' H' V => s F' H' ((M1.trans V).flag fun z => ?_)⟩
      cases hq : c.quiet with
      | false => rfl
      | true => rw [hq] at z hy; exact hy z
    | error x => exact fun cls d F' H' XX => s cls d F' H' ((XX.after M1).flag fun z => by
        cases hq : c.quiet with
        | false => rfl
        | true => rw [hq] at z hy; exact hy z)
  split at h
  · cases h
  · rename_i hk
    refine hc S X W ec G k1 _ _ _ F H σ _ h1 w ⟨true, hk, fun F1 H1 M1 => ?_⟩
    show UT X ea σ H1 Q
    exact ha S X W ea G k2 _ _ _ F1 H1 σ _ h M1.wd (fl (fun z => by rw [z]; simp) M1)
  · rename_i hk
    refine hc S X W ec G k1 _ _ _ F H σ _ h1 w ⟨false, hk, fun F1 H1 M1 => ?_⟩
    show UT X eb σ H1 Q
    exact hb S X W eb G k3 _ _ _ F1 H1 σ _ h M1.wd (fl (fun z => by rw [z]; simp) M1)
def BE (T : Tab) (call : Call) (glob : Nat → Option D) (ER : EK) (c : CE) : Prop := ClE T call glob ER c ∧ ClT T call glob ER c
theorem both {c : CE} (h : ClE T call glob ER c) (hp : ∀ S e, okE T S c e = true → plainT e = true) : BE T call glob ER c := ⟨h, ct_plain h hp⟩
mutual
theorem allE : ∀ c : CE, BE T call glob ER c
  | .var i => both (cl_var i) (fun S e h => by cases e <;> first | rfl | (simp only [okE, Bool.false_eq_true] at h; done))
  | .take i => both (cl_take i) (fun S e h => by cases e <;> first | rfl | (simp only [okE, Bool.false_eq_true] at h; done))
  | .con d => both (cl_con d) (fun S e h => by cases e <;> first | rfl | (simp only [okE, Bool.false_eq_true] at h; done))
  | .glo g => both (cl_glo g) (fun S e h => by cases e <;> first | rfl | (simp only [okE, Bool.false_eq_true] at h; done))
  | .bin o a b => both (cl_bin o (allE a).1 (allE b).1) (fun S e h => by cases e <;> first | rfl | (simp only [okE, Bool.false_eq_true] at h; done))
  | .una .not a => ⟨cl_una .not (allE a).1, ct_not (allE a).2⟩
  | .una .neg a => both (cl_una .neg (allE a).1) (fun S e h => by
      cases e <;> first | rfl | (simp only [okE, Bool.false_eq_true] at h; done) | skip
      rename_i op x p
      cases op <;> first | rfl | (simp only [okE, Bool.false_eq_true] at h; done))
  | .cmp o a b => ⟨cl_cmp o (allE a).1 (allE b).1, ct_cmp o (allE a).1 (allE b).1⟩
  | .chn o p a b c => ⟨cl_chn o p (allE a).1 (allE b).1 (allE c).1, ct_chn o p (allE a).1 (allE b).1 (allE c).1⟩
  | .and a b => ⟨cl_and (allE a).1 (allE b).1, ct_and (allE a).2 (allE b).2⟩
  | .or a b => ⟨cl_or (allE a).1 (allE b).1, ct_or (allE a).2 (allE b).2⟩
  | .ite c a b => ⟨cl_ite (allE c).2 (allE a).1 (allE b).1, ct_ite (allE c).2 (allE a).2 (allE b).2⟩
  | .tup es => both (cl_tup (allEs es)) (fun S e h => by cases e <;> first | rfl | (simp only [okE, Bool.false_eq_true] at h; done))
  | .lst es => both (cl_lst (allEs es)) (fun S e h => by cases e <;> first | rfl | (simp only [okE, Bool.false_eq_true] at h; done))
  | .dict0 => both cl_dict0 (fun S e h => by cases e <;> first | rfl | (simp only [okE, Bool.false_eq_true] at h; done))
  | .idx a b => both (cl_idx (allE a).1 (allE b).1) (fun S e h => by cases e <;> first | rfl | (simp only [okE, Bool.false_eq_true] at h; done))
  | .sli a lo hi => both (cl_sli (allE a).1 (allO lo) (allO hi)) (fun S e h => by cases e <;> first | rfl | (simp only [okE, Bool.false_eq_true] at h; done))
  | .call f es => both (cl_call f (allAs es).1) (fun S e h => by cases e <;> first | rfl | (simp only [okE, Bool.false_eq_true] at h; done))
  | .callk f perm es => both (cl_callk f perm (allAs es).1) (fun S e h => by cases e <;> first | rfl | (simp only [okE, Bool.false_eq_true] at h; done))
  | .bi b es => both (cl_bi b (allEs es) (fun a e => by subst e; exact (allE a).1)) (fun S e h => by cases b <;> cases e <;> first | rfl | (simp only [okE, Bool.false_eq_true] at h; done))
  | .me m a es => both (cl_me m (allE a).1 (allEs es)) (fun S e h => by cases e <;> first | rfl | (simp only [okE, Bool.false_eq_true] at h; done))
  | .mu m i es => both (cl_mu m i (allEs es)) (fun S e h => by cases e <;> first | rfl | (simp only [okE, Bool.false_eq_true] at h; done))
  | .lc own t it c e => both (cl_lc own (allI it) (allIf c) (allE e).1) (fun S e h => by cases e <;> first | rfl | (simp only [okE, Bool.false_eq_true] at h; done))
theorem allEs : ∀ es : CEs, ClEs T call glob ER es
  | .nil => ces_nil
  | .cons e es => ces_cons (allE e).1 (allEs es)
theorem allAs : ∀ es : CAs, ClAs T call glob ER es ∧ ClK (T := T) (call := call) (glob := glob) (ER := ER) es
  | .nil => ⟨ca_nil, ck_nil⟩
  | .val e es => ⟨ca_val (allE e).1 (allAs es).2 (allAs es).1, ck_val (allE e).1 (allAs es).2⟩
  | .ref i es => ⟨ca_ref i (allAs es).2 (allAs es).1, ck_ref i (allAs es).2⟩
theorem allO : ∀ c : CO, ClO T call glob ER c
  | .no => co_no
  | .so e => co_so (allE e).1
theorem allIf : ∀ c : CO, ClIf T call glob ER c
  | .no => cif_no
  | .so e => cif_so (allE e).2
theorem allI : ∀ c : CI, ClI T call glob ER c
  | .over e => ci_over (allE e).1
  | .rng1 a => ci_rng1 (allE a).1
  | .rng2 a b => ci_rng2 (allE a).1 (allE b).1
  | .enm a => ci_enm (allE a).1
  | .zip a b => ci_zip (allE a).1 (allE b).1
end
end
end M
set_option Elab.async false
set_option linter.all false
set_option maxRecDepth 100000
set_option maxHeartbeats 1000000
set_option autoImplicit false
namespace M
open PySem PySem.Spec PyProof.Rows L2
def lcTo (S : Sc) : Expr → Expr → Bool
  | .Name y py, .ListComp _ _ scope pos => (match S.sc.names.lookup y with
      | some .local => true
      | _ => false) && (py.line == pos.line) && !(scope.names.any fun (n, k) => n == y && (k == .local || k == .cell))
  | _, _ => false
variable (T : Tab) in
mutual
def okS : Sc → CS → Stmt → Bool
  | S, .asg fz t e, .Assign [tg] ex _ => okT T S t tg && okE T S e ex && (if notComp ex then notTuple ex else lcTo S tg ex)
  | S, .seti i k e, .Assign [.Subscript (.Name x _) ek _] ex _ => isN S i x && okE T S k ek && okE T S e ex && notComp ex && notSlice ek
  | S, .aug o i e, .AugAssign (.Name x _) op ex _ => isL S i x && decide (opOf o = op) && okE T S e ex
  | S, .exp e, .Expr ex _ => okE T S e ex && notComp ex
  | S, .ret e, .Return (some ex) _ => okE T S e ex
  | _, .retN, .Return none _ => true
  | S, .ite c a b, .If ec sa sb _ => okE T S c ec && okSs S a sa && okSs S b sb
  | S, .for t it b, .For tg iter sb [] _ => okT T S t tg && okI T S it tg iter && okSs S b sb && notSet iter
  | S, .while c b, .While ec sb [] _ => okE T S c ec && okSs S b sb
  | _, .brk, .Break _ => true
  | _, .cnt, .Continue _ => true
  | _, .pass, .Pass _ => true
  | _, .pass, .Expr (.Constant (.str _) _ _) _ => true
  | _, _, _ => false
def okSs : Sc → List CS → List Stmt → Bool
  | _, [], [] => true
  | S, c :: cs, s :: ss => okS S c s && okSs S cs ss
  | _, _, _ => false
end
structure MidS (K : PySem.W.Frag) (F H : Hp) (r : Env) (σ : L2.St) (is : List Nat) (r' : Env) (σ' : L2.St) (F' H' : Hp) : Prop where
  wd : Wd K F' H' r' σ'
  st : Stp F H (Has r σ) F' H'
  old : ∀ a, Has r' σ' a → Has r σ a ∨ H a = none
  len : σ'.length = σ.length
  out : ∀ j, j ∉ is → σ'[j]? = σ[j]?
section
variable {K : PySem.W.Frag} {F H F1 H1 F2 H2 : Hp} {r r1 r2 : Env} {σ σ1 σ2 : L2.St} {is is1 is2 : List Nat} {q : Bool} {m : MV} {v : V}
theorem MidS.refl (w : Wd K F H r σ) : MidS K F H r σ is r σ F H := ⟨w, Stp.refl, fun _ h => .inl h, rfl, fun _ _ => rfl⟩
theorem Mid.toS (M : Mid K F H r σ q r1 F1 H1) : MidS K F H r σ is r1 σ F1 H1 := ⟨M.wd, M.st.mono fun a h => h.2, M.old, rfl, fun _ _ => rfl⟩
theorem MidS.trans (a : MidS K F H r σ is1 r1 σ1 F1 H1) (b : MidS K F1 H1 r1 σ1 is2 r2 σ2 F2 H2) (h1 : ∀ j ∈ is1, j ∈ is) (h2 : ∀ j ∈ is2, j ∈ is) : MidS K F H r σ is r2 σ2 F2 H2 where
  wd := b.wd
  st := a.st.trans b.st (fun _ h => h) fun x h => a.old x h
  old := fun x h => by
    rcases b.old x h with z | z
    · exact a.old x z
    · exact .inr (a.st.back z)
  len := b.len.trans a.len
  out := fun j hj => (b.out j fun z => hj (h2 j z)).trans (a.out j fun z => hj (h1 j z))
theorem MidS.sub (a : MidS K F H r σ is1 r1 σ1 F1 H1) (h1 : ∀ j ∈ is1, j ∈ is) : MidS K F H r σ is r1 σ1 F1 H1 := ⟨a.wd, a.st, a.old, a.len, fun j hj => a.out j fun z => hj (h1 j z)⟩
theorem MidS.bind (V1 : VP K F H r σ q m r1 v F1 H1) (B : Bnd K F1 H1 r1 σ is m v r2 σ2 F2) : MidS K F H r σ is r2 σ2 F2 H1 where
  wd := B.wd
  st := by
    refine ⟨V1.mid.st.ef.trans B.ef, fun a o n e => V1.mid.st.keep a o (fun z => n z.2) e, V1.mid.st.there, fun a h => ?_⟩
    rcases B.frz a h with z | z
    · exact (V1.mid.st.frz a z).imp id (fun y => y.imp id fun w => w.2)
    · rcases (V1.fr a z).1 with y | y
      · exact .inr (.inr y.2)
      · exact .inr (.inl y)
  old := fun a h => by
    rcases B.has a h with z | z
    · exact V1.mid.old a z
    · exact (V1.fr a z).1.imp (fun y => y.2) id
  len := B.len
  out := fun j hj => (B.out j hj).1
end
def SatS (K : PySem.W.Frag) (ER : EK) (W : WX) (F H : Hp) (r : Env) (σ : L2.St) (is : List Nat) (o : Except Exc Flow) (r' : Env) (D : Ends) : Prop :=
  match o with
  | .ok .nx => ∀ F' H' σ', MidS K F H r σ is r' σ' F' H' → D.nx σ' H'
  | .ok .brk => ∀ F' H' σ', MidS K F H r σ is r' σ' F' H' → D.bk σ' H'
  | .ok .cnt => ∀ F' H' σ', MidS K F H r σ is r' σ' F' H' → D.ct σ' H'
  | .ok (.ret m) => ∀ v F' H' σ', MidS K F H r σ is r' σ' F' H' → Own K F' H' m v → m.temp = false → (∀ a, Foot m v a → (Has r σ a ∨ H a = none) ∧ ¬ Has r' σ' a) → D.rt v H'
  | .error x => ∀ cls d F' H' σ', MidS K F H r σ is r' σ' F' H' → ER x cls d F' H' → W cls d σ' H'
section
variable {K : PySem.W.Frag} {ER : EK} {W : WX} {F H F1 H1 F2 H2 : Hp} {r r1 r2 : Env} {σ σ1 : L2.St} {is is1 is2 : List Nat} {o : Except Exc Flow} {D D' : Ends}
theorem SatS.after (a : MidS K F H r σ is1 r1 σ1 F1 H1) (h : SatS K ER W F H r σ is o r2 D) (h1 : ∀ j ∈ is1, j ∈ is) (h2 : ∀ j ∈ is2, j ∈ is) : SatS K ER W F1 H1 r1 σ1 is2 o r2 D := by
  cases o with
  | error x => exact fun cls d F' H' σ' M e => h cls d F' H' σ' (a.trans M h1 h2) e
  | ok f =>
    cases f with
    | nx => exact fun F' H' σ' M => h F' H' σ' (a.trans M h1 h2)
    | brk => exact fun F' H' σ' M => h F' H' σ' (a.trans M h1 h2)
    | cnt => exact fun F' H' σ' M => h F' H' σ' (a.trans M h1 h2)
    | ret m => exact fun v F' H' σ' M o t f => h v F' H' σ' (a.trans M h1 h2) o t fun x y => ⟨by
        rcases (f x y).1 with z | z
        · exact a.old x z
        · exact .inr (a.st.back z), (f x y).2⟩
theorem SatS.err {x : Exc} (h : SatS K ER W F H r σ is (.error x) r2 D) : SatS K ER W F H r σ is (.error x) r2 D' := h
theorem SatS.sub (h : SatS K ER W F H r σ is o r2 D) (h2 : ∀ j ∈ is2, j ∈ is) : SatS K ER W F H r σ is2 o r2 D := by
  cases o with
  | error x => exact fun cls d F' H' σ' M e => h cls d F' H' σ' (M.sub h2) e
  | ok f =>
    cases f with
    | nx => exact fun F' H' σ' M => h F' H' σ' (M.sub h2)
    | brk => exact fun F' H' σ' M => h F' H' σ' (M.sub h2)
    | cnt => exact fun F' H' σ' M => h F' H' σ' (M.sub h2)
    | ret m => exact fun v F' H' σ' M o t f => h v F' H' σ' (M.sub h2) o t f
end
structure GoodS (T : Tab) (call : Call) (glob : Nat → Option D) (ER : EK) (S : Sc) (X : Cx) (W : WX) : Prop where
  g : Good T call glob ER S X W
  nm : Names S X
  kind : X.env.scope.kind = .function
  own : PassesOwn (model X.prog X.w) X.A X.env X.xe
  fn : ∀ x, L2.Loc X.env.scope x → X.fn x = true ∨ X.env.scope.names.lookup x = some .local
section
variable (T : Tab) (call : Call) (glob : Nat → Option D) (ER : EK) (wf : Nat)
def ClS (c : CS) : Prop := ∀ (S : Sc) (X : Cx) (W : WX) (st : Stmt), GoodS T call glob ER S X W → okS T S c st = true → ∀ r o r' F H σ D, exec call glob wf c r = some (o, r') → Wd X.K F H r σ → SatS X.K ER W F H r σ c.binds o r' D → US X st D σ H
def ClSs (cs : List CS) : Prop := ∀ (S : Sc) (X : Cx) (W : WX) (ss : List Stmt), GoodS T call glob ER S X W → okSs T S cs ss = true → ∀ r o r' F H σ D, execs call glob wf cs r = some (o, r') → Wd X.K F H r σ → SatS X.K ER W F H r σ (bindss cs) o r' D → USs X ss D σ H
variable {T call glob ER wf}
theorem sw_no {X : Cx} {e : Expr} {t : Option Expr} {l : Nat} (h : notComp e = true) : swapsWith e t l X.env = pure false := by
  cases e <;> first | rfl | cases h
theorem cs_asg (fz : Bool) (t : CT) (e : CE) : ClS T call glob ER wf (.asg fz t e) := by
  intro S X W st GS hok r o r' F H σ D h w s
  have G := GS.g
  cases st <;> try (simp only [okS, Bool.false_eq_true] at hok; done)
  rename_i tgs ex p
  match tgs, hok with
  | [tg], hok =>
    simp only [okS, Bool.and_eq_true] at hok
    obtain ⟨⟨k1, k2⟩, k3⟩ := hok
    simp only [exec] at h
    have val : ∀ (UQ : VK → Prop), (∀ o1 r1 Q, evalE call glob e r = some (o1, r1) → Sat X.K ER (WE W σ) F H r σ e.quiet o1 r1 Q → UQ Q) → UQ fun v H1 => UG X tg v σ H1 D.nx := fun UQ hUQ => by
      rcases bind_inv h with ⟨z, h1, rfl⟩ | ⟨m, r1, h1, h⟩
      · exact hUQ _ _ _ h1 fun cls d F' H' XX => s cls d F' H' σ XX.mid.toS XX.exc
      refine hUQ _ _ _ h1 fun v F1 H1 V1 => ?_
      split at h
      case h_2 => cases h
      rename_i r2 ha
      obtain ⟨rfl, hr⟩ := ret_inv h
      subst hr
      have nt : m.temp = false := by
        cases t with
        | nm i => simp only [asg] at ha; split at ha <;> first | rfl | cases ha
        | tp ts => simp only [asg] at ha; split at ha <;> first | rfl | cases ha
      refine tg_ok (T := T) t S X tg G.calm GS.nm k1 (!fz) m r1 r' F1 H1 σ v _ ha V1.mid.wd V1.own nt (fun a f => (V1.fr a f).2) fun F2 σ2 B => ?_
      exact s F2 H1 σ2 (MidS.bind V1 (by unfold CS.binds; exact B))
    by_cases hc : notComp ex = true
    · rw [if_pos hc] at k3
      refine ⟨_, ps_asg pe_U pg_U (sw_no hc) ?_ ?_, ?_⟩
      · cases ex <;> first | (cases k3; done) | skip
        all_goals (cases tg <;> rfl)
      · cases tg <;> first | rfl | (simp only [okT, Bool.false_eq_true] at k1; done)
      · exact val (fun Q => UE X ex σ H Q) fun o1 r1 Q z1 z2 => (allE e).1 S X W ex G k2 _ _ _ F H σ _ z1 w z2
    · rw [if_neg hc] at k3
      unfold lcTo at k3
      split at k3
      case h_2 => cases k3
      rename_i y py elt gens scope pos
      simp only [Bool.and_eq_true, beq_iff_eq, Bool.not_eq_true'] at k3
      obtain ⟨⟨l1, l2⟩, l3⟩ := k3
      have hyl : X.env.scope.names.lookup y = some .local := by
        rw [G.sc]
        split at l1
        · assumption
        · cases l1
      cases t <;> simp only [okT, Bool.false_eq_true] at k1
      rename_i i
      have hy : X.N[i]? = some y := by
        unfold isL at k1
        simp only [Bool.and_eq_true, beq_iff_eq] at k1
        rw [G.N]
        exact k1.1.1
      cases e <;> try (simp only [okE, Bool.false_eq_true] at k2; done)
      rename_i own t it c e
      obtain ⟨elt', tg, iter, ifs, scope', pos', e1, m1, m2, m3, m4, m5, m6, m7⟩ := okE_lc k2
      cases e1
      have ok : BlkOk X.N X.env.scope scope (ownN S own) := by rw [G.N, G.sc]; exact blkOk_by m1
      refine ⟨_, ps_setLc (X := X) (own := ownN S own) G.calm G.nd hy hyl (sw_true GS.kind hyl (by simpa using l2) l3) pi_U ok lcG_ok lcT_ok lcE_ok (noSet_fold m7), ?_⟩
      rw [own_map]
      rcases bind_inv h with ⟨z, h1, rfl⟩ | ⟨m, r1, h1, h⟩
      · exact lc_main (allI it) (allIf c) (allE e).1 G m1 m2 m3 m4 m5 m6 h1 w fun cls d F' H' XX => s cls d F' H' σ XX.mid.toS XX.exc
      refine lc_main (allI it) (allIf c) (allE e).1 G m1 m2 m3 m4 m5 m6 h1 w fun v F1 H1 V1 => ?_
      split at h
      case h_2 => cases h
      rename_i r2 ha
      obtain ⟨rfl, hr⟩ := ret_inv h
      subst hr
      have nt : m.temp = false := by
        simp only [asg] at ha; split at ha <;> first | rfl | cases ha
      exact nm_ok ha V1.mid.wd V1.own nt (fun a f => (V1.fr a f).2) fun F2 σ2 B => s F2 H1 σ2 (MidS.bind V1 (by unfold CS.binds; exact B))
theorem set_dict {X : Cx} (hu : X.A.units + 1 < cLine) : PSet X (fun o i v H Q => ∃ a H', o = .ref a ∧ DPut H a i v H' ∧ Q H') := by
  intro pins s σ H o i v ov iv u Q I ro ri rv h
  obtain ⟨a, H', rfl, g, q⟩ := h
  cases ro
  exact d_setItem hu I g ri rv fun s4 I4 => ⟨H', I4, q⟩
theorem rep_map {K : PySem.W.Frag} {F : Hp} {k : Key} {d : D} {v : V} (rv : Rep K F d v) : ∀ {kvs : List (Key × D)} {ks : List (Key × V)}, RepKV K F kvs ks →
    RepKV K F (kvs.map fun p => if p.1 = k then (p.1, d) else p) (ks.map fun kv => if kv.1 = k then (kv.1, v) else kv)
  | _, _, .nil => .nil
  | _, _, .cons (k := k') h t => by
    rw [List.map_cons, List.map_cons]
    by_cases e : k' = k
    · rw [if_pos e, if_pos e]; exact .cons rv (rep_map rv t)
    · rw [if_neg e, if_neg e]; exact .cons h (rep_map rv t)
theorem rep_app {K : PySem.W.Frag} {F : Hp} {k : Key} {d : D} {v : V} (rv : Rep K F d v) : ∀ {kvs : List (Key × D)} {ks : List (Key × V)}, RepKV K F kvs ks → RepKV K F (kvs ++ [(k, d)]) (ks ++ [(k, v)])
  | _, _, .nil => .cons rv .nil
  | _, _, .cons h t => .cons h (rep_app rv t)
theorem rep_any {K : PySem.W.Frag} {F : Hp} {k : Key} : ∀ {kvs : List (Key × D)} {ks : List (Key × V)}, RepKV K F kvs ks → (kvs.any fun p => decide (p.1 = k)) = ks.any fun kv => decide (kv.1 = k)
  | _, _, .nil => rfl
  | _, _, .cons h t => by rw [List.any_cons, List.any_cons, rep_any t]
theorem rep_put {K : PySem.W.Frag} {F : Hp} {k : Key} {d : D} {v : V} {kvs : List (Key × D)} {ks : List (Key × V)} (rv : Rep K F d v) (h : RepKV K F kvs ks) : RepKV K F (put k d kvs) (putK ks k v) := by
  unfold put putK
  rw [rep_any h]
  split
  · exact rep_map rv h
  · exact rep_app rv h
def USet (X : Cx) : TSet := fun o i v H Q => ∃ t, PSet X t ∧ t o i v H Q
theorem set_U {X : Cx} : PSet X (USet X) := fun pins s σ H o i v ov iv u Q I r1 r2 r3 ⟨t, h, q⟩ => h pins s σ H o i v ov iv u Q I r1 r2 r3 q
theorem set_ok {X : Cx} {F H F1 H1 : Hp} {r r1 : Env} {σ : L2.St} {i : Nat} {j d : D} {m' : MV} {a x v : V} {Q : Hp → Prop} (hu : X.A.units + 1 < cLine) (M1 : Mid X.K F H r σ false r1 F1 H1) (e : σ[i]? = some (some a)) (h : setIx (slot r1 i) j d = some m') (rj : Rep X.K H1 j x) (rd : Rep X.K F1 d v)
    (s : ∀ H', Mid X.K F H r σ false (r1.set i m') F1 H' → Q H') : USet X a x v H1 Q := by
  unfold setIx at h
  split at h
  · rename_i xs hs
    have hn : slot r1 i ≠ .no := fun z => by rw [hs] at z; cases z
    obtain ⟨u, e2, ow⟩ := M1.wd.slotAt hn
    rw [e] at e2
    cases e2
    rw [hs] at ow
    obtain ⟨p, us, rfl, h1, h0, h2, h3⟩ := ow
    split at h
    · rename_i k
      cases hk : L2.ixN xs.length k with
      | none => rw [hk] at h; cases h
      | some n =>
        rw [hk] at h
        cases h
        cases rj.int_inv
        rw [h3.len] at hk
        refine ⟨_, set_list, p, us, k, n, rfl, rfl, h1, hk, s _ (M1.change rfl e (a := p) (by rw [hs]; rfl) (m' := .lst (xs.set n d)) (fun b f => (V.ref.inj f).symm) rfl ⟨p, us.set n v, rfl, upd_same, h0, ?_, h3.set rd n⟩)⟩
        rw [List.length_set]
        exact h2
    · cases h
  · rename_i kvs hs
    have hn : slot r1 i ≠ .no := fun z => by rw [hs] at z; cases z
    obtain ⟨u, e2, ow⟩ := M1.wd.slotAt hn
    rw [e] at e2
    cases e2
    rw [hs] at ow
    obtain ⟨p, ks, rfl, h1, h0, h3⟩ := ow
    cases hk : j.key with
    | none => rw [hk] at h; cases h
    | some k =>
      rw [hk] at h
      simp only [Option.bind_some] at h
      split at h
      · rename_i hl
        cases h
        have ex := key_ok hk rj
        refine ⟨_, set_dict hu, p, _, rfl, .inl ⟨ks, k, h1, ex, ?_, rfl⟩, s _ (M1.change rfl e (a := p) (by rw [hs]; rfl) (m' := .dic (put k d kvs)) (fun b f => (V.ref.inj f).symm) rfl ⟨p, putK ks k v, rfl, upd_same, h0, rep_put rd h3⟩)⟩
        rw [← h3.len, ← line_eq]
        exact hl
      · cases h
  · cases h
theorem data_inv {m : MV} {d : D} (h : m.data = some d) : m.temp = false ∧ m.fz = d := by
  unfold MV.data at h
  split at h <;> first | (cases h; exact ⟨rfl, rfl⟩) | cases h
theorem slot_var {S : Sc} {X : Cx} {W : WX} (G : Good T call glob ER S X W) {i : Nat} {x : Str} {p : Pos} (h : isN S i x = true) : PE X (.Name x p) (tVar i) := by
  obtain ⟨h1, h2, h3, h4⟩ := isN_inv G.N G.sc h
  exact pe_var h1 h2 h3 h4
theorem cs_seti (i : Nat) (k e : CE) : ClS T call glob ER wf (.seti i k e) := by
  intro S X W st GS hok r o r' F H σ D h w s
  have G := GS.g
  cases st <;> try (simp only [okS, Bool.false_eq_true] at hok; done)
  rename_i tgs ex p
  match tgs, hok with
  | [.Subscript (.Name x px) ek pk], hok =>
    simp only [okS, Bool.and_eq_true] at hok
    obtain ⟨⟨⟨⟨k1, k2⟩, k3⟩, k4⟩, k5⟩ := hok
    simp only [exec] at h
    have sw : swapsWithSole [.Subscript (.Name x px) ek pk] ex p.line X.env = pure false := sw_no (X := X) (t := some (.Subscript (.Name x px) ek pk)) (l := p.line) k4
    refine ⟨_, ps_asg pe_U (pg_sub (slot_var G k1) pe_U set_U (by intro v; cases ek <;> first | rfl | cases k5)) sw rfl rfl, ?_⟩
    rcases bind_inv h with ⟨z, h1, rfl⟩ | ⟨m, r1, h1, h⟩
    · exact (allE e).1 S X W ex G k3 _ _ _ F H σ _ h1 w fun cls d F' H' XX => s cls d F' H' σ XX.mid.toS XX.exc
    refine (allE e).1 S X W ex G k3 _ _ _ F H σ _ h1 w fun v F1 H1 V1 => ?_
    split at h
    · cases h
    rename_i hown
    have hsl : slot r1 i ≠ .no := fun z => by rw [z] at hown; exact hown rfl
    obtain ⟨a, ea, _⟩ := V1.mid.wd.slotAt hsl
    show tVar i σ H1 fun o H1 => UE X ek σ H1 fun y H2 => USet X o y v H2 fun H3 => D.nx σ H3
    refine ⟨a, ea, ?_⟩
    rcases bind_inv h with ⟨z, h2, rfl⟩ | ⟨j, r2, h2, h⟩
    · exact (allE k).1 S X W ek G k2 _ _ _ F1 H1 σ _ h2 V1.mid.wd fun cls d F' H' XX => s cls d F' H' σ (V1.mid.trans XX.mid).toS XX.exc
    refine (allE k).1 S X W ek G k2 _ _ _ F1 H1 σ _ h2 V1.mid.wd fun y F2 H2 V2 => ?_
    split at h
    · cases h
    split at h
    case h_2 => cases h
    rename_i d hd
    split at h
    case h_2 => cases h
    rename_i m' hm
    obtain ⟨rfl, hr⟩ := ret_inv h
    subst hr
    obtain ⟨t1, rfl⟩ := data_inv hd
    have M2 := V1.mid.trans V2.mid
    have V1' : VP X.K F H r σ (e.quiet && k.quiet) m r2 v F2 H2 := ⟨M2, V1.thru V2.mid (by rw [t1]; rfl), fun b f => ⟨((V1.apart V2.mid) b f).1.imp (fun z => ⟨by rw [z.1]; rfl, z.2⟩) id, ((V1.apart V2.mid) b f).2⟩⟩
    obtain ⟨F3, e3, M3, rp⟩ := V1'.freeze t1
    exact set_ok (by have := G.units; omega) (M3.flag fun _ => rfl) ea hm (V2.own.rep V2.mid.wd.ex) rp fun H' M => s _ _ σ M.toS
def UIp (X : Cx) (op : Operator) : TIp := fun x y H Q => ∃ t, PIp X op t ∧ t x y H Q
theorem ip_U {X : Cx} {op : Operator} : PIp X op (UIp X op) := fun pins s σ H x y v u Q I r1 r2 ⟨t, h, q⟩ => h pins s σ H x y v u Q I r1 r2 q
theorem names_loc {S : Sc} {X : Cx} {W : WX} (G : GoodS T call glob ER S X W) {i : Nat} {x : Str} (h : isL S i x = true) : X.N[i]? = some x ∧ L2.Loc X.env.scope x := by
  have G := G.g
  unfold isL at h
  simp only [Bool.and_eq_true, beq_iff_eq, Bool.not_eq_true'] at h
  obtain ⟨⟨h1, h2⟩, h3⟩ := h
  refine ⟨by rw [G.N]; exact h1, ?_⟩
  rw [G.sc]
  unfold locB at h2
  unfold L2.Loc
  split at h2 <;> simp_all
theorem cs_aug (o : Bop) (i : Nat) (e : CE) : ClS T call glob ER wf (.aug o i e) := by
  intro S X W st GS hok r ou r' F H σ D h w s
  have G := GS.g
  cases st <;> try (simp only [okS, Bool.false_eq_true] at hok; done)
  rename_i tg op ex p
  cases tg <;> try (simp only [okS, Bool.false_eq_true] at hok; done)
  rename_i x px
  simp only [okS, Bool.and_eq_true, decide_eq_true_eq] at hok
  obtain ⟨⟨k1, rfl⟩, k3⟩ := hok
  obtain ⟨n1, n2⟩ := names_loc GS k1
  simp only [exec] at h
  refine ⟨_, ps_aug G.nd n1 n2 pe_U ip_U (GS.fn _ n2), ?_⟩
  split at h
  · cases h
  rename_i hno
  have hsl : slot r i ≠ .no := fun z => by rw [z] at hno; exact hno rfl
  obtain ⟨a, ea, oa⟩ := w.slotAt hsl
  refine ⟨a, ea, ?_⟩
  rcases bind_inv h with ⟨z, h1, rfl⟩ | ⟨m, r1, h1, h⟩
  · exact (allE e).1 S X W ex G k3 _ _ _ F H σ _ h1 w fun cls d F' H' XX => s cls d F' H' σ XX.mid.toS XX.exc
  refine (allE e).1 S X W ex G k3 _ _ _ F H σ _ h1 w fun v F1 H1 V1 => ?_
  have fin : ∀ (c : Int) , ret Flow.nx (r1.set i (.dat (.int c))) = some (ou, r') → D.nx (σ.set i (some (.int c))) H1 := fun c e9 => by
    obtain ⟨rfl, hr⟩ := ret_inv e9
    subst hr
    have V2 : VP X.K F H r σ e.quiet (.dat (.int c)) r1 (.int c) F1 H1 := V1.mid.dat (.int c)
    refine s F1 H1 _ (MidS.bind (m := .dat (.int c)) (v := .int c) V2 ⟨V1.mid.wd.put (m := .dat (.int c)) (.int c) rfl (fun a f => f.elim), Ex.refl F1, List.length_set, fun j hj => ?_, fun a ha => ha.put, fun a ha => .inl ha⟩)
    have hij : i ≠ j := fun z => hj (by rw [z]; unfold CS.binds; exact List.mem_cons_self)
    exact ⟨List.getElem?_set_ne hij, List.getElem?_set_ne hij⟩
  split at h
  · rename_i da db hs
    rw [hs] at oa
    split at h
    · cases oa.int_inv
      cases Rep.int_inv V1.own
      exact ⟨_, ip_add, _, _, rfl, rfl, fin _ h⟩
    · cases oa.int_inv
      cases Rep.int_inv V1.own
      exact ⟨_, ip_sub, _, _, rfl, rfl, fin _ h⟩
    · cases h
  · cases h
theorem cs_exp (e : CE) : ClS T call glob ER wf (.exp e) := by
  intro S X W st GS hok r ou r' F H σ D h w s
  have G := GS.g
  cases st <;> try (simp only [okS, Bool.false_eq_true] at hok; done)
  rename_i ex p
  simp only [okS, Bool.and_eq_true] at hok
  obtain ⟨k1, k2⟩ := hok
  simp only [exec] at h
  refine ⟨_, ps_expr pe_U (sw_no k2), ?_⟩
  rcases bind_inv h with ⟨z, h1, rfl⟩ | ⟨m, r1, h1, h⟩
  · exact (allE e).1 S X W ex G k1 _ _ _ F H σ _ h1 w fun cls d F' H' XX => s cls d F' H' σ XX.mid.toS XX.exc
  obtain ⟨rfl, hr⟩ := ret_inv h
  subst hr
  exact (allE e).1 S X W ex G k1 _ _ _ F H σ _ h1 w fun v F1 H1 V1 => s F1 H1 σ V1.mid.toS
theorem cs_ret (e : CE) : ClS T call glob ER wf (.ret e) := by
  intro S X W st GS hok r ou r' F H σ D h w s
  have G := GS.g
  cases st <;> try (simp only [okS, Bool.false_eq_true] at hok; done)
  rename_i ex p
  cases ex <;> simp only [okS, Bool.false_eq_true] at hok
  rename_i ex
  simp only [exec] at h
  refine ⟨_, ps_ret pe_U, ?_⟩
  rcases bind_inv h with ⟨z, h1, rfl⟩ | ⟨m, r1, h1, h⟩
  · exact (allE e).1 S X W ex G hok _ _ _ F H σ _ h1 w fun cls d F' H' XX => s cls d F' H' σ XX.mid.toS XX.exc
  split at h
  · cases h
  rename_i ht
  obtain ⟨rfl, hr⟩ := ret_inv h
  subst hr
  exact (allE e).1 S X W ex G hok _ _ _ F H σ _ h1 w fun v F1 H1 V1 => s v F1 H1 σ V1.mid.toS V1.own (Bool.eq_false_iff.mpr ht) fun a f => ⟨(V1.fr a f).1.imp (fun z => z.2) id, (V1.fr a f).2⟩
theorem cs_retN : ClS T call glob ER wf .retN := by
  intro S X W st GS hok r ou r' F H σ D h w s
  cases st <;> try (simp only [okS, Bool.false_eq_true] at hok; done)
  rename_i ex p
  cases ex <;> simp only [okS, Bool.false_eq_true] at hok
  simp only [exec] at h
  obtain ⟨rfl, hr⟩ := ret_inv h
  subst hr
  exact ⟨_, ps_retN, s .non F H σ (MidS.refl w) .non rfl fun a f => f.elim⟩
theorem cs_ite (c : CE) {a b : List CS} (ha : ClSs T call glob ER wf a) (hb : ClSs T call glob ER wf b) : ClS T call glob ER wf (.ite c a b) := by
  intro S X W st GS hok r ou r' F H σ D h w s
  have G := GS.g
  cases st <;> try (simp only [okS, Bool.false_eq_true] at hok; done)
  rename_i ec sa sb p
  simp only [okS, Bool.and_eq_true] at hok
  obtain ⟨⟨k1, k2⟩, k3⟩ := hok
  simp only [exec] at h
  refine ⟨_, ps_if pt_U pss_U pss_U, ?_⟩
  rcases bind_inv h with ⟨z, h1, rfl⟩ | ⟨m, r1, h1, h⟩
  · exact (allE c).2 S X W ec G k1 _ _ _ F H σ _ h1 w fun cls d F' H' XX => s cls d F' H' σ XX.mid.toS XX.exc
  have ia : ∀ j ∈ bindss a, j ∈ (CS.ite c a b).binds := fun j hj => by unfold CS.binds; exact List.mem_append_left _ hj
  have ib : ∀ j ∈ bindss b, j ∈ (CS.ite c a b).binds := fun j hj => by unfold CS.binds; exact List.mem_append_right _ hj
  split at h
  · cases h
  · rename_i hk
    refine (allE c).2 S X W ec G k1 _ _ _ F H σ _ h1 w ⟨true, hk, fun F1 H1 M1 => ?_⟩
    show USs X sa D σ H1
    exact ha S X W sa GS k2 _ _ _ F1 H1 σ D h M1.wd (SatS.after (is1 := []) M1.toS s (fun j hj => by cases hj) ia)
  · rename_i hk
    refine (allE c).2 S X W ec G k1 _ _ _ F H σ _ h1 w ⟨false, hk, fun F1 H1 M1 => ?_⟩
    show USs X sb D σ H1
    exact hb S X W sb GS k3 _ _ _ F1 H1 σ D h M1.wd (SatS.after (is1 := []) M1.toS s (fun j hj => by cases hj) ib)
theorem cs_brk : ClS T call glob ER wf .brk := by
  intro S X W st GS hok r ou r' F H σ D h w s
  cases st <;> try (simp only [okS, Bool.false_eq_true] at hok; done)
  simp only [exec] at h
  obtain ⟨rfl, hr⟩ := ret_inv h
  subst hr
  exact ⟨_, ps_break, s F H σ (MidS.refl w)⟩
theorem cs_cnt : ClS T call glob ER wf .cnt := by
  intro S X W st GS hok r ou r' F H σ D h w s
  cases st <;> try (simp only [okS, Bool.false_eq_true] at hok; done)
  simp only [exec] at h
  obtain ⟨rfl, hr⟩ := ret_inv h
  subst hr
  exact ⟨_, ps_continue, s F H σ (MidS.refl w)⟩
theorem cs_pass : ClS T call glob ER wf .pass := by
  intro S X W st GS hok r ou r' F H σ D h w s
  simp only [exec] at h
  obtain ⟨rfl, hr⟩ := ret_inv h
  subst hr
  cases st <;> try (simp only [okS, Bool.false_eq_true] at hok; done)
  · rename_i e p
    cases e <;> try (simp only [okS, Bool.false_eq_true] at hok; done)
    rename_i c j q
    cases c <;> simp only [okS, Bool.false_eq_true] at hok
    exact ⟨_, ps_doc, s F H σ (MidS.refl w)⟩
  · exact ⟨_, ps_pass, s F H σ (MidS.refl w)⟩
theorem css_nil : ClSs T call glob ER wf [] := by
  intro S X W ss GS hok r ou r' F H σ D h w s
  cases ss <;> simp only [okSs, Bool.false_eq_true] at hok
  simp only [execs] at h
  obtain ⟨rfl, hr⟩ := ret_inv h
  subst hr
  exact ⟨_, pss_nil, s F H σ (MidS.refl w)⟩
theorem css_cons {c : CS} {cs : List CS} (hc : ClS T call glob ER wf c) (hcs : ClSs T call glob ER wf cs) : ClSs T call glob ER wf (c :: cs) := by
  intro S X W ss GS hok r ou r' F H σ D h w s
  cases ss with
  | nil => simp only [okSs, Bool.false_eq_true] at hok
  | cons st ss =>
    simp only [okSs, Bool.and_eq_true] at hok
    obtain ⟨k1, k2⟩ := hok
    have ia : ∀ j ∈ c.binds, j ∈ bindss (c :: cs) := fun j hj => by unfold bindss; exact List.mem_append_left _ hj
    have ib : ∀ j ∈ bindss cs, j ∈ bindss (c :: cs) := fun j hj => by unfold bindss; exact List.mem_append_right _ hj
    simp only [execs] at h
    refine ⟨_, pss_cons ps_U pss_U, ?_⟩
    show US X st { D with nx := USs X ss D } σ H
    rcases bind_inv h with ⟨z, h1, rfl⟩ | ⟨f, r1, h1, h⟩
    · exact hc S X W st GS k1 _ _ _ F H σ _ h1 w (SatS.sub (D := D) s ia)
    cases f with
    | nx => exact hc S X W st GS k1 _ _ _ F H σ _ h1 w fun F1 H1 σ1 M1 => hcs S X W ss GS k2 _ _ _ F1 H1 σ1 D h M1.wd (s.after M1 ia ib)
    | brk =>
      obtain ⟨rfl, hr⟩ := ret_inv h
      subst hr
      exact hc S X W st GS k1 _ _ _ F H σ _ h1 w fun F1 H1 σ1 M1 => s F1 H1 σ1 (M1.sub ia)
    | cnt =>
      obtain ⟨rfl, hr⟩ := ret_inv h
      subst hr
      exact hc S X W st GS k1 _ _ _ F H σ _ h1 w fun F1 H1 σ1 M1 => s F1 H1 σ1 (M1.sub ia)
    | ret m =>
      obtain ⟨rfl, hr⟩ := ret_inv h
      subst hr
      exact hc S X W st GS k1 _ _ _ F H σ _ h1 w fun v F1 H1 σ1 M1 => s v F1 H1 σ1 (M1.sub ia)
theorem MidS.grow {K : PySem.W.Frag} {F H F1 H1 F2 H2 : Hp} {r r1 : Env} {σ σ1 : L2.St} {is : List Nat} (M : MidS K F H r σ is r1 σ1 F1 H1) (s : Stp F1 H1 (fun _ => False) F2 H2) (e : Ex F2 H2) : MidS K F H r σ is r1 σ1 F2 H2 :=
  ⟨M.wd.grow s e, M.st.trans s (fun _ h => h) fun _ h => h.elim, M.old, M.len, M.out⟩
theorem cs_for (t : CT) (it : CI) {b : List CS} (hb : ClSs T call glob ER wf b) : ClS T call glob ER wf (.for t it b) := by
  intro S X W st GS hok r ou r' F H σ D h w s
  have G := GS.g
  cases st <;> try (simp only [okS, Bool.false_eq_true] at hok; done)
  rename_i tg iter sb els p
  cases els <;> simp only [okS, Bool.false_eq_true, Bool.and_eq_true] at hok
  obtain ⟨⟨⟨k1, k2⟩, k3⟩, k4⟩ := hok
  simp only [exec] at h
  refine ⟨_, ps_for GS.own G.calm pi_U pg_U pss_U (noSet_fold k4), ?_⟩
  show UI X tg iter σ H fun J H1 => ∃ W : Nat → Nat → L2.St → Hp → Prop, (∃ m, W 0 m σ H1) ∧ ∀ i m σ H, W i m σ H →
    (J.stop i H ∧ D.nx σ H) ∨ (J.go i H ∧ ∃ N : L2.St → Hp → Prop, (∀ σ' H', N σ' H' → ∃ m', m' < m ∧ W (i + 1) m' σ' H') ∧ ∀ x H', J.yld i H x H' → UG X tg x σ H' fun σ2 H2 => USs X sb { D with nx := N, ct := N, bk := D.nx } σ2 H2)
  rcases bind_inv h with ⟨z, h1, rfl⟩ | ⟨ds, r1, h1, h⟩
  · exact allI it S X W tg iter G k2 _ _ _ F H σ _ h1 w fun cls d F' H' XX => s cls d F' H' σ XX.mid.toS XX.exc
  refine allI it S X W tg iter G k2 _ _ _ F H σ _ h1 w fun hlen J F1 H1 M1 itr => ?_
  have it1 : ∀ j ∈ tgts t, j ∈ (CS.for t it b).binds := fun j hj => by unfold CS.binds; exact List.mem_append_left _ hj
  have it2 : ∀ j ∈ bindss b, j ∈ (CS.for t it b).binds := fun j hj => by unfold CS.binds; exact List.mem_append_right _ hj
  generalize (CS.for t it b).binds = bs at s it1 it2
  generalize hbody : (fun (d : M.D) (r : Env) => match asg false t (.dat d) r with
    | none => none
    | some r' => execs call glob wf b r') = body at h
  let P : Nat → L2.St → Hp → Prop := fun i σi Hi => i ≤ ds.length ∧ ∃ Fi ri, MidS X.K F H r σ bs ri σi Fi Hi ∧ Ex F1 Fi ∧ forLoop body (ds.drop i) ri = some (ou, r')
  refine ⟨fun i m σi Hi => m = ds.length - i ∧ P i σi Hi, ⟨_, rfl, Nat.zero_le _, F1, r1, M1.toS, Ex.refl F1, h⟩, fun i m σi Hi ⟨hm, hi, Fi, ri, Mi, eF, hl⟩ => ?_⟩
  by_cases hlt : i < ds.length
  · have hd : ds[i]? = some ds[i] := List.getElem?_eq_getElem hlt
    generalize ds[i] = d at hd
    rw [List.drop_eq_getElem?_toList_append, hd] at hl
    have hl : forLoop body (d :: ds.drop (i + 1)) ri = some (ou, r') := hl
    obtain ⟨go, yl⟩ := (itr i Fi Hi eF Mi.wd.ex).1 d hd
    refine .inr ⟨go, P (i + 1), fun σ' H' p => ⟨_, by omega, rfl, p⟩, fun x H'' y => ?_⟩
    obtain ⟨F'', e1, e2, e3, fz, rx⟩ := yl x H'' y
    have st : Stp Fi Hi (fun _ => False) F'' H'' := ⟨e1, fun a o _ h => e3 a o h, fun a h z => h (e3.back z), fun a h => (fz a h).elim .inl fun z => .inr (.inl z)⟩
    have M2 := Mi.grow st e2
    simp only [forLoop] at hl
    have hasg : ∃ ra, asg false t (.dat d) ri = some ra ∧ body d ri = execs call glob wf b ra := by
      have hb' : body d ri = (match asg false t (.dat d) ri with
        | none => none
        | some r' => execs call glob wf b r') := by rw [← hbody]
      cases ha : asg false t (.dat d) ri with
      | none =>
        rw [ha] at hb'
        rw [hb'] at hl
        cases hl
      | some ra => rw [ha] at hb'; exact ⟨ra, rfl, hb'⟩
    obtain ⟨ra, ha, hbo⟩ := hasg
    rw [hbo] at hl
    refine tg_ok (T := T) t S X tg G.calm GS.nm k1 false (.dat d) ri ra F'' H'' σi x _ ha M2.wd rx rfl (fun a f => f.elim) fun Fb σ2 B => ?_
    have eb := B.same fun a f => f.elim
    subst eb
    have M3 : MidS X.K F H r σ bs ra σ2 Fb H'' := M2.trans (MidS.bind (q := true) (m := .dat d) (v := x) ((Mid.refl M2.wd).dat rx) B) (fun j hj => hj) it1
    have next : ∀ {F3 H3 : Hp} {σ3 : L2.St} {r3 : Env}, MidS X.K Fb H'' ra σ2 (bindss b) r3 σ3 F3 H3 → forLoop body (ds.drop (i + 1)) r3 = some (ou, r') → P (i + 1) σ3 H3 := fun {F3 H3 σ3 r3} M4 hl => ⟨hlt, F3, r3, M3.trans M4 (fun j hj => hj) it2, (eF.trans e1).trans M4.st.ef, hl⟩
    rcases bind_inv hl with ⟨z, h2, rfl⟩ | ⟨f, r3, h2, hl⟩
    · exact hb S X W sb GS k3 _ _ _ Fb H'' σ2 _ h2 B.wd (SatS.after (D := D) M3 s (fun j hj => hj) it2)
    cases f with
    | nx => exact hb S X W sb GS k3 _ _ _ Fb H'' σ2 _ h2 B.wd fun F3 H3 σ3 M4 => next M4 hl
    | cnt => exact hb S X W sb GS k3 _ _ _ Fb H'' σ2 _ h2 B.wd fun F3 H3 σ3 M4 => next M4 hl
    | brk =>
      obtain ⟨rfl, hr⟩ := ret_inv hl
      subst hr
      exact hb S X W sb GS k3 _ _ _ Fb H'' σ2 _ h2 B.wd fun F3 H3 σ3 M4 => s F3 H3 σ3 (M3.trans M4 (fun j hj => hj) it2)
    | ret m =>
      obtain ⟨rfl, hr⟩ := ret_inv hl
      subst hr
      exact hb S X W sb GS k3 _ _ _ Fb H'' σ2 _ h2 B.wd fun v F3 H3 σ3 M4 o nt f => s v F3 H3 σ3 (M3.trans M4 (fun j hj => hj) it2) o nt fun a fa => ⟨by
        rcases (f a fa).1 with q | q
        · exact M3.old a q
        · exact .inr (M3.st.back q), (f a fa).2⟩
  · have hie : i = ds.length := by omega
    subst hie
    rw [List.drop_length] at hl
    simp only [forLoop] at hl
    obtain ⟨rfl, hr⟩ := ret_inv hl
    subst hr
    exact .inl ⟨(itr _ Fi Hi eF Mi.wd.ex).2 rfl, s Fi Hi σi Mi⟩
theorem cs_while (c : CE) {b : List CS} (hb : ClSs T call glob ER wf b) : ClS T call glob ER wf (.while c b) := by
  intro S X W st GS hok r ou r' F H σ D h w s
  have G := GS.g
  cases st <;> try (simp only [okS, Bool.false_eq_true] at hok; done)
  rename_i ec sb els p
  cases els <;> simp only [okS, Bool.false_eq_true, Bool.and_eq_true] at hok
  obtain ⟨k1, k2⟩ := hok
  simp only [exec] at h
  refine ⟨_, ps_while GS.own pt_U pss_U, ?_⟩
  have it2 : ∀ j ∈ bindss b, j ∈ (CS.while c b).binds := fun j hj => by unfold CS.binds; exact hj
  generalize (CS.while c b).binds = bs at s it2
  generalize htest : (fun (r : Env) => R.bind (evalE call glob c r) fun x r1 => lift (truth x.fz) r1) = test at h
  generalize hbody : (fun (r : Env) => execs call glob wf b r) = body at h
  show ∃ W : Nat → L2.St → Hp → Prop, (∃ m, W m σ H) ∧ ∀ m σ H, W m σ H →
    UT X ec σ H fun b H1 => if b = true then ∃ N : L2.St → Hp → Prop, (∀ σ' H', N σ' H' → ∃ m', m' < m ∧ W m' σ' H') ∧ USs X sb { D with nx := N, ct := N, bk := D.nx } σ H1 else D.nx σ H1
  let P : Nat → L2.St → Hp → Prop := fun n σi Hi => ∃ Fi ri, MidS X.K F H r σ bs ri σi Fi Hi ∧ whileLoop test body n ri = some (ou, r')
  refine ⟨P, ⟨wf, F, r, MidS.refl w, h⟩, fun n σi Hi ⟨Fi, ri, Mi, hl⟩ => ?_⟩
  cases n with
  | zero => simp only [whileLoop] at hl; cases hl
  | succ n =>
    simp only [whileLoop] at hl
    rcases bind_inv hl with ⟨z, h1, rfl⟩ | ⟨k, r1, h1, hl⟩
    · rw [← htest] at h1
      rcases bind_inv h1 with ⟨z', h2, e2⟩ | ⟨m, r2, h2, h1⟩
      · cases e2
        exact (allE c).2 S X W ec G k1 _ _ _ Fi Hi σi _ h2 Mi.wd fun cls d F' H' XX => s cls d F' H' σi (Mi.trans (is2 := []) XX.mid.toS (fun j hj => hj) fun j hj => by cases hj) XX.exc
      · obtain ⟨_, _, e3, _⟩ := lift_inv h1
        cases e3
    rw [← htest] at h1
    rcases bind_inv h1 with ⟨z', h2, e2⟩ | ⟨m, r2, h2, h1⟩
    · cases e2
    obtain ⟨k', hk, e3, hr⟩ := lift_inv h1
    cases e3
    subst hr
    refine (allE c).2 S X W ec G k1 _ _ _ Fi Hi σi _ h2 Mi.wd ⟨k, hk, fun F2 H2 M2 => ?_⟩
    have M3 : MidS X.K F H r σ bs r1 σi F2 H2 := Mi.trans (is2 := []) M2.toS (fun j hj => hj) fun j hj => by cases hj
    cases k with
    | false =>
      simp only [Bool.false_eq_true, if_false] at hl ⊢
      obtain ⟨rfl, hr⟩ := ret_inv hl
      subst hr
      exact s F2 H2 σi M3
    | true =>
      simp only [if_true] at hl ⊢
      refine ⟨P n, fun σ' H' p => ⟨n, Nat.lt_succ_self n, p⟩, ?_⟩
      rw [← hbody] at hl
      have next : ∀ {F3 H3 : Hp} {σ3 : L2.St} {r3 : Env}, MidS X.K F2 H2 r1 σi (bindss b) r3 σ3 F3 H3 → whileLoop test body n r3 = some (ou, r') → P n σ3 H3 := fun {F3 H3 σ3 r3} M4 hl => ⟨F3, r3, M3.trans M4 (fun j hj => hj) it2, hl⟩
      rcases bind_inv hl with ⟨z, h4, rfl⟩ | ⟨f, r3, h4, hl⟩
      · exact hb S X W sb GS k2 _ _ _ F2 H2 σi _ h4 M2.wd (SatS.after (D := D) M3 s (fun j hj => hj) it2)
      rw [hbody] at hl
      cases f with
      | nx => exact hb S X W sb GS k2 _ _ _ F2 H2 σi _ h4 M2.wd fun F3 H3 σ3 M4 => next M4 hl
      | cnt => exact hb S X W sb GS k2 _ _ _ F2 H2 σi _ h4 M2.wd fun F3 H3 σ3 M4 => next M4 hl
      | brk =>
        obtain ⟨rfl, hr⟩ := ret_inv hl
        subst hr
        exact hb S X W sb GS k2 _ _ _ F2 H2 σi _ h4 M2.wd fun F3 H3 σ3 M4 => s F3 H3 σ3 (M3.trans M4 (fun j hj => hj) it2)
      | ret m =>
        obtain ⟨rfl, hr⟩ := ret_inv hl
        subst hr
        exact hb S X W sb GS k2 _ _ _ F2 H2 σi _ h4 M2.wd fun v F3 H3 σ3 M4 o nt f => s v F3 H3 σ3 (M3.trans M4 (fun j hj => hj) it2) o nt fun a fa => ⟨by
          rcases (f a fa).1 with q | q
          · exact M3.old a q
          · exact .inr (M3.st.back q), (f a fa).2⟩
mutual
theorem allS : ∀ c : CS, ClS T call glob ER wf c
  | .asg fz t e => cs_asg fz t e
  | .seti i k e => cs_seti i k e
  | .aug o i e => cs_aug o i e
  | .exp e => cs_exp e
  | .ret e => cs_ret e
  | .retN => cs_retN
  | .ite c a b => cs_ite c (allSs a) (allSs b)
  | .for t it b => cs_for t it (allSs b)
  | .while c b => cs_while c (allSs b)
  | .brk => cs_brk
  | .cnt => cs_cnt
  | .pass => cs_pass
theorem allSs : ∀ cs : List CS, ClSs T call glob ER wf cs
  | [] => css_nil
  | c :: cs => css_cons (allS c) (allSs cs)
end
end
end M
set_option Elab.async false
set_option linter.all false
set_option maxRecDepth 100000
set_option maxHeartbeats 1000000
set_option autoImplicit false
namespace M
open PySem PySem.Spec PyProof.Rows L2
section
variable {K : PySem.W.Frag} {F H F1 H1 : Hp} {r args : Env} {σ σ1 : L2.St} {n : Nat}
theorem get_ext {α : Type} {r : List α} {c : α} {n j : Nat} {m : α} (e : (r ++ List.replicate n c)[j]? = some m) : r[j]? = some m ∨ m = c := by
  by_cases h : j < r.length
  · rw [List.getElem?_append_left h] at e; exact .inl e
  · rw [List.getElem?_append_right (Nat.le_of_not_lt h), List.getElem?_replicate] at e
    split at e
    · cases e; exact .inr rfl
    · cases e
theorem get_ext' {α : Type} {r : List α} {c : α} {n j : Nat} {m : α} (e : r[j]? = some m) : (r ++ List.replicate n c)[j]? = some m := by
  rw [List.getElem?_append_left (List.getElem?_eq_some_iff.mp e).1]; exact e
theorem Has.ext {a : Addr} (h : Has (r ++ List.replicate n .no) (σ ++ List.replicate n none) a) : Has r σ a := by
  obtain ⟨i, m, v, e1, e2, f⟩ := h
  rcases get_ext e1 with z | z
  · rcases get_ext e2 with y | y
    · exact ⟨i, m, v, z, y, f⟩
    · cases y
  · subst z; exact f.elim
theorem Wd.ext (w : Wd K F H r σ) : Wd K F H (r ++ List.replicate n .no) (σ ++ List.replicate n none) where
  ex := w.ex
  len := by rw [List.length_append, List.length_append, List.length_replicate, List.length_replicate, w.len]
  nt := fun i m e => by
    rcases get_ext e with z | z
    · exact w.nt i m z
    · subst z; rfl
  at_ := fun i m e nn => by
    rcases get_ext e with z | z
    · obtain ⟨v, h1, h2⟩ := w.at_ i m z nn
      exact ⟨v, get_ext' h1, h2⟩
    · exact absurd z nn
  sep := fun i j m m' v v' a e1 e2 f e3 e4 g => by
    rcases get_ext e1 with z | z
    · rcases get_ext e3 with z' | z'
      · rcases get_ext e2 with y | y
        · rcases get_ext e4 with y' | y'
          · exact w.sep i j m m' v v' a z y f z' y' g
          · cases y'
        · cases y
      · subst z'; exact g.elim
    · subst z; exact f.elim
theorem keepOwn_at : ∀ {args r : List MV} {p : Nat} {m : MV}, args.length ≤ r.length → (keepOwn args r)[p]? = some m → ∃ a, args[p]? = some a ∧ ((a.own = true ∧ r[p]? = some m) ∨ (a.own = false ∧ m = a))
  | [], r, p, m, _, e => by simp [keepOwn] at e
  | a :: args, [], _, _, h, _ => by simp at h
  | a :: args, b :: r, 0, m, _, e => by
    simp only [keepOwn, List.getElem?_cons_zero, Option.some.injEq] at e
    refine ⟨a, rfl, ?_⟩
    cases ha : a.own with
    | true => rw [ha, if_pos rfl] at e; exact .inl ⟨rfl, by rw [← e]; rfl⟩
    | false => rw [ha, if_neg Bool.false_ne_true] at e; exact .inr ⟨rfl, e.symm⟩
  | a :: args, b :: r, p + 1, m, h, e => by
    obtain ⟨a', h1, h2⟩ := keepOwn_at (args := args) (r := r) (p := p) (m := m) (by simpa using h) (by simpa [keepOwn] using e)
    exact ⟨a', by simpa using h1, by simpa using h2⟩
theorem keepOwn_len : ∀ {args r : List MV}, (keepOwn args r).length = args.length
  | [], _ => by simp [keepOwn]
  | _ :: _, [] => by simp [keepOwn]
  | a :: args, b :: r => by simp [keepOwn, keepOwn_len (args := args) (r := r)]
theorem ownKeep_at {b : List CS} : ∀ {ms : List MV} {i p : Nat} {a : MV}, ownKeep b ms i = true → ms[p]? = some a → a.own = true → i + p ∉ bindss b
  | [], _, p, _, _, e, _ => by simp at e
  | m :: ms, i, 0, a, h, e, o => by
    simp only [ownKeep, Bool.and_eq_true] at h
    simp at e
    subst e
    rw [o] at h
    simpa using h.1
  | m :: ms, i, p + 1, a, h, e, o => by
    simp only [ownKeep, Bool.and_eq_true] at h
    have := ownKeep_at (ms := ms) (i := i + 1) (p := p) h.2 (by simpa using e) o
    rwa [show i + 1 + p = i + (p + 1) by omega] at this
theorem MidS.back {vs : List V} {b : List CS} {r' : Env} {σ' : L2.St} (w : Wd K F H args (vs.map some)) (ok : ownKeep b args 0 = true) (M : MidS K F H (args ++ List.replicate n .no) (vs.map some ++ List.replicate n none) (bindss b) r' σ' F1 H1) :
    Mid K F H args (vs.map some) false (keepOwn args r') F1 H1 ∧ ∀ a, Has (keepOwn args r') (vs.map some) a → Has r' σ' a := by
  have hl : args.length ≤ r'.length := by
    rw [M.wd.len, M.len, List.length_append, ← w.len]
    omega
  have own : ∀ {p : Nat} {m a : MV}, args[p]? = some a → a.own = true → r'[p]? = some m → ∃ v, vs[p]? = some v ∧ σ'[p]? = some (some v) := fun {p m a} e1 o e2 => by
    obtain ⟨v, h1, h2⟩ := w.at_ p a e1 (fun z => by rw [z] at o; cases o)
    have hp := ownKeep_at ok e1 o
    rw [Nat.zero_add] at hp
    exact ⟨v, map_some_get.mp h1, by rw [M.out p hp]; exact get_ext' h1⟩
  have has : ∀ a, Has (keepOwn args r') (vs.map some) a → Has r' σ' a := fun a ⟨p, m, v, e1, e2, f⟩ => by
    obtain ⟨c, c1, c2⟩ := keepOwn_at hl e1
    rcases c2 with ⟨o, e3⟩ | ⟨o, rfl⟩
    · obtain ⟨u, h1, h2⟩ := own c1 o e3
      rw [map_some_get.mp e2] at h1
      cases h1
      exact ⟨p, m, v, e3, h2, f⟩
    · rw [foot_own f] at o; cases o
  refine ⟨⟨⟨M.wd.ex, by rw [keepOwn_len]; exact w.len, fun p m e => ?_, fun p m e nn => ?_, fun i j m m' v v' a e1 e2 f e3 e4 g => ?_⟩, M.st.mono fun a h => ⟨rfl, h.ext⟩, fun a h => (M.old a (has a h)).imp Has.ext id⟩, has⟩
  · obtain ⟨c, c1, c2⟩ := keepOwn_at hl e
    rcases c2 with ⟨o, e3⟩ | ⟨o, rfl⟩
    · exact M.wd.nt p m e3
    · exact w.nt p m c1
  · obtain ⟨c, c1, c2⟩ := keepOwn_at hl e
    rcases c2 with ⟨o, e3⟩ | ⟨o, rfl⟩
    · obtain ⟨u, h1, h2⟩ := own c1 o e3
      obtain ⟨u', y1, y2⟩ := M.wd.at_ p m e3 nn
      rw [h2] at y1
      cases y1
      exact ⟨u, map_some_get.mpr h1, y2⟩
    · obtain ⟨u, y1, y2⟩ := w.at_ p m c1 nn
      have nt := w.nt p m c1
      refine ⟨u, y1, ?_⟩
      cases m with
      | no => exact absurd rfl nn
      | dat d => exact Rep.mono M.st.ef y2
      | tmp d => cases nt
      | blst d => cases nt
      | bdic d => cases nt
      | lst d => cases o
      | dic d => cases o
  · obtain ⟨c, c1, c2⟩ := keepOwn_at hl e1
    obtain ⟨c', c1', c2'⟩ := keepOwn_at hl e3
    rcases c2 with ⟨o, y1⟩ | ⟨o, rfl⟩
    · rcases c2' with ⟨o', y2⟩ | ⟨o', rfl⟩
      · obtain ⟨u, h1, h2⟩ := own c1 o y1
        obtain ⟨u', h1', h2'⟩ := own c1' o' y2
        rw [map_some_get.mp e2] at h1
        rw [map_some_get.mp e4] at h1'
        cases h1
        cases h1'
        exact M.wd.sep i j m m' v v' a y1 h2 f y2 h2' g
      · rw [foot_own g] at o'; cases o'
    · rw [foot_own f] at o; cases o
end
structure DefOk (K : PySem.W.Frag) (mg : Str → Option Value) (T : Tab) (fns : Nat → Option Fn) (x : Str) (fid : Nat) (f : Addr) (fd : FuncData) (ps : List Str) : Prop where
  mgx : mg x = some (.ref f)
  ex : ∃ (nm qual : Str) (params : Arguments) (body : List Stmt) (scope : Scope) (dvs : List V) (kws : List (Str × V)) (N : List Str) (d : Fn), FunD K nm qual params body scope dvs kws f fd ∧ FnScope N ps scope ∧ fns fid = some d ∧ d.np = ps.length ∧ d.ns = N.length ∧
    okSs T ⟨N, scope⟩ d.body body = true
  bind : Binds K fd ps []
  kw : ∀ n ks perm, (fid, n, ks, perm) ∈ T.kw → perm.length = ps.length ∧ (∀ i ∈ perm, i < n + ks.length) ∧ KwB K fd ps n ks perm
theorem run_arity {fns : Nat → Option Fn} {glob : Nat → Option D} {wf k f : Nat} {d : Fn} (h : fns f = some d) : ∀ {args : List MV} {z : Except Exc MV × List MV}, run fns glob wf k f args = some z → args.length = d.np := by
  intro args z e
  cases k with
  | zero => simp [run] at e
  | succ k =>
    simp only [run, h] at e
    split at e
    · rename_i hc
      simp only [Bool.and_eq_true, decide_eq_true_eq] at hc
      exact hc.1
    · cases e
section
variable {P : Program} {w : World} {K : PySem.W.Frag} {mg : Str → Option Value} {base : Heap} {T : Tab} {fns : Nat → Option Fn} {glob : Nat → Option D} {ER : EK} {wf : Nat}
theorem fn_G (hall : ∀ x fid, T.fn.lookup x = some fid → ∃ f fd ps, DefOk K mg T fns x fid f fd ps) (hfree : ∀ x ∈ bltNames, mg x = none) (hglb : ∀ x g d, T.gl.lookup x = some g → glob g = some d → ∃ u v, mg x = some u ∧ RelV v u ∧ ∀ F, Rep K F d v)
    (hers : ∀ x cls d F H F', ER x cls d F H → x.fs.all D.scal = true → ER x cls d F' H) : ∀ (k : Nat) (x : Str) (fid : Nat), T.fn.lookup x = some fid → ∀ (f : Addr) (fd : FuncData) (ps : List Str), DefOk K mg T fns x fid f fd ps → FnG P w K mg base k f fd ps (SpF K ER ps.length (run fns glob wf k fid))
  | 0, x, fid, hx, f, fd, ps, D0 => ⟨fun vs H Q E h => h.1, fun A outer s H args us vs Q E hr hg e0 hb r hsp => by
    obtain ⟨hl, F, margs, o, margs', w1, hrun, sat⟩ := hsp
    simp [run] at hrun⟩
  | k + 1, x, fid, hx, f, fd, ps, D0 => by
    refine ⟨fun vs H Q E h => h.1, fun A outer s H args us vs Q E hr hg e0 hb r hsp => ?_⟩
    obtain ⟨hl, F, margs, o, margs', w1, hrun, sat⟩ := hsp
    obtain ⟨nm, qual, params, body, scope, dvs, kws, N, d, FD, S, hd1, hd2, hd3, hok⟩ := D0.ex
    obtain ⟨oc, od, dV, kV, doc, pm, an, cdv, ct, osl, rfl, lk, hcd, _, _⟩ := FD.ex
    have KX : K.In s.heap := e0.mod.kin.keeps fun b o e => (e0.bs b o e).1
    have lim : s.heap.NoLimit := e0.mod.nolimit.keeps fun b o e => (e0.bs b o e).1
    have hkind : ∀ y ∈ ps.zip us, scope.names.lookup y.1 = some .local ∨ (scope.names.lookup y.1 = some .cell ∧ ((cellsFrom (s.heap.objs.size + 1) scope.names []).lookup y.1).isSome = true) := fun ⟨n, v⟩ hy => by
      rcases S.par n (List.of_mem_zip hy).1 with q | q
      · exact .inl q
      · exact .inr ⟨q, PySem.W.cellsFrom_some _ _ _ (.inl q)⟩
    refine codeAny_call_function hr.depth (KX _ _ lk) rfl S.co S.gen rfl (PySem.W.codeRec_of KX hcd) (hb _ _ _ _ ?_)
    refine wpAny_newFunctionEnv_cells S.kind hkind fun env he s1 xx => ?_
    subst he
    refine ⟨lim.keeps xx.toInCall.keep, codeAny_func ?_⟩
    have I : L2.Inv (cxOf (L2.CX P w) P w K mg base N qual scope f cdv A outer s H E) [] (start N vs) H s1 := inv_start S hr.hd e0 hl r xx
    simp only [run, hd1] at hrun
    split at hrun
    case isFalse => cases hrun
    rename_i hc
    simp only [Bool.and_eq_true, decide_eq_true_eq] at hc
    obtain ⟨hc1, hc2⟩ := hc
    have hst : start N vs = vs.map some ++ List.replicate (d.ns - d.np) none := by
      unfold L2.start
      rw [hd3, hd2, ← hl]
    have G : Good T (run fns glob wf k) glob ER ⟨N, scope⟩ (cxOf (L2.CX P w) P w K mg base N qual scope f cdv A outer s H E) (fun cls d _ H => E cls d H) := {
      N := rfl
      nd := S.nd
      sc := rfl
      calm := rfl
      guards := hg
      units := by
        have := (hr.deeper (envOfC qual scope s.heap.objs.size f cdv)).un
        show (A.deeper (envOfC qual scope s.heap.objs.size f cdv)).units + 68 < cLine
        omega
      free := hfree
      glb := hglb
      fns := ⟨k, hr.deeper _, fun y g hy => by
        obtain ⟨f', fd', ps', D1⟩ := hall y g hy
        obtain ⟨nm', qual', params', body', scope', dvs', kws', N', d', FD', S', hd1', hd2', hd3', hok'⟩ := D1.ex
        exact ⟨f', fd', ps', D1.mgx, FD'.kp, fn_G hall hfree hglb hers k y g hy f' fd' ps' D1, D1.bind, fun args z e => (run_arity hd1' e).trans hd2', D1.kw⟩⟩
      pas := fun σ => passAt (takes_of rfl rfl rfl rfl) σ
      ers := hers }
    have GS : GoodS T (run fns glob wf k) glob ER ⟨N, scope⟩ (cxOf (L2.CX P w) P w K mg base N qual scope f cdv A outer s H E) (fun cls d _ H => E cls d H) := {
      g := G
      nm := fun i y p hy => by
        unfold isL at hy
        simp only [Bool.and_eq_true, beq_iff_eq, Bool.not_eq_true'] at hy
        obtain ⟨⟨h1, h2⟩, h3⟩ := hy
        refine pg_name S.nd h1 ?_ (.inl rfl)
        show L2.Loc scope y
        unfold locB at h2
        unfold L2.Loc
        dsimp only at h2
        split at h2 <;> simp_all
      kind := S.kind
      own := passes_of rfl
      fn := fun _ _ => .inl rfl }
    have main : USs (cxOf (L2.CX P w) P w K mg base N qual scope f cdv A outer s H E) body { nx := fun _ H' => Q .non H', rt := Q } (start N vs) H := by
      cases he : execs (run fns glob wf k) glob wf d.body (margs ++ List.replicate (d.ns - d.np) .no) with
      | none => rw [he] at hrun; cases hrun
      | some z =>
        obtain ⟨o1, r1⟩ := z
        rw [he] at hrun
        rw [hst]
        refine allSs d.body ⟨N, scope⟩ (cxOf (L2.CX P w) P w K mg base N qual scope f cdv A outer s H E) (fun cls d _ H => E cls d H) body GS hok _ o1 r1 F H _ _ he w1.ext ?_
        cases o1 with
        | error x =>
          cases hrun
          exact fun cls d F' H' σ' M ex => sat cls d F' H' ⟨(M.back w1 hc2).1, ex⟩
        | ok fl =>
          cases fl with
          | nx =>
            cases hrun
            exact fun F' H' σ' M => sat .non F' H' ((M.back w1 hc2).1.dat .non)
          | ret m =>
            cases hrun
            exact fun v F' H' σ' M ow nt fr => sat v F' H' ⟨(M.back w1 hc2).1, ow, fun a fa => ⟨(fr a fa).1.imp (fun z => ⟨rfl, z.ext⟩) id, fun z => (fr a fa).2 ((M.back w1 hc2).2 a z)⟩⟩
          | brk => cases hrun
          | cnt => cases hrun
    obtain ⟨t, ht, hq⟩ := main
    refine wpAny_mono (ht.run [] s1 (start N vs) H _ I hq) (fun fl s' hs => ?_) fun e s' hs => hs
    have fin : ∀ {σ' : L2.St} {H' : Hp} {v : V} {u : Value}, L2.Inv (cxOf (L2.CX P w) P w K mg base N qual scope f cdv A outer s H E) [] σ' H' s' → RelV v u → Q v H' → L2.CE outer P w H s Q u s' :=
      fun {σ' H' v u} J rv q => ⟨v, H', J.os, J.bare, J.base, J.hok, rv, q⟩
    cases fl with
    | ret u =>
      obtain ⟨v, σ', H', J, rv, q⟩ := hs
      exact fin J rv q
    | next =>
      obtain ⟨σ', H', J, q⟩ := hs
      exact fin (v := V.non) (u := Value.none) J rfl q
    | brk =>
      obtain ⟨_, _, _, q⟩ := hs
      exact False.elim q
    | cont =>
      obtain ⟨_, _, _, q⟩ := hs
      exact False.elim q
end
end M
set_option Elab.async false
set_option linter.all false
set_option maxRecDepth 100000
set_option maxHeartbeats 1000000
set_option autoImplicit false
namespace M
open PySem PySem.Spec PyProof.Rows L2
theorem rep_ints {K : PySem.W.Frag} {H : Hp} : ∀ (ns : List Int), RepAll K H (ns.map .int) (ns.map V.int)
  | [] => .nil
  | n :: ns => .cons (.int n) (rep_ints ns)
theorem law_M {P : Program} {w : World} {K : PySem.W.Frag} {mg mb : Str → Option Value} {k fid : Nat} {fa a : Addr} {fd : FuncData} {x : Str} {s₁ : Shared} {vs : List Value} {ns : List Int} {fns : Nat → Option Fn} {glob : Nat → Option D} {ER : EK} {wf : Nat} {args' : List MV}
    (KX : K.In s₁.heap) (hns : s₁.heap.Ns mainGlobals mg) (hb : s₁.heap.Ns builtinsNs mb) (hbb : ∀ x : Str, x ≠ "__name__" → mb x = bootBuiltins x) (hlim : s₁.heap.NoLimit) (hg : s₁.gens = #[])
    (ha : s₁.heap.get? a = some { cls := .type "list", data := .seq vs.toArray }) (hi : IntsAre vs ns) (hl : ns.length ≤ sizeLine) (hr : Room k callerA)
    (F : ∀ base : Heap, K.In base → base.Ns mainGlobals mg → FnG P w K mg base k fa fd [x] (SpF K ER 1 (run fns glob wf k fid))) (hbind : ∀ (s : Shared) (u : Value), BindsTo s fd ⟨[u], []⟩ [(x, u)])
    (hlaw : run fns glob wf k fid [.dat (.lst (ns.map .int))] = some (.ok (.dat (.bl true)), args')) :
    codeAny (model P w) callerA (.call (.ref fa) ⟨[.ref a], []⟩) (fun r s' => r = .ok (.ret (.bool true)) ∧ PySem.OldK s₁.heap s'.heap ∧ s'.os = s₁.os ∧ AllBare s'.gens) s₁ := by
  have rv := vals_ints hi
  have lenV := hi.length
  have core : ∀ H : Hp, Only H → LsL K H a (ns.map V.int) → HOk P w H s₁.heap → (∀ b, H b ≠ none → b = a) → (H a ≠ none → K.lookup a = none) →
      codeAny (model P w) callerA (.call (.ref fa) ⟨[.ref a], []⟩) (fun r s' => r = .ok (.ret (.bool true)) ∧ PySem.OldK s₁.heap s'.heap ∧ s'.os = s₁.os ∧ AllBare s'.gens) s₁ := by
    intro H hO hS hok hA hK
    have base_of : ∀ {b : Addr} {o : Obj}, s₁.heap.get? b = some o → H b = none → (hidT s₁.heap H).get? b = some o := fun e n => hidT_get e n
    have noA : ∀ {b : Addr} {o : Obj} {es : Array DictEntry} {ep : Nat}, s₁.heap.get? b = some o → o.data = .dict es ep → H b = none := fun {b o es ep} e d => by
      cases q : H b with
      | none => rfl
      | some u =>
        have e' : b = a := hA b (by rw [q]; simp)
        subst e'
        rw [ha] at e; cases e
        have d' : Data.seq vs.toArray _ = Data.dict es ep := d
        cases d'
    have nsK : ∀ {b : Addr} {m : Str → Option Value}, s₁.heap.Ns b m → (hidT s₁.heap H).Ns b m := fun {b m} ⟨o, es, ep, e, d, r⟩ => ⟨o, es, ep, base_of e (noA e d), d, r⟩
    have hKb : K.In (hidT s₁.heap H) := fun b o e => base_of (KX b o e) (by
      cases q : H b with
      | none => rfl
      | some u =>
        have e' : b = a := hA b (by rw [q]; simp)
        subst e'
        rw [hK (by rw [q]; simp)] at e; cases e)
    have hM : Mod K mg (hidT s₁.heap H) := ⟨hKb, nsK hns, ⟨mb, nsK hb, hbb⟩, let ⟨mc, h1, h2⟩ := hlim; ⟨mc, nsK h1, h2⟩⟩
    have e0 : Env0 P w K mg (hidT s₁.heap H) callerA [] s₁ H := ⟨rfl, hM, fun b o e => of_hidT e, Nat.le_of_eq (hidT_size _ _), trivial, fun b hb => absurd (show b ∈ ([] : List Addr) from hb) (by simp), hok, .of_eq hg⟩
    have w0 : Wd K H H [.dat (.lst (ns.map .int))] ([V.ref a].map some) := wd_dat (ds := [.lst (ns.map .int)]) (Ex.refl H) (.cons (.lst hS (by rw [List.length_map]; exact hl) (rep_ints ns)) .nil)
    have hsp : SpF K ER 1 (run fns glob wf k fid) [.ref a] H (fun v _ => v = .bl true) (fun _ _ _ => False) := ⟨rfl, H, _, _, args', w0, hlaw, fun v F' H' V => Rep.bl_inv V.own⟩
    refine codeAny_mono ((F _ hKb (nsK hns)).run callerA [] s₁ H ⟨[.ref a], []⟩ [.ref a] [.ref a] _ _ hr rfl e0 (hbind s₁ (.ref a)) (.cons rfl .nil) hsp) fun r s' h => ?_
    cases r with
    | error e =>
      obtain ⟨_, _, _, _, _, _, _, _, _, _, _, _, z⟩ := h
      exact z.elim
    | ok fl =>
      cases fl with
      | next => exact False.elim h
      | brk => exact False.elim h
      | cont => exact False.elim h
      | ret u =>
        obtain ⟨v, H', os, bare, un, hok', r', q⟩ := h
        have q' : v = .bl true := q
        subst q'
        obtain rfl : u = Value.bool true := r'
        refine ⟨rfl, PySem.OldK.of_keep fun b o e => ?_, os, bare⟩
        cases q : H b with
        | none => exact un.keep b o e q (by intro z; exact absurd (show b ∈ ([] : List Addr) from z) (by simp)) (by simp)
        | some u =>
          rcases hO b with z | ⟨ob, xs, z⟩
          · rw [q] at z; cases z
          · have z2 := un.frzs b ob _ z
            obtain ⟨e1, _⟩ := hok b _ z
            obtain ⟨e2, _⟩ := hok' b _ z2
            rw [e] at e1; cases e1
            exact e2
  cases hk : K.lookup a with
  | some o =>
    have e := KX a o hk
    rw [ha] at e
    cases e
    refine core (fun _ => none) (fun _ => .inl rfl) (.inr ⟨vs.toArray, _, hk, by rw [List.size_toArray, lenV]; exact hl, by simpa using rv⟩) (fun b u z => by have z' : (none : Option HO) = some u := z; cases z') (fun b z => absurd rfl z) fun z => absurd rfl z
  | none =>
    refine core (fun b => if b = a then some (.frz { cls := .type "list", data := .seq vs.toArray } (.lst (ns.map V.int))) else none) (fun b => ?_) (.inl (.inr ⟨{ cls := .type "list", data := .seq vs.toArray }, if_pos rfl⟩)) (fun b u z => ?_) (fun b z => ?_) fun _ => hk
    · by_cases hb : b = a
      · exact .inr ⟨_, _, if_pos hb⟩
      · exact .inl (if_neg hb)
    · by_cases hb : b = a
      · have z' := (if_pos hb).symm.trans z
        cases z'
        subst hb
        exact ⟨ha, by rw [List.length_map]; exact hl, vs, _, rv, ha⟩
      · have z' := (if_neg hb).symm.trans z
        cases z'
    · by_cases hb : b = a
      · exact hb
      · exact absurd (if_neg hb) z
theorem walk_M {l : PySem.W.OpenLaw} {n k fid : Nat} {q : Program} {loose : List Str} {XP : (Str → Option Value) → Heap → Prop} {YP : World → Heap → Prop} {d : DefRec} {x : Str} {T : Tab} {fns : Nat → Option Fn} {glob : Nat → Option D} {ER : EK} {wf : Nat}
    (hn : l.most = some n) (hn2 : n ≤ sizeLine) (hdf : d.params.defaults = []) (hr : Room k callerA)
    (hers : ∀ x cls d F H F', ER x cls d F H → x.fs.all D.scal = true → ER x cls d F' H)
    (F : ∀ (w : World) (mg : Str → Option Value) (fa : Addr) (h : Heap), YP w h → h.Ns mainGlobals mg → mg d.name = some (.ref fa) →
      ∃ (K : PySem.W.Frag) (fd : FuncData), K.In h ∧ (∀ (s : Shared) (u : Value), BindsTo s fd ⟨[u], []⟩ [(x, u)]) ∧ (∀ x fid, T.fn.lookup x = some fid → ∃ f fd ps, DefOk K mg T fns x fid f fd ps) ∧ (∀ x ∈ bltNames, mg x = none) ∧
        (∀ x g d, T.gl.lookup x = some g → glob g = some d → ∃ u v, mg x = some u ∧ RelV v u ∧ ∀ F, Rep K F d v) ∧ T.fn.lookup d.name = some fid ∧ DefOk K mg T fns d.name fid fa fd [x])
    (law : ∀ ns : List Int, ns.length ≤ n → ∃ z, run fns glob wf k fid [.dat (.lst (ns.map .int))] = some (.ok (.dat (.bl true)), z)) :
    PySem.W.WalkO q loose XP YP l.row.toRowW d [] (fun f vs => PySem.call f vs) := by
  refine Att.attach_call hn hdf fun w s₀ s₁ mg mb fa o pm cd doc a vs ns G Y ho hd hcd hmg hobj hints hlen hg => ?_
  obtain ⟨K, fd, KX, hb, h1, h2, h3, h4, h5⟩ := F w mg fa _ Y G.T.g hmg
  obtain ⟨z, hz⟩ := law ns hlen
  exact law_M (ER := ER) KX G.T.g G.T.b G.T.builtins G.T.nolimit hg hobj hints (Nat.le_trans hlen hn2) hr (fun base _ _ => fn_G h1 h2 h3 hers k d.name fid h4 fa fd [x] h5) hb hz
end M
set_option Elab.async false
set_option linter.all false
set_option maxRecDepth 100000
set_option maxHeartbeats 1000000
set_option autoImplicit false
namespace M
open PySem PySem.Spec PyProof.Rows L2
mutual
def repB (K : PySem.W.Frag) : D → Value → Bool
  | .non, .none => true
  | .bl a, .bool b => a == b
  | .int i, .int j _ => decide (i = j)
  | .str x, .str y _ => decide (x = y)
  | .tup ds, .ref a => match K.lookup a with
    | some ⟨.type c, _, .seq its _, _⟩ => decide (c = "tuple") && decide (its.size ≤ sizeLine) && repBs K ds its.toList
    | _ => false
  | .lst ds, .ref a => match K.lookup a with
    | some ⟨.type c, none, .seq its _, sl⟩ => decide (c = "list") && sl.isEmpty && decide (its.size ≤ sizeLine) && repBs K ds its.toList
    | _ => false
  | _, _ => false
def repBs (K : PySem.W.Frag) : List D → List Value → Bool
  | [], [] => true
  | d :: ds, u :: us => repB K d u && repBs K ds us
  | _, _ => false
end
mutual
theorem repB_ok {K : PySem.W.Frag} : ∀ {d : D} {u : Value}, repB K d u = true → ∃ v, RelV v u ∧ ∀ H, Rep K H d v
  | .non, u, h => by
    cases u <;> simp only [repB, Bool.false_eq_true] at h
    exact ⟨.non, rfl, fun H => .non⟩
  | .bl a, u, h => by
    cases u <;> simp only [repB, Bool.false_eq_true, beq_iff_eq] at h
    subst h
    exact ⟨.bl a, rfl, fun H => .bl a⟩
  | .int i, u, h => by
    cases u <;> simp only [repB, Bool.false_eq_true, decide_eq_true_eq] at h
    subst h
    exact ⟨.int i, ⟨_, rfl⟩, fun H => .int i⟩
  | .str i, u, h => by
    cases u <;> simp only [repB, Bool.false_eq_true, decide_eq_true_eq] at h
    subst h
    exact ⟨.str i, ⟨_, rfl⟩, fun H => .str i⟩
  | .tup ds, u, h => by
    cases u <;> simp only [repB, Bool.false_eq_true] at h
    rename_i a
    split at h
    · rename_i c dct its n sl hl
      simp only [Bool.and_eq_true, decide_eq_true_eq] at h
      obtain ⟨⟨h1, h2⟩, h3⟩ := h
      obtain ⟨vs, r1, r2⟩ := repBs_ok h3
      exact ⟨.ref a, rfl, fun H => .tup (.inr ⟨_, its, n, hl, congrArg Value.type h1, rfl, h2, r1⟩) (by rw [r1.length, Array.length_toList]; exact h2) (r2 H)⟩
    · cases h
  | .lst ds, u, h => by
    cases u <;> simp only [repB, Bool.false_eq_true] at h
    rename_i a
    split at h
    · rename_i c its n sl hl
      simp only [Bool.and_eq_true, decide_eq_true_eq, Array.isEmpty_iff] at h
      obtain ⟨⟨⟨h1, h0⟩, h2⟩, h3⟩ := h
      subst h0 h1
      obtain ⟨vs, r1, r2⟩ := repBs_ok h3
      exact ⟨.ref a, rfl, fun H => .lst (.inr ⟨its, n, hl, h2, r1⟩) (by rw [r1.length, Array.length_toList]; exact h2) (r2 H)⟩
    · cases h
  | .dic _, u, h => by cases u <;> simp only [repB, Bool.false_eq_true] at h
theorem repBs_ok {K : PySem.W.Frag} : ∀ {ds : List D} {us : List Value}, repBs K ds us = true → ∃ vs, Vals vs us ∧ ∀ H, RepAll K H ds vs
  | [], [], _ => ⟨[], .nil, fun H => .nil⟩
  | [], _ :: _, h => by simp only [repBs, Bool.false_eq_true] at h
  | _ :: _, [], h => by simp only [repBs, Bool.false_eq_true] at h
  | d :: ds, u :: us, h => by
    simp only [repBs, Bool.and_eq_true] at h
    obtain ⟨v, r1, r2⟩ := repB_ok h.1
    obtain ⟨vs, s1, s2⟩ := repBs_ok h.2
    exact ⟨v :: vs, .cons r1 s1, fun H => .cons (r2 H) (s2 H)⟩
end
def glB' (K : PySem.W.Frag) (gl : List (Str × Nat)) (glob : Nat → Option D) : Bool := gl.all fun p => match PySem.W.nsIn K mainGlobals p.1, glob p.2 with
  | some (some u), some d => repB K d u
  | _, _ => false
theorem gl_ok {K : PySem.W.Frag} {h : Heap} {mg : Str → Option Value} {gl : List (Str × Nat)} {glob : Nat → Option D} (X : K.In h) (G : h.Ns mainGlobals mg) (c : glB' K gl glob = true) :
    ∀ x g d, gl.lookup x = some g → glob g = some d → ∃ u v, mg x = some u ∧ RelV v u ∧ ∀ F, Rep K F d v := fun x g d e1 e2 => by
  have z := List.all_eq_true.mp c _ (PySem.mem_of_lookup e1)
  dsimp only at z
  rw [e2] at z
  cases q : PySem.W.nsIn K mainGlobals x with
  | none => rw [q] at z; cases z
  | some o =>
    cases o with
    | none => rw [q] at z; cases z
    | some u =>
      rw [q] at z
      obtain ⟨v, r1, r2⟩ := repB_ok z
      exact ⟨u, v, PySem.W.mg_of X G q, r1, r2⟩
abbrev AlM : Type := He.AlD × Bool
def obsM (n : Nat) (fa : List He.Fa) (fn : List He.DefD) (ex : PySem.W.Frag → Bool) (g : Addr → Option Obj) : AlM := (He.obsD fa fn (He.frG g (He.asD g n)), ex (He.frG g (He.asD g n)))
def hookM (n : Nat) (fa : List He.Fa) (fn : List He.DefD) (ex : PySem.W.Frag → Bool) : PySem.W.Hook where
  α := AlM
  obs := fun s => obsM n fa fn ex s.heap.get?
  val := fun _ => (He.valD fn, true)
  says := fun _ h => ∃ K : PySem.W.Frag, K.In h ∧ He.SaysD fa fn K ∧ ex K = true
  of := fun _ _ e => ⟨_, He.frG_in, congrArg (fun z : AlM => z.1) e, congrArg (fun z : AlM => z.2) e⟩
  keeps := fun _ _ _ ⟨K, hK, c⟩ k => ⟨K, PySem.W.Frag.In.keeps hK k, c⟩
theorem obsM_eq {n : Nat} {fa : List He.Fa} {fn : List He.DefD} {ex : PySem.W.Frag → Bool} {g : Addr → Option Obj} {s : Shared} (h : ∀ a, g a = s.heap.get? a) : obsM n fa fn ex g = (hookM n fa fn ex).obs s := by
  have e : g = s.heap.get? := funext h
  rw [e] <;> rfl
def scB (N ps : List Str) (sc : Scope) : Bool :=
  (match sc.kind with
    | .function => true
    | _ => false) && !sc.isCoroutine && !sc.isGenerator && decide N.Nodup && decide (N.take ps.length = ps) && (ps.all fun x => match sc.names.lookup x with
    | some .local => true
    | some .cell => true
    | _ => false) && sc.names.all fun y => match y.2 with
    | .free => false
    | _ => true
theorem sc_ok {N ps : List Str} {sc : Scope} (h : scB N ps sc = true) : FnScope N ps sc := by
  unfold scB at h
  simp only [Bool.and_eq_true, Bool.not_eq_true', decide_eq_true_eq, List.all_eq_true] at h
  obtain ⟨⟨⟨⟨⟨⟨h1, h2⟩, h3⟩, h4⟩, h5⟩, h6⟩, h7⟩ := h
  refine ⟨?_, h2, h3, h4, h5, fun x hx => ?_, fun y hy e => ?_⟩
  · split at h1
    · assumption
    · cases h1
  · have z := h6 x hx
    split at z
    · exact .inl (by assumption)
    · exact .inr (by assumption)
    · cases z
  · have z := h7 y hy
    rw [e] at z
    cases z
def entB (T : Tab) (fns : Nat → Option Fn) (st : Stmt) (N ps : List Str) (fid : Nat) : Bool := scB N ps (defScope st) && match fns fid with
  | some d => decide (d.np = ps.length) && decide (d.ns = N.length) && okSs T ⟨N, defScope st⟩ d.body (defBody st)
  | none => false
def mkD (x : Str) (st : Stmt) : He.DefD := ⟨(x, none), x, x, defArgs st, defBody st, defScope st, [], []⟩
section
variable {K : PySem.W.Frag} {mg : Str → Option Value} {T : Tab} {fns : Nat → Option Fn} {x : Str} {st : Stmt} {f : Addr} {fd : FuncData} {N ps : List Str} {fid : Nat}
theorem def_mk (F : FunD K x x (defArgs st) (defBody st) (defScope st) [] [] f fd) (hm : mg x = some (.ref f)) (c : entB T fns st N ps fid = true) (hb : Binds K fd ps [])
    (hk : ∀ n ks perm, (fid, n, ks, perm) ∈ T.kw → perm.length = ps.length ∧ (∀ i ∈ perm, i < n + ks.length) ∧ KwB K fd ps n ks perm) : DefOk K mg T fns x fid f fd ps := by
  unfold entB at c
  simp only [Bool.and_eq_true] at c
  obtain ⟨c1, c2⟩ := c
  cases hd : fns fid with
  | none => rw [hd] at c2; cases c2
  | some d =>
    rw [hd] at c2
    simp only [Bool.and_eq_true, decide_eq_true_eq] at c2
    exact ⟨hm, ⟨x, x, _, _, _, [], [], N, d, F, sc_ok c1, hd, c2.1.1, c2.1.2, c2.2⟩, hb, hk⟩
theorem kw_bind {n : Nat} {ks : List Str} {perm : List Nat} (F : FunD K x x (defArgs st) (defBody st) (defScope st) [] [] f fd)
    (h : ∀ (kV doc pm : Value) (an : Option Addr) (cdv ct : Value) (us ws : List Value), us.length = n → (us ++ ws).length = n + ks.length → bindArgs (PySem.W.fnOf x x (defArgs st) (defBody st) (defScope st) .none kV doc pm an cdv ct) ⟨us, ks.zip ws⟩ = pure (ps.zip (perm.map fun i => (us ++ ws).getD i .none))) : KwB K fd ps n ks perm := by
  obtain ⟨oc, od, dV, kV, doc, pm, an, cdv, ct, osl, rfl, lk, hcd, hD, hK⟩ := F.ex
  rcases hD with ⟨_, rfl⟩ | ⟨e, _⟩
  · exact fun s us ws _ h1 h2 => BindsTo.of_eq (h kV doc pm an cdv ct us ws h1 h2)
  · exact absurd rfl e
end
theorem all_fn {T : Tab} {P : Str → Nat → Prop} (h : ∀ p ∈ T.fn, P p.1 p.2) : ∀ x fid, T.fn.lookup x = some fid → P x fid := fun x fid e => h _ (PySem.mem_of_lookup e)
theorem factsD {fa : List He.Fa} {fn : List He.DefD} {K : PySem.W.Frag} (c : He.SaysD fa fn K) {f : He.Fa} (h : f ∈ fa) : f.ok K = true := by
  obtain ⟨i, hi, e⟩ := List.mem_iff_getElem.mp h
  exact c.fact i (f := f) (by rw [List.getElem?_eq_getElem hi, e])
theorem ers_none : ∀ (x : Exc) (cls : Value) (d : Option Addr) (F H F' : Hp), (fun _ _ _ _ _ => False : EK) x cls d F H → x.fs.all D.scal = true → (fun _ _ _ _ _ => False : EK) x cls d F' H := fun _ _ _ _ _ _ h _ => h
end M
set_option Elab.async false
set_option linter.all false
set_option maxRecDepth 100000
set_option maxHeartbeats 1000000
set_option autoImplicit false
namespace M
section
variable {α β : Type} {m m' : R α} {f : α → Env → R β} {a : α} {r r1 : Env} {x : Exc}
theorem bind_congr (h : m = m') : R.bind m f = R.bind m' f := by rw [h]
@[simp] theorem bind_ok : R.bind (some (.ok a, r)) f = f a r := rfl
@[simp] theorem bind_none : R.bind none f = none := rfl
@[simp] theorem bind_err : R.bind (some (.error x, r)) f = some (.error x, r) := rfl
@[simp] theorem ret_eq : ret a r = some (.ok a, r) := rfl
@[simp] theorem lift_some : M.lift (some a) r = some (.ok a, r) := rfl
@[simp] theorem lift_none : (M.lift none r : R α) = none := rfl
end
section
variable {step : D → Env → R (Option D)} {body : D → Env → R Flow} {test : Env → R Bool} {wb : Env → R Flow} {d : D} {ds ds' acc acc' : List D} {r r' : Env} {n : Nat}
theorem lcLoop_congr (h : ds = ds') (h2 : acc = acc') (h3 : r = r') : lcLoop step ds acc r = lcLoop step ds' acc' r' := by rw [h, h2, h3]
theorem forLoop_congr (h : ds = ds') (h3 : r = r') : forLoop body ds r = forLoop body ds' r' := by rw [h, h3]
theorem whileLoop_congr (h3 : r = r') : whileLoop test wb n r = whileLoop test wb n r' := by rw [h3]
@[simp] theorem lcLoop_nil : lcLoop step [] acc r = some (.ok acc, r) := rfl
theorem lcLoop_cons : lcLoop step (d :: ds) acc r = R.bind (step d r) fun o r' => lcLoop step ds (acc ++ o.toList) r' := rfl
@[simp] theorem forLoop_nil : forLoop body [] r = some (.ok .nx, r) := rfl
theorem forLoop_cons : forLoop body (d :: ds) r = R.bind (body d r) fun f r' => match f with
    | .nx => forLoop body ds r'
    | .cnt => forLoop body ds r'
    | .brk => ret .nx r'
    | .ret m => ret (.ret m) r' := rfl
end
def lcStep (call : Call) (glob : Nat → Option D) (own : List Nat) (t : CT) (c : CO) (e : CE) (d : D) (r : Env) : R (Option D) := match asg false t (.dat d) (wipe r own) with
  | none => none
  | some r' => R.bind (evalC call glob c r') fun k r2 => if k then R.bind (evalE call glob e r2) fun m r3 => match m.data with
      | some d => ret (some d) (unwipe r r3 own)
      | none => none
    else ret none (unwipe r r2 own)
def lcEnd : R (List D) → R MV
  | some (.ok out, r2) => ret (.lst out) r2
  | _ => none
@[simp] theorem lcEnd_ok (out : List D) (r : Env) : lcEnd (some (.ok out, r)) = some (.ok (.lst out), r) := rfl
def forStep (call : Call) (glob : Nat → Option D) (wf : Nat) (t : CT) (b : List CS) (d : D) (r : Env) : R Flow := match asg false t (.dat d) r with
  | none => none
  | some r' => execs call glob wf b r'
def whTest (call : Call) (glob : Nat → Option D) (c : CE) (r : Env) : R Bool := R.bind (evalE call glob c r) fun x r1 => M.lift (truth x.fz) r1
def whBody (call : Call) (glob : Nat → Option D) (wf : Nat) (b : List CS) (r : Env) : R Flow := execs call glob wf b r
@[simp] theorem fz_no : MV.no.fz = .non := rfl
@[simp] theorem fz_dat (d : D) : (MV.dat d).fz = d := rfl
@[simp] theorem fz_tmp (d : D) : (MV.tmp d).fz = d := rfl
@[simp] theorem fz_blst (d : List D) : (MV.blst d).fz = .lst d := rfl
@[simp] theorem fz_bdic (d : List (Key × D)) : (MV.bdic d).fz = .dic d := rfl
@[simp] theorem fz_lst (d : List D) : (MV.lst d).fz = .lst d := rfl
@[simp] theorem fz_dic (d : List (Key × D)) : (MV.dic d).fz = .dic d := rfl
@[simp] theorem temp_dat (d : D) : (MV.dat d).temp = false := rfl
@[simp] theorem temp_no : MV.no.temp = false := rfl
@[simp] theorem temp_tmp (d : D) : (MV.tmp d).temp = true := rfl
@[simp] theorem temp_blst (d : List D) : (MV.blst d).temp = true := rfl
@[simp] theorem temp_bdic (d : List (Key × D)) : (MV.bdic d).temp = true := rfl
@[simp] theorem temp_lst (d : List D) : (MV.lst d).temp = false := rfl
@[simp] theorem temp_dic (d : List (Key × D)) : (MV.dic d).temp = false := rfl
@[simp] theorem own_dat (d : D) : (MV.dat d).own = false := rfl
@[simp] theorem own_no : MV.no.own = false := rfl
@[simp] theorem own_lst (d : List D) : (MV.lst d).own = true := rfl
@[simp] theorem own_dic (d : List (Key × D)) : (MV.dic d).own = true := rfl
@[simp] theorem here_dat (d : D) : (MV.dat d).here = true := rfl
@[simp] theorem rd_no : MV.no.rd = none := rfl
@[simp] theorem rd_dat (d : D) : (MV.dat d).rd = some (.dat d) := rfl
@[simp] theorem rd_lst (d : List D) : (MV.lst d).rd = some (.blst d) := rfl
@[simp] theorem rd_dic (d : List (Key × D)) : (MV.dic d).rd = some (.bdic d) := rfl
@[simp] theorem data_dat (d : D) : (MV.dat d).data = some d := rfl
@[simp] theorem data_lst (d : List D) : (MV.lst d).data = some (.lst d) := rfl
@[simp] theorem data_dic (d : List (Key × D)) : (MV.dic d).data = some (.dic d) := rfl
@[simp] theorem data_tmp (d : D) : (MV.tmp d).data = none := rfl
@[simp] theorem slot_zero (m : MV) (r : Env) : slot (m :: r) 0 = m := rfl
@[simp] theorem slot_succ (m : MV) (r : Env) (i : Nat) : slot (m :: r) (i + 1) = slot r i := rfl
@[simp] theorem seq_lst (d : List D) : (MV.lst d).seq = some (true, d) := rfl
@[simp] theorem seq_blst (d : List D) : (MV.blst d).seq = some (true, d) := rfl
@[simp] theorem seq_dl (d : List D) : (MV.dat (.lst d)).seq = some (true, d) := rfl
@[simp] theorem seq_dt (d : List D) : (MV.dat (.tup d)).seq = some (true, d) := rfl
@[simp] theorem list_lst (d : List D) : (MV.lst d).list = some (true, d) := rfl
@[simp] theorem list_blst (d : List D) : (MV.blst d).list = some (true, d) := rfl
@[simp] theorem list_dl (d : List D) : (MV.dat (.lst d)).list = some (true, d) := rfl
@[simp] theorem list_dt (d : List D) : (MV.dat (.tup d)).list = none := rfl
@[simp] theorem tup_dt (d : List D) : (MV.dat (.tup d)).tup = some (true, d) := rfl
@[simp] theorem tup_dl (d : List D) : (MV.dat (.lst d)).tup = none := rfl
@[simp] theorem tup_lst (d : List D) : (MV.lst d).tup = none := rfl
@[simp] theorem tup_blst (d : List D) : (MV.blst d).tup = none := rfl
@[simp] theorem of_true (d : D) : MV.of true d = .dat d := by simp [MV.of]
@[simp] theorem of_bl (p b : Bool) : MV.of p (.bl b) = .dat (.bl b) := by simp [MV.of, D.scal]
@[simp] theorem of_int (p : Bool) (i : Int) : MV.of p (.int i) = .dat (.int i) := by simp [MV.of, D.scal]
@[simp] theorem of_str (p : Bool) (i : PySem.Str) : MV.of p (.str i) = .dat (.str i) := by simp [MV.of, D.scal]
@[simp] theorem of_non (p : Bool) : MV.of p .non = .dat .non := by simp [MV.of, D.scal]
@[simp] theorem mkL_true (d : List D) : mkL true d = .lst d := rfl
@[simp] theorem mkT_true (d : List D) : mkT true d = .dat (.tup d) := by simp [mkT]
@[simp] theorem allData_nil : allData [] = some [] := rfl
@[simp] theorem allData_cons (m : MV) (ms : List MV) : allData (m :: ms) = (match m.data, allData ms with
    | some d, some ds => some (d :: ds)
    | _, _ => none) := rfl
@[simp] theorem refsOf_nil : refsOf .nil = [] := by simp only [refsOf]
@[simp] theorem refsOf_val (e : CE) (es : CAs) : refsOf (.val e es) = refsOf es := by simp only [refsOf]
@[simp] theorem refsOf_ref (i : Nat) (es : CAs) : refsOf (.ref i es) = i :: refsOf es := by simp only [refsOf]
section
variable {r : Env} {e : CE} {es : CAs} {i : Nat} {m : MV} {ms : List MV}
@[simp] theorem argsOf_nil : argsOf r .nil [] = some [] := by simp only [argsOf]
@[simp] theorem argsOf_val : argsOf r (.val e es) (m :: ms) = (argsOf r es ms).map (.dat m.fz :: ·) := by simp only [argsOf]
@[simp] theorem argsOf_ref : argsOf r (.ref i es) ms = if (slot r i).own then (argsOf r es ms).map (slot r i :: ·) else none := by simp only [argsOf]
@[simp] theorem backIn_nil : backIn r .nil ms = r := by simp only [backIn]
@[simp] theorem backIn_val : backIn r (.val e es) (m :: ms) = backIn r es ms := by simp only [backIn]
@[simp] theorem backIn_ref : backIn r (.ref i es) (m :: ms) = backIn (r.set i m) es ms := by simp only [backIn]
@[simp] theorem keepOwn_nil : keepOwn [] r = [] := by simp [keepOwn]
@[simp] theorem keepOwn_cons (a b : MV) : keepOwn (a :: ms) (b :: r) = (if a.own then b else a) :: keepOwn ms r := by simp [keepOwn]
end
section
variable {i : Nat} {d : D} {a b c : CE} {es : CEs} {as : CAs} {o : Bop} {u : Uop} {p p' : Cop} {bb : Bi} {m : Me} {mm : Mu} {lo hi : CO} {own : List Nat} {t : CT} {it : CI} {perm : List Nat} {f : Nat}
@[simp] theorem q_var : (CE.var i).quiet = true := by simp only [CE.quiet]
@[simp] theorem q_take : (CE.take i).quiet = false := by simp only [CE.quiet]
@[simp] theorem q_con : (CE.con d).quiet = true := by simp only [CE.quiet]
@[simp] theorem q_glo : (CE.glo i).quiet = true := by simp only [CE.quiet]
@[simp] theorem q_dict0 : CE.dict0.quiet = true := by simp only [CE.quiet]
@[simp] theorem q_mu : (CE.mu mm i es).quiet = false := by simp only [CE.quiet]
@[simp] theorem q_bin : (CE.bin o a b).quiet = (a.quiet && b.quiet) := by simp only [CE.quiet]
@[simp] theorem q_cmp : (CE.cmp p a b).quiet = (a.quiet && b.quiet) := by simp only [CE.quiet]
@[simp] theorem q_and : (CE.and a b).quiet = (a.quiet && b.quiet) := by simp only [CE.quiet]
@[simp] theorem q_or : (CE.or a b).quiet = (a.quiet && b.quiet) := by simp only [CE.quiet]
@[simp] theorem q_idx : (CE.idx a b).quiet = (a.quiet && b.quiet) := by simp only [CE.quiet]
@[simp] theorem q_una : (CE.una u a).quiet = a.quiet := by simp only [CE.quiet]
@[simp] theorem q_chn : (CE.chn p p' a b c).quiet = (a.quiet && b.quiet && c.quiet) := by simp only [CE.quiet]
@[simp] theorem q_ite : (CE.ite a b c).quiet = (a.quiet && b.quiet && c.quiet) := by simp only [CE.quiet]
@[simp] theorem q_tup : (CE.tup es).quiet = es.quiet := by simp only [CE.quiet]
@[simp] theorem q_lst : (CE.lst es).quiet = es.quiet := by simp only [CE.quiet]
@[simp] theorem q_bi : (CE.bi bb es).quiet = es.quiet := by simp only [CE.quiet]
@[simp] theorem q_sli : (CE.sli a lo hi).quiet = (a.quiet && lo.quiet && hi.quiet) := by simp only [CE.quiet]
@[simp] theorem q_call : (CE.call f as).quiet = as.quiet := by simp only [CE.quiet]
@[simp] theorem q_callk : (CE.callk f perm as).quiet = as.quiet := by simp only [CE.quiet]
@[simp] theorem q_me : (CE.me m a es).quiet = (a.quiet && es.quiet) := by simp only [CE.quiet]
@[simp] theorem q_lc : (CE.lc own t it lo a).quiet = (it.quiet && lo.quiet && a.quiet) := by simp only [CE.quiet]
@[simp] theorem q_esn : CEs.nil.quiet = true := by simp only [CEs.quiet]
@[simp] theorem q_esc : (CEs.cons a es).quiet = (a.quiet && es.quiet) := by simp only [CEs.quiet]
@[simp] theorem q_asn : CAs.nil.quiet = true := by simp only [CAs.quiet]
@[simp] theorem q_asv : (CAs.val a as).quiet = (a.quiet && as.quiet) := by simp only [CAs.quiet]
@[simp] theorem q_asr : (CAs.ref i as).quiet = false := by simp only [CAs.quiet]
@[simp] theorem q_no : CO.no.quiet = true := by simp only [CO.quiet]
@[simp] theorem q_so : (CO.so a).quiet = a.quiet := by simp only [CO.quiet]
@[simp] theorem q_over : (CI.over a).quiet = a.quiet := by simp only [CI.quiet]
@[simp] theorem q_rng1 : (CI.rng1 a).quiet = a.quiet := by simp only [CI.quiet]
@[simp] theorem q_enm : (CI.enm a).quiet = a.quiet := by simp only [CI.quiet]
@[simp] theorem q_rng2 : (CI.rng2 a b).quiet = (a.quiet && b.quiet) := by simp only [CI.quiet]
@[simp] theorem q_zip : (CI.zip a b).quiet = (a.quiet && b.quiet) := by simp only [CI.quiet]
end
section
variable {call : Call} {glob : Nat → Option D} {r r' : Env} {t : Bool} {es : CAs} {o : Option (Except Exc MV × List MV)} {f : Nat} {vals args : List MV} {m : MV} {d : D}
@[simp] theorem afterCall_none : afterCall t es none r = none := rfl
@[simp] theorem afterCall_f : afterCall false es (some (.ok m, args)) r = some (.ok m, backIn r es args) := rfl
@[simp] theorem afterCall_t : afterCall true es (some (.ok (.dat d), args)) r = some (.ok (MV.of false d), backIn r es args) := rfl
@[simp] theorem doCall_eq : doCall call f es vals r = (match argsOf r es vals with
    | none => none
    | some args =>
      if (refsOf es).length != 0 && vals.any MV.temp then none else
      if !((refsOf es).Nodup : Bool) then none else
      afterCall (vals.any MV.temp) es (call f args) r) := rfl
variable {i : Nat} {x y z a b c : CE} {ees : CEs} {q : Bop} {u : Uop} {p p' : Cop} {bb : Bi} {mm : Me} {mu' : Mu} {lo hi co : CO} {own : List Nat} {ct : CT} {it : CI}
@[simp] theorem ev_var : evalE call glob (.var i) r = M.lift (slot r i).rd r := by simp only [evalE] <;> rfl
@[simp] theorem ev_take : evalE call glob (.take i) r = (match slot r i with
    | .lst xs => ret (.lst xs) (r.set i .no)
    | .dic k => ret (.dic k) (r.set i .no)
    | _ => none) := by simp only [evalE] <;> rfl
@[simp] theorem ev_con : evalE call glob (.con d) r = ret (.dat d) r := by simp only [evalE] <;> rfl
@[simp] theorem ev_glo : evalE call glob (.glo i) r = M.lift ((glob i).map .dat) r := by simp only [evalE] <;> rfl
@[simp] theorem ev_bin : evalE call glob (.bin q a b) r = R.bind (evalE call glob a r) fun x r1 => R.bind (evalE call glob b r1) fun y r2 => if x.temp && !b.quiet then none else M.lift (bin q x y) r2 := by simp only [evalE] <;> rfl
@[simp] theorem ev_una : evalE call glob (.una u a) r = R.bind (evalE call glob a r) fun x r1 => M.lift (una u x) r1 := by simp only [evalE] <;> rfl
@[simp] theorem ev_cmp : evalE call glob (.cmp p a b) r = R.bind (evalE call glob a r) fun x r1 => R.bind (evalE call glob b r1) fun y r2 => if x.temp && !b.quiet then none else M.lift ((cmp p x.fz y.fz).map fun k => .dat (.bl k)) r2 := by simp only [evalE] <;> rfl
@[simp] theorem ev_chn : evalE call glob (.chn p p' a b c) r = R.bind (evalE call glob a r) fun x r1 => R.bind (evalE call glob b r1) fun y r2 =>
      if x.temp && !b.quiet then none else match cmp p x.fz y.fz with
      | none => none
      | some false => ret (.dat (.bl false)) r2
      | some true => R.bind (evalE call glob c r2) fun z r3 => if y.temp && !c.quiet then none else M.lift ((cmp p' y.fz z.fz).map fun k => .dat (.bl k)) r3 := by simp only [evalE] <;> rfl
@[simp] theorem ev_and : evalE call glob (.and a b) r = R.bind (evalE call glob a r) fun x r1 => match truth x.fz with
      | none => none
      | some true => evalE call glob b r1
      | some false => ret x r1 := by simp only [evalE] <;> rfl
@[simp] theorem ev_or : evalE call glob (.or a b) r = R.bind (evalE call glob a r) fun x r1 => match truth x.fz with
      | none => none
      | some true => ret x r1
      | some false => evalE call glob b r1 := by simp only [evalE] <;> rfl
@[simp] theorem ev_ite : evalE call glob (.ite c a b) r = R.bind (evalE call glob c r) fun x r1 => match truth x.fz with
      | none => none
      | some true => evalE call glob a r1
      | some false => evalE call glob b r1 := by simp only [evalE] <;> rfl
@[simp] theorem ev_tup : evalE call glob (.tup ees) r = R.bind (evalEs call glob ees r) fun ms r1 => if ms.length ≤ line then ret (if ms.any MV.temp then .tmp (.tup (ms.map MV.fz)) else .dat (.tup (ms.map MV.fz))) r1 else none := by simp only [evalE] <;> rfl
@[simp] theorem ev_lst : evalE call glob (.lst ees) r = R.bind (evalEs call glob ees r) fun ms r1 => if ms.length ≤ line then ret (if ms.any MV.temp then .tmp (.lst (ms.map MV.fz)) else .lst (ms.map MV.fz)) r1 else none := by simp only [evalE] <;> rfl
@[simp] theorem ev_dict0 : evalE call glob .dict0 r = ret (.dic []) r := by simp only [evalE] <;> rfl
@[simp] theorem ev_idx : evalE call glob (.idx a b) r = R.bind (evalE call glob a r) fun x r1 => R.bind (evalE call glob b r1) fun y r2 => if x.temp && !b.quiet then none else M.lift (idx x y) r2 := by simp only [evalE] <;> rfl
@[simp] theorem ev_sli : evalE call glob (.sli a lo hi) r = R.bind (evalE call glob a r) fun x r1 => R.bind (evalO call glob lo r1) fun l r2 => R.bind (evalO call glob hi r2) fun h r3 => if x.temp && !(lo.quiet && hi.quiet) then none else M.lift (sli x l h) r3 := by simp only [evalE] <;> rfl
@[simp] theorem ev_call : evalE call glob (.call f es) r = R.bind (evalAs call glob es r) fun vals r1 => doCall call f es vals r1 := by simp only [evalE] <;> rfl
@[simp] theorem ev_callk (perm : List Nat) : evalE call glob (.callk f perm es) r = R.bind (evalAs call glob es r) fun vals r1 => if (refsOf es).length != 0 then none else
      afterCall (vals.any MV.temp) es (call f (perm.map fun i => .dat (vals.getD i .no).fz)) r1 := by simp only [evalE] <;> rfl
@[simp] theorem ev_bi : evalE call glob (.bi bb ees) r = R.bind (evalEs call glob ees r) fun ms r1 => M.lift (bi bb ms) r1 := by simp only [evalE] <;> rfl
@[simp] theorem ev_me : evalE call glob (.me mm a ees) r = R.bind (evalE call glob a r) fun x r1 => if !meTyOk mm x.fz then none else R.bind (evalEs call glob ees r1) fun ms r2 => if x.temp && !ees.quiet then none else M.lift (me mm x ms) r2 := by simp only [evalE] <;> rfl
@[simp] theorem ev_mu : evalE call glob (.mu mu' i ees) r = if !muOk mu' (slot r i) then none else R.bind (evalEs call glob ees r) fun ms r1 => match allData ms with
      | none => none
      | some ds => match mu mu' (slot r1 i) ds with
        | none => none
        | some (m', d) => ret (.dat d) (r1.set i m') := by simp only [evalE] <;> rfl
@[simp] theorem ev_lc : evalE call glob (.lc own ct it co x) r = R.bind (evalI call glob it r) fun ds r1 => if !noOwn r1 own then none else lcEnd (lcLoop (lcStep call glob own ct co x) ds [] r1) := by
  simp only [evalE, lcEnd]
  rfl
variable {ee : CE} {eas : CAs}
@[simp] theorem es_nil : evalEs call glob .nil r = ret [] r := by simp only [evalEs] <;> rfl
@[simp] theorem es_cons : evalEs call glob (.cons ee ees) r = R.bind (evalE call glob ee r) fun m r1 => R.bind (evalEs call glob ees r1) fun ms r2 => if m.temp && !ees.quiet then none else ret (m :: ms) r2 := by simp only [evalEs] <;> rfl
@[simp] theorem as_nil : evalAs call glob .nil r = ret [] r := by simp only [evalAs] <;> rfl
@[simp] theorem as_val' : evalAs call glob (.val ee eas) r = R.bind (evalE call glob ee r) fun m r1 => R.bind (evalAs call glob eas r1) fun ms r2 => if m.temp && !eas.quiet then none else ret (m :: ms) r2 := by simp only [evalAs] <;> rfl
@[simp] theorem as_ref' : evalAs call glob (.ref i eas) r = if (slot r i).own then evalAs call glob eas r else none := by simp only [evalAs] <;> rfl
@[simp] theorem eo_no : evalO call glob .no r = ret none r := by simp only [evalO] <;> rfl
@[simp] theorem eo_so : evalO call glob (.so ee) r = R.bind (evalE call glob ee r) fun x r1 => match x.fz with
    | .int i => ret (some i) r1
    | _ => none := by simp only [evalO] <;> rfl
@[simp] theorem ec_no : evalC call glob .no r = ret true r := by simp only [evalC] <;> rfl
@[simp] theorem ec_so : evalC call glob (.so ee) r = R.bind (evalE call glob ee r) fun x r1 => M.lift (truth x.fz) r1 := by simp only [evalC] <;> rfl
@[simp] theorem ei_over : evalI call glob (.over ee) r = R.bind (evalE call glob ee r) fun x r1 => match x with
    | .dat (.lst xs) => ret xs r1
    | .dat (.tup xs) => ret xs r1
    | .lst xs => ret xs r1
    | .dat (.str s) => if s.length ≤ line then ret (s.cps.toList.map fun c => .str ⟨#[c]⟩) r1 else none
    | _ => none := by simp only [evalI] <;> rfl
@[simp] theorem ei_rng1 : evalI call glob (.rng1 a) r = R.bind (evalE call glob a r) fun x r1 => match x.fz with
    | .int n => if -line ≤ n && n ≤ line then ret (range 0 n.toNat) r1 else none
    | _ => none := by simp only [evalI] <;> rfl
@[simp] theorem ei_enm : evalI call glob (.enm ee) r = R.bind (evalE call glob ee r) fun x r1 => match x with
    | .dat (.lst xs) => ret (enumD 0 xs) r1
    | .dat (.tup xs) => ret (enumD 0 xs) r1
    | .lst xs => ret (enumD 0 xs) r1
    | _ => none := by simp only [evalI] <;> rfl
variable {wf : Nat} {s : CS} {ss sa sb : List CS} {fz : Bool} {k : CE}
@[simp] theorem ex_asg : exec call glob wf (.asg fz ct ee) r = R.bind (evalE call glob ee r) fun m r1 => match asg (!fz) ct m r1 with
    | some r2 => ret .nx r2
    | none => none := by simp only [exec] <;> rfl
@[simp] theorem ex_seti : exec call glob wf (.seti i k ee) r = R.bind (evalE call glob ee r) fun m r1 => if !(slot r1 i).own then none else R.bind (evalE call glob k r1) fun j r2 => if !k.quiet then none else match m.data with
    | some d => match setIx (slot r2 i) j.fz d with
      | some m' => ret .nx (r2.set i m')
      | none => none
    | none => none := by simp only [exec] <;> rfl
@[simp] theorem ex_aug : exec call glob wf (.aug q i ee) r = if !(slot r i).here then none else R.bind (evalE call glob ee r) fun m r1 => match slot r i, m with
    | .dat a, .dat b => match q, a, b with
      | .add, .int x, .int y => ret .nx (r1.set i (.dat (.int (x + y))))
      | .sub, .int x, .int y => ret .nx (r1.set i (.dat (.int (x - y))))
      | _, _, _ => none
    | _, _ => none := by simp only [exec] <;> rfl
@[simp] theorem ex_exp : exec call glob wf (.exp ee) r = R.bind (evalE call glob ee r) fun _ r1 => ret .nx r1 := by simp only [exec] <;> rfl
@[simp] theorem ex_ret : exec call glob wf (.ret ee) r = R.bind (evalE call glob ee r) fun m r1 => if m.temp then none else ret (.ret m) r1 := by simp only [exec] <;> rfl
@[simp] theorem ex_retN : exec call glob wf .retN r = ret (.ret (.dat .non)) r := by simp only [exec] <;> rfl
@[simp] theorem ex_ite : exec call glob wf (.ite c sa sb) r = R.bind (evalE call glob c r) fun x r1 => match truth x.fz with
    | none => none
    | some true => execs call glob wf sa r1
    | some false => execs call glob wf sb r1 := by simp only [exec] <;> rfl
@[simp] theorem ex_for : exec call glob wf (.for ct it sb) r = R.bind (evalI call glob it r) fun ds r1 => forLoop (forStep call glob wf ct sb) ds r1 := by simp only [exec] <;> rfl
@[simp] theorem ex_while : exec call glob wf (.while c sb) r = whileLoop (whTest call glob c) (whBody call glob wf sb) wf r := by simp only [exec] <;> rfl
@[simp] theorem ex_brk : exec call glob wf .brk r = ret .brk r := by simp only [exec] <;> rfl
@[simp] theorem ex_cnt : exec call glob wf .cnt r = ret .cnt r := by simp only [exec] <;> rfl
@[simp] theorem ex_pass : exec call glob wf .pass r = ret .nx r := by simp only [exec] <;> rfl
@[simp] theorem exs_nil : execs call glob wf [] r = ret .nx r := by simp only [execs] <;> rfl
@[simp] theorem exs_cons : execs call glob wf (s :: ss) r = R.bind (exec call glob wf s r) fun f r1 => match f with
    | .nx => execs call glob wf ss r1
    | f => ret f r1 := by simp only [execs] <;> rfl
end
section
variable {i : Nat} {d : D} {ds xs : List D} {k : List (Key × D)} {own : Bool} {r : Env} {t : CT} {ts : CTs}
@[simp] theorem asg_dat : asg own (.nm i) (.dat d) r = if i < r.length then some (r.set i (.dat d)) else none := by simp only [asg]
@[simp] theorem asg_lst : asg own (.nm i) (.lst xs) r = if i < r.length then some (r.set i (if own then .lst xs else .dat (.lst xs))) else none := by simp only [asg]
@[simp] theorem asg_dic : asg own (.nm i) (.dic k) r = if i < r.length then some (r.set i (if own then .dic k else .dat (.dic k))) else none := by simp only [asg]
@[simp] theorem asg_tp : asg own (.tp ts) (.dat (.tup ds)) r = asgs ts ds r := by simp only [asg]
@[simp] theorem asgs_nil : asgs .nil [] r = some r := by simp only [asgs]
@[simp] theorem asgs_cons : asgs (.cons t ts) (d :: ds) r = (match asg false t (.dat d) r with
    | some r' => asgs ts ds r'
    | none => none) := by simp only [asgs] <;> rfl
@[simp] theorem wipe_nil : wipe r [] = r := by simp [wipe]
@[simp] theorem wipe_cons (is : List Nat) : wipe r (i :: is) = (wipe r is).set i .no := by simp [wipe]
@[simp] theorem unwipe_nil (r0 : Env) : unwipe r0 r [] = r := by simp [unwipe]
@[simp] theorem unwipe_cons (r0 : Env) (is : List Nat) : unwipe r0 r (i :: is) = (unwipe r0 r is).set i (slot r0 i) := by simp [unwipe]
@[simp] theorem noOwn_nil : noOwn r [] = true := rfl
@[simp] theorem noOwn_cons (is : List Nat) : noOwn r (i :: is) = (!(slot r i).own && noOwn r is) := rfl
end
section
variable {i j : Int} {s t : PySem.Str} {a b : D} {xs ys : List D}
@[simp] theorem bin_ai : bin .add (.dat (.int i)) (.dat (.int j)) = some (.dat (.int (i + j))) := rfl
@[simp] theorem bin_si : bin .sub (.dat (.int i)) (.dat (.int j)) = some (.dat (.int (i - j))) := rfl
@[simp] theorem bin_mi : bin .mul (.dat (.int i)) (.dat (.int j)) = if mulOk i j then some (.dat (.int (i * j))) else none := rfl
@[simp] theorem bin_di : bin .fdiv (.dat (.int i)) (.dat (.int j)) = if divOk j then some (.dat (.int (i / j))) else none := rfl
@[simp] theorem bin_oi : bin .mod (.dat (.int i)) (.dat (.int j)) = if 0 < j then some (.dat (.int (i % j))) else none := rfl
@[simp] theorem bin_pi : bin .pow (.dat (.int i)) (.dat (.int j)) = if powOk i j then some (.dat (.int (i ^ j.toNat))) else none := rfl
@[simp] theorem bin_as : bin .add (.dat (.str s)) (.dat (.str t)) = if s.length + t.length ≤ line then some (.dat (.str (s ++ t))) else none := rfl
@[simp] theorem bin_at : bin .add (.dat (.tup xs)) (.dat (.tup ys)) = if xs.length + ys.length ≤ line then some (.dat (.tup (xs ++ ys))) else none := by
  show addL (.dat (.tup xs)) (.dat (.tup ys)) = _
  simp [addL, MV.list, MV.tup, mkT, MV.of]
@[simp] theorem bin_al : bin .add (.lst xs) (.lst ys) = if xs.length + ys.length ≤ line then some (.lst (xs ++ ys)) else none := rfl
@[simp] theorem bin_abl : bin .add (.blst xs) (.lst ys) = if xs.length + ys.length ≤ line then some (.lst (xs ++ ys)) else none := rfl
@[simp] theorem bin_adl : bin .add (.dat (.lst xs)) (.lst ys) = if xs.length + ys.length ≤ line then some (.lst (xs ++ ys)) else none := rfl
@[simp] theorem truth_bl (b : Bool) : truth (.bl b) = some b := rfl
@[simp] theorem truth_non : truth .non = some false := rfl
@[simp] theorem una_not (m : MV) : una .not m = (truth m.fz).map fun b => .dat (.bl (!b)) := by cases m <;> rfl
@[simp] theorem una_neg : una .neg (.dat (.int i)) = some (.dat (.int (-i))) := rfl
@[simp] theorem cmp_lt : cmp .lt (.int i) (.int j) = some (decide (i < j)) := rfl
@[simp] theorem cmp_le : cmp .le (.int i) (.int j) = some (decide (i ≤ j)) := rfl
@[simp] theorem cmp_gt : cmp .gt (.int i) (.int j) = some (decide (j < i)) := rfl
@[simp] theorem cmp_ge : cmp .ge (.int i) (.int j) = some (decide (j ≤ i)) := rfl
@[simp] theorem cmp_in : cmp .isin a b = isIn a b := by cases a <;> cases b <;> rfl
@[simp] theorem cmp_nin : cmp .notin a b = (isIn a b).map (!·) := by cases a <;> cases b <;> rfl
@[simp] theorem cmp_eq : cmp .eq a b = if a.ok && b.ok then some (eqD a b) else none := by cases a <;> cases b <;> rfl
@[simp] theorem cmp_ne : cmp .ne a b = if a.ok && b.ok then some (!eqD a b) else none := by cases a <;> cases b <;> rfl
@[simp] theorem cmp_is : cmp .is a .non = some (match a with | .non => true | _ => false) := by cases a <;> rfl
@[simp] theorem cmp_isn : cmp .isnot a .non = some (match a with | .non => false | _ => true) := by cases a <;> rfl
@[simp] theorem bi_isi (t : Ty) (m : MV) : bi (.isi t) [m] = some (.dat (.bl (isTy t m.fz))) := rfl
@[simp] theorem bi_len (m : MV) : bi .len [m] = (match m.fz with
    | .str s => if s.length ≤ line then some (.dat (.int s.length)) else none
    | .lst xs => some (.dat (.int xs.length))
    | .tup xs => some (.dat (.int xs.length))
    | .dic k => some (.dat (.int k.length))
    | _ => none) := rfl
@[simp] theorem isTy_int_int : isTy .int (.int i) = true := rfl
@[simp] theorem isTy_int_bl (b : Bool) : isTy .int (.bl b) = true := rfl
@[simp] theorem isTy_int_non : isTy .int .non = false := rfl
@[simp] theorem isTy_int_str : isTy .int (.str s) = false := rfl
@[simp] theorem isTy_int_tup : isTy .int (.tup xs) = false := rfl
@[simp] theorem isTy_int_lst : isTy .int (.lst xs) = false := rfl
@[simp] theorem isTy_int_dic (k : List (Key × D)) : isTy .int (.dic k) = false := rfl
@[simp] theorem isTy_bool_int : isTy .bool (.int i) = false := rfl
@[simp] theorem isTy_bool_bl (b : Bool) : isTy .bool (.bl b) = true := rfl
@[simp] theorem isTy_str_int : isTy .str (.int i) = false := rfl
@[simp] theorem isTy_str_bl (b : Bool) : isTy .str (.bl b) = false := rfl
@[simp] theorem isTy_str_non : isTy .str .non = false := rfl
@[simp] theorem isTy_str_str : isTy .str (.str s) = true := rfl
@[simp] theorem isTy_str_tup : isTy .str (.tup xs) = false := rfl
@[simp] theorem isTy_str_lst : isTy .str (.lst xs) = false := rfl
@[simp] theorem isTy_str_dic (k : List (Key × D)) : isTy .str (.dic k) = false := rfl
@[simp] theorem isTy_tup_int : isTy .tuple (.int i) = false := rfl
@[simp] theorem isTy_tup_bl (b : Bool) : isTy .tuple (.bl b) = false := rfl
@[simp] theorem isTy_tup_non : isTy .tuple .non = false := rfl
@[simp] theorem isTy_tup_str : isTy .tuple (.str s) = false := rfl
@[simp] theorem isTy_tup_tup : isTy .tuple (.tup xs) = true := rfl
@[simp] theorem isTy_tup_lst : isTy .tuple (.lst xs) = false := rfl
@[simp] theorem isTy_tup_dic (k : List (Key × D)) : isTy .tuple (.dic k) = false := rfl
end
def runEnd (args : List MV) : R Flow → Option (Except Exc MV × List MV)
  | none => none
  | some (.error x, r) => some (.error x, keepOwn args r)
  | some (.ok .nx, r) => some (.ok (.dat .non), keepOwn args r)
  | some (.ok (.ret m), r) => some (.ok m, keepOwn args r)
  | some (.ok _, _) => none
@[simp] theorem runEnd_nx (args : List MV) (r : Env) : runEnd args (some (.ok .nx, r)) = some (.ok (.dat .non), keepOwn args r) := rfl
@[simp] theorem runEnd_ret (args : List MV) (m : MV) (r : Env) : runEnd args (some (.ok (.ret m), r)) = some (.ok m, keepOwn args r) := rfl
theorem run_of {fns : Nat → Option Fn} {glob : Nat → Option D} {wf k f np ns : Nat} {b : List CS} {args : List MV} (h : fns f = some ⟨np, ns, b⟩) (hl : args.length = np) (hk : ownKeep b args 0 = true) :
    run fns glob wf (k + 1) f args = runEnd args (execs (run fns glob wf k) glob wf b (args ++ List.replicate (ns - np) .no)) := by
  simp only [run, h, hl, hk, decide_true, Bool.and_self, if_true]
  rfl
theorem ownKeep_dat {b : List CS} : ∀ {ms : List MV} {i : Nat}, ms.all (fun m => !m.own) = true → ownKeep b ms i = true
  | [], _, _ => rfl
  | m :: ms, i, h => by
    simp only [List.all_cons, Bool.and_eq_true] at h
    simp only [ownKeep, h.1, Bool.true_or, Bool.true_and]
    exact ownKeep_dat h.2
end M
namespace K05
open M PySem
def c_is_count : List CS := [(.ret (.and (.bi (.isi .int) (.cons (.var 0) .nil)) (.and (.una .not (.bi (.isi .bool) (.cons (.var 0) .nil))) (.chn .le .le (.var 1) (.var 0) (.glo 4)))))]
def x_is_name_0 : CE := (.cmp .isin (.var 1) (.bin .add (.glo 1) (.glo 2)))
def c_is_name : List CS := [(.ite (.or (.una .not (.bi (.isi .str) (.cons (.var 0) .nil))) (.or (.una .not (.chn .le .le (.con (.int 1)) (.bi .len (.cons (.var 0) .nil)) (.glo 3))) (.cmp .isin (.var 0) (.glo 0)))) [(.ret (.con (.bl false)))] []),
  (.ret (.and (.cmp .isin (.idx (.var 0) (.con (.int 0))) (.glo 1)) (.bi .all1 (.cons (.lc [1] (.nm 1) (.over (.var 0)) .no x_is_name_0) .nil))))]
def b_are_parts_0 : List CS := [(.ite (.or (.una .not (.bi (.isi .tuple) (.cons (.var 1) .nil))) (.or (.cmp .ne (.bi .len (.cons (.var 1) .nil)) (.con (.int 2))) (.or (.una .not (.call 1 (.val (.idx (.var 1) (.con (.int 0))) .nil))) (.una .not (.call 0 (.val (.idx (.var 1) (.con (.int 1))) (.val (.con (.int 1)) .nil))))))) [(.ret (.con (.bl false)))] [])]
def c_are_parts : List CS := [(.ite (.una .not (.bi (.isi .tuple) (.cons (.var 0) .nil))) [(.ret (.con (.bl false)))] []),
  (.for (.nm 1) (.over (.var 0)) b_are_parts_0),
  (.ret (.con (.bl true)))]
def c_is_place : List CS := [(.ite (.or (.una .not (.bi (.isi .tuple) (.cons (.var 0) .nil))) (.cmp .ne (.bi .len (.cons (.var 0) .nil)) (.con (.int 2)))) [(.ret (.con (.bl false)))] []),
  (.ret (.and (.call 1 (.val (.idx (.var 0) (.con (.int 0))) .nil)) (.and (.cmp .notin (.idx (.var 0) (.con (.int 0))) (.var 1)) (.call 0 (.val (.idx (.var 0) (.con (.int 1))) (.val (.con (.int 0)) .nil))))))]
def c_is_firing : List CS := [(.ite (.or (.una .not (.bi (.isi .tuple) (.cons (.var 0) .nil))) (.or (.cmp .ne (.bi .len (.cons (.var 0) .nil)) (.con (.int 4))) (.or (.una .not (.call 1 (.val (.idx (.var 0) (.con (.int 0))) .nil))) (.cmp .isin (.idx (.var 0) (.con (.int 0))) (.var 1))))) [(.ret (.con (.bl false)))] []),
  (.ite (.and (.una .not (.call 1 (.val (.idx (.var 0) (.con (.int 1))) .nil))) (.una .not (.and (.bi (.isi .str) (.cons (.idx (.var 0) (.con (.int 1))) .nil)) (.cmp .eq (.idx (.var 0) (.con (.int 1))) (.con (.str ⟨#[]⟩)))))) [(.ret (.con (.bl false)))] []),
  (.ret (.and (.call 2 (.val (.idx (.var 0) (.con (.int 2))) .nil)) (.call 2 (.val (.idx (.var 0) (.con (.int 3))) .nil))))]
def b_part_wrong_0 : List CS := [(.ite (.or (.cmp .notin (.var 5) (.var 1)) (.cmp .le (.idx (.var 1) (.var 5)) (.var 4))) [(.ret (.var 2))] []),
  (.asg true (.nm 4) (.idx (.var 1) (.var 5))),
  (.aug .add 2 (.con (.int 1)))]
def b_part_wrong_1 : List CS := [(.asg true (.nm 4) (.una .neg (.con (.int 1)))),
  (.for (.tp (.cons (.nm 5) (.cons (.nm 6) .nil))) (.over (.var 3)) b_part_wrong_0)]
def c_part_wrong : List CS := [(.asg true (.nm 2) (.con (.int 0))),
  (.for (.nm 3) (.over (.sli (.var 0) (.so (.con (.int 2))) .no)) b_part_wrong_1),
  (.ret (.con .non))]
def b_net_wrong_0 : List CS := [(.ite (.una .not (.call 3 (.val (.var 3) (.val (.var 1) .nil)))) [(.ret (.tup (.cons (.con (.str ⟨#[112, 108, 97, 99, 101]⟩)) (.cons (.var 2) .nil))))] []),
  (.seti 1 (.idx (.var 3) (.con (.int 0))) (.var 2))]
def b_net_wrong_1 : List CS := [(.ite (.una .not (.call 4 (.val (.var 5) (.val (.var 4) .nil)))) [(.ret (.tup (.cons (.con (.str ⟨#[102, 105, 114, 105, 110, 103]⟩)) (.cons (.var 2) .nil))))] []),
  (.seti 4 (.idx (.var 5) (.con (.int 0))) (.var 2)),
  (.asg true (.nm 6) (.call 5 (.val (.var 5) (.val (.var 1) .nil)))),
  (.ite (.cmp .isnot (.var 6) (.con .non)) [(.ret (.tup (.cons (.con (.str ⟨#[112, 97, 114, 116]⟩)) (.cons (.var 2) (.cons (.var 6) .nil)))))] [])]
def c_net_wrong : List CS := [(.ite (.or (.una .not (.bi (.isi .tuple) (.cons (.var 0) .nil))) (.cmp .ne (.bi .len (.cons (.var 0) .nil)) (.con (.int 2)))) [(.ret (.tup (.cons (.con (.str ⟨#[110, 101, 116]⟩)) .nil)))] []),
  (.ite (.or (.una .not (.bi (.isi .tuple) (.cons (.idx (.var 0) (.con (.int 0))) .nil))) (.or (.una .not (.bi (.isi .tuple) (.cons (.idx (.var 0) (.con (.int 1))) .nil))) (.cmp .eq (.idx (.var 0) (.con (.int 0))) (.tup .nil)))) [(.ret (.tup (.cons (.con (.str ⟨#[110, 101, 116]⟩)) .nil)))] []),
  (.asg false (.nm 1) .dict0),
  (.for (.tp (.cons (.nm 2) (.cons (.nm 3) .nil))) (.enm (.idx (.var 0) (.con (.int 0)))) b_net_wrong_0),
  (.asg false (.nm 4) .dict0),
  (.for (.tp (.cons (.nm 2) (.cons (.nm 5) .nil))) (.enm (.idx (.var 0) (.con (.int 1)))) b_net_wrong_1),
  (.ite (.or (.cmp .gt (.bi .len (.cons (.idx (.var 0) (.con (.int 0))) .nil)) (.glo 5)) (.cmp .gt (.bi .len (.cons (.idx (.var 0) (.con (.int 1))) .nil)) (.glo 6))) [(.ret (.tup (.cons (.con (.str ⟨#[103, 114, 101, 97, 116]⟩)) .nil)))] []),
  (.ret (.con .non))]
def c_law_mixed : List CS := [(.asg true (.nm 2) (.bin .add (.bin .add (.bin .mul (.bin .add (.bin .mod (.var 0) (.bin .add (.bin .pow (.con (.int 10)) (.con (.int 18))) (.con (.int 9)))) (.bin .mul (.con (.int 7)) (.var 1))) (.con (.int 739108512309184756019283746561))) (.bin .mul (.con (.int 7919)) (.var 1))) (.con (.int 1)))),
  (.asg true (.nm 2) (.bin .mod (.bin .mul (.var 2) (.var 2)) (.bin .add (.bin .pow (.con (.int 10)) (.con (.int 60))) (.con (.int 7))))),
  (.ret (.bin .mod (.bin .mul (.bin .add (.var 2) (.con (.int 40503))) (.bin .add (.var 2) (.con (.int 57)))) (.bin .add (.bin .pow (.con (.int 10)) (.con (.int 60))) (.con (.int 7)))))]
def c_law_purse : List CS := [(.ite (.cmp .ge (.var 0) (.bin .pow (.con (.int 10)) (.con (.int 18)))) [(.ret (.lst (.cons (.bin .mod (.bin .sub (.var 0) (.bin .pow (.con (.int 10)) (.con (.int 18)))) (.bin .pow (.bin .pow (.con (.int 10)) (.con (.int 60))) (.con (.int 10)))) (.cons (.con (.int 0)) (.cons (.var 1) .nil)))))] []),
  (.ret (.lst (.cons (.call 7 (.val (.var 0) (.val (.var 1) .nil))) (.cons (.con (.int 0)) (.cons (.bin .add (.bin .mod (.var 0) (.bin .add (.bin .pow (.con (.int 10)) (.con (.int 18))) (.con (.int 9)))) (.var 1)) .nil)))))]
def c_law_take : List CS := [(.ite (.cmp .lt (.idx (.var 0) (.con (.int 0))) (.var 1)) [(.seti 0 (.con (.int 1)) (.bin .add (.idx (.var 0) (.con (.int 1))) (.con (.int 1)))),
  (.seti 0 (.con (.int 0)) (.bin .add (.idx (.var 0) (.con (.int 0))) (.bin .mul (.var 1) (.call 7 (.val (.idx (.var 0) (.con (.int 2))) (.val (.bin .add (.bin .mul (.con (.int 11)) (.idx (.var 0) (.con (.int 1)))) (.con (.int 5))) .nil))))))] []),
  (.asg true (.nm 2) (.bin .mod (.idx (.var 0) (.con (.int 0))) (.var 1))),
  (.seti 0 (.con (.int 0)) (.bin .fdiv (.idx (.var 0) (.con (.int 0))) (.var 1))),
  (.ret (.var 2))]
def c_law_at : List CS := [(.ite (.cmp .lt (.var 1) (.bi .len (.cons (.var 0) .nil))) [(.ret (.idx (.var 0) (.var 1)))] []),
  (.ret (.bin .add (.bin .mul (.con (.int 3)) (.var 1)) (.con (.int 1))))]
def c_law_pick : List CS := [(.ret (.idx (.var 1) (.call 9 (.ref 0 (.val (.bi .len (.cons (.var 1) .nil)) .nil)))))]
def c_law_names : List CS := [(.ret (.me .split (.con (.str ⟨#[97, 32, 98, 32, 99, 50, 32, 112, 49, 32, 119, 97, 105, 116, 32, 103, 111, 32, 120, 32, 121, 57, 32, 97, 98, 99, 100, 101, 102, 103, 104, 32, 122, 122, 32, 114, 101, 97, 100, 121, 32, 113, 55, 32, 97, 97, 32, 114, 117, 110, 56, 32, 101, 110, 100, 32, 115, 116, 97, 114, 116, 48, 32, 112, 108, 49, 32, 102, 105, 114, 101, 115, 32, 97, 115, 120]⟩)) (.cons (.con (.str ⟨#[32]⟩)) .nil)))]
def x_law_some_names_0 : CE := (.mu .popAt 2 (.cons (.call 9 (.ref 0 (.val (.bi .len (.cons (.var 2) .nil)) .nil))) .nil))
def c_law_some_names : List CS := [(.asg false (.nm 2) (.call 12 .nil)),
  (.ret (.lc [3] (.nm 3) (.rng1 (.var 1)) .no x_law_some_names_0))]
def c_law_count : List CS := [(.ret (.bi .max2 (.cons (.var 1) (.cons (.call 11 (.ref 0 (.val (.lst (.cons (.con (.int 0)) (.cons (.con (.int 1)) (.cons (.con (.int 1)) (.cons (.con (.int 2)) (.cons (.con (.int 3)) (.cons (.con (.int 7)) (.cons (.con (.int 10)) (.cons (.con (.int 305)) (.cons (.con (.int 999999999)) .nil)))))))))) .nil))) .nil))))]
def o_law_parts_0 : CO := (.so (.cmp .eq (.call 9 (.ref 0 (.val (.con (.int 3)) .nil))) (.con (.int 0))))
def x_law_parts_0 : CE := (.var 3)
def x_law_parts_1 : CE := (.tup (.cons (.var 3) (.cons (.call 14 (.ref 0 (.val (.con (.int 1)) .nil))) .nil)))
def c_law_parts : List CS := [(.asg true (.nm 2) (.lc [3] (.nm 3) (.over (.var 1)) o_law_parts_0 x_law_parts_0)),
  (.ret (.bi .tuple1 (.cons (.lc [3] (.nm 3) (.over (.var 2)) .no x_law_parts_1) .nil)))]
def x_law_net_0 : CE := (.tup (.cons (.var 4) (.cons (.call 14 (.ref 0 (.val (.con (.int 0)) .nil))) .nil)))
def b_law_net_0 : List CS := [(.asg true (.nm 5) (.call 11 (.ref 0 (.val (.lst (.cons (.con (.str ⟨#[]⟩)) (.cons (.con (.str ⟨#[]⟩)) (.cons (.con (.str ⟨#[97]⟩)) (.cons (.con (.str ⟨#[108, 97, 98, 49]⟩)) (.cons (.var 4) (.cons (.con (.str ⟨#[103, 111]⟩)) .nil))))))) .nil)))),
  (.asg true (.nm 6) (.call 15 (.ref 0 (.val (.var 1) .nil)))),
  (.exp (.mu .append 3 (.cons (.tup (.cons (.var 4) (.cons (.var 5) (.cons (.var 6) (.cons (.call 15 (.ref 0 (.val (.var 1) .nil))) .nil))))) .nil)))]
def c_law_net : List CS := [(.asg true (.nm 1) (.call 13 (.ref 0 (.val (.bin .add (.con (.int 1)) (.call 9 (.ref 0 (.val (.con (.int 6)) .nil)))) .nil)))),
  (.asg true (.nm 2) (.bi .tuple1 (.cons (.lc [4] (.nm 4) (.over (.var 1)) .no x_law_net_0) .nil))),
  (.asg false (.nm 3) (.lst .nil)),
  (.for (.nm 4) (.over (.call 13 (.ref 0 (.val (.call 9 (.ref 0 (.val (.con (.int 6)) .nil))) .nil)))) b_law_net_0),
  (.ret (.tup (.cons (.var 2) (.cons (.bi .tuple1 (.cons (.var 3) .nil)) .nil))))]
def c_law_is_name : List CS := [(.ite (.or (.una .not (.bi (.isi .str) (.cons (.var 0) .nil))) (.or (.cmp .isin (.var 0) (.tup (.cons (.con (.str ⟨#[112, 108, 97, 99, 101]⟩)) (.cons (.con (.str ⟨#[102, 105, 114, 101]⟩)) (.cons (.con (.str ⟨#[97, 115]⟩)) .nil))))) (.or (.una .not (.me .isalnum (.var 0) .nil)) (.cmp .gt (.bi .len (.cons (.var 0) .nil)) (.con (.int 8)))))) [(.ret (.con (.bl false)))] []),
  (.ret (.and (.me .isalpha (.idx (.var 0) (.con (.int 0))) .nil) (.cmp .eq (.var 0) (.me .lower (.var 0) .nil))))]
def c_law_is_whole : List CS := [(.ret (.and (.bi (.isi .int) (.cons (.var 0) .nil)) (.and (.una .not (.bi (.isi .bool) (.cons (.var 0) .nil))) (.and (.cmp .ge (.var 0) (.var 1)) (.cmp .lt (.var 0) (.bin .pow (.con (.int 10)) (.con (.int 9))))))))]
def c_law_is_tuple : List CS := [(.ret (.and (.bi (.isi .tuple) (.cons (.var 0) .nil)) (.cmp .eq (.bi .len (.cons (.var 0) .nil)) (.var 1))))]
def o_law_are_parts_0 : CO := (.so (.and (.call 19 (.val (.var 2) (.val (.con (.int 2)) .nil))) (.and (.call 17 (.val (.idx (.var 2) (.con (.int 0))) .nil)) (.call 18 (.val (.idx (.var 2) (.con (.int 1))) (.val (.con (.int 1)) .nil))))))
def x_law_are_parts_0 : CE := (.var 2)
def c_law_are_parts : List CS := [(.ite (.una .not (.bi (.isi .tuple) (.cons (.var 0) .nil))) [(.ret (.con (.bl false)))] []),
  (.asg true (.nm 1) (.lc [2] (.nm 2) (.over (.var 0)) o_law_are_parts_0 x_law_are_parts_0)),
  (.ret (.cmp .eq (.bi .len (.cons (.var 1) .nil)) (.bi .len (.cons (.var 0) .nil))))]
def b_law_due_0 : List CS := [(.ite (.or (.una .not (.call 19 (.val (.var 3) (.val (.con (.int 2)) .nil)))) (.or (.una .not (.call 17 (.val (.idx (.var 3) (.con (.int 0))) .nil))) (.una .not (.call 18 (.val (.idx (.var 3) (.con (.int 1))) (.val (.con (.int 0)) .nil)))))) [(.ret (.tup (.cons (.con (.str ⟨#[112, 108, 97, 99, 101]⟩)) (.cons (.var 2) .nil))))] []),
  (.ite (.cmp .isin (.idx (.var 3) (.con (.int 0))) (.var 1)) [(.ret (.tup (.cons (.con (.str ⟨#[112, 108, 97, 99, 101]⟩)) (.cons (.var 2) .nil))))] []),
  (.exp (.mu .append 1 (.cons (.idx (.var 3) (.con (.int 0))) .nil)))]
def x_law_due_0 : CE := (.idx (.var 9) (.con (.int 0)))
def b_law_due_1 : List CS := [(.asg true (.nm 8) (.sli (.lc [9] (.nm 9) (.over (.sli (.var 6) .no (.so (.var 7)))) .no x_law_due_0) (.so (.bin .mul (.bi .len (.cons (.idx (.var 5) (.con (.int 2))) .nil)) (.bi .int1 (.cons (.cmp .ge (.var 7) (.bi .len (.cons (.idx (.var 5) (.con (.int 2))) .nil))) .nil)))) .no)),
  (.ite (.cmp .notin (.idx (.idx (.var 6) (.var 7)) (.con (.int 0))) (.var 1)) [(.ret (.tup (.cons (.con (.str ⟨#[112, 97, 114, 116]⟩)) (.cons (.var 2) (.cons (.var 7) .nil)))))] []),
  (.ite (.and (.cmp .ne (.var 8) (.lst .nil)) (.cmp .ge (.me .index (.var 1) (.cons (.idx (.var 8) (.una .neg (.con (.int 1)))) .nil)) (.me .index (.var 1) (.cons (.idx (.idx (.var 6) (.var 7)) (.con (.int 0))) .nil)))) [(.ret (.tup (.cons (.con (.str ⟨#[112, 97, 114, 116]⟩)) (.cons (.var 2) (.cons (.var 7) .nil)))))] [])]
def b_law_due_2 : List CS := [(.ite (.or (.una .not (.call 19 (.val (.var 5) (.val (.con (.int 4)) .nil)))) (.or (.una .not (.call 17 (.val (.idx (.var 5) (.con (.int 0))) .nil))) (.cmp .isin (.idx (.var 5) (.con (.int 0))) (.var 4)))) [(.ret (.tup (.cons (.con (.str ⟨#[102, 105, 114, 105, 110, 103]⟩)) (.cons (.var 2) .nil))))] []),
  (.ite (.and (.una .not (.call 17 (.val (.idx (.var 5) (.con (.int 1))) .nil))) (.una .not (.and (.bi (.isi .str) (.cons (.idx (.var 5) (.con (.int 1))) .nil)) (.cmp .eq (.idx (.var 5) (.con (.int 1))) (.con (.str ⟨#[]⟩)))))) [(.ret (.tup (.cons (.con (.str ⟨#[102, 105, 114, 105, 110, 103]⟩)) (.cons (.var 2) .nil))))] []),
  (.ite (.or (.una .not (.call 20 (.val (.idx (.var 5) (.con (.int 2))) .nil))) (.una .not (.call 20 (.val (.idx (.var 5) (.con (.int 3))) .nil)))) [(.ret (.tup (.cons (.con (.str ⟨#[102, 105, 114, 105, 110, 103]⟩)) (.cons (.var 2) .nil))))] []),
  (.exp (.mu .append 4 (.cons (.idx (.var 5) (.con (.int 0))) .nil))),
  (.asg true (.nm 6) (.bin .add (.idx (.var 5) (.con (.int 2))) (.idx (.var 5) (.con (.int 3))))),
  (.for (.nm 7) (.rng1 (.bi .len (.cons (.var 6) .nil))) b_law_due_1)]
def c_law_due : List CS := [(.ite (.or (.una .not (.call 19 (.val (.var 0) (.val (.con (.int 2)) .nil)))) (.or (.una .not (.bi (.isi .tuple) (.cons (.idx (.var 0) (.con (.int 0))) .nil))) (.una .not (.bi (.isi .tuple) (.cons (.idx (.var 0) (.con (.int 1))) .nil))))) [(.ret (.tup (.cons (.con (.str ⟨#[110, 101, 116]⟩)) .nil)))] []),
  (.ite (.cmp .eq (.idx (.var 0) (.con (.int 0))) (.tup .nil)) [(.ret (.tup (.cons (.con (.str ⟨#[110, 101, 116]⟩)) .nil)))] []),
  (.asg false (.nm 1) (.lst .nil)),
  (.for (.tp (.cons (.nm 2) (.cons (.nm 3) .nil))) (.enm (.idx (.var 0) (.con (.int 0)))) b_law_due_0),
  (.asg false (.nm 4) (.lst .nil)),
  (.for (.tp (.cons (.nm 2) (.cons (.nm 5) .nil))) (.enm (.idx (.var 0) (.con (.int 1)))) b_law_due_2),
  (.ite (.or (.cmp .gt (.bi .len (.cons (.idx (.var 0) (.con (.int 0))) .nil)) (.con (.int 40))) (.cmp .gt (.bi .len (.cons (.idx (.var 0) (.con (.int 1))) .nil)) (.con (.int 60)))) [(.ret (.tup (.cons (.con (.str ⟨#[103, 114, 101, 97, 116]⟩)) .nil)))] []),
  (.ret (.con .non))]
def c_law_odd_thing : List CS := [(.asg true (.nm 1) (.lst (.cons (.con .non) (.cons (.con (.bl true)) (.cons (.con (.bl false)) (.cons (.con (.int 0)) (.cons (.con (.int 1)) (.cons (.una .neg (.con (.int 1))) (.cons (.bin .pow (.con (.int 10)) (.con (.int 9))) (.cons (.con (.int 999999999)) (.cons (.con (.str ⟨#[]⟩)) (.cons (.con (.str ⟨#[97]⟩)) (.cons (.con (.str ⟨#[97, 98, 99, 100, 101, 102, 103, 104, 105]⟩)) (.cons (.con (.str ⟨#[65]⟩)) (.cons (.con (.str ⟨#[97, 32, 98]⟩)) (.cons (.con (.str ⟨#[112, 108, 97, 99, 101]⟩)) (.cons (.con (.str ⟨#[97, 115]⟩)) (.cons (.con (.str ⟨#[57, 97]⟩)) (.cons (.tup .nil) .nil))))))))))))))))))),
  (.asg true (.nm 1) (.bin .add (.var 1) (.lst (.cons (.lst .nil) (.cons (.tup (.cons (.con (.str ⟨#[97]⟩)) (.cons (.con (.int 1)) .nil))) (.cons (.tup (.cons (.con (.str ⟨#[97]⟩)) (.cons (.con (.int 0)) .nil))) (.cons (.tup (.cons (.con (.str ⟨#[98]⟩)) (.cons (.con (.int 2)) .nil))) (.cons (.lst (.cons (.tup (.cons (.con (.str ⟨#[97]⟩)) (.cons (.con (.int 1)) .nil))) .nil)) (.cons (.tup (.cons (.tup (.cons (.con (.str ⟨#[97]⟩)) (.cons (.con (.int 1)) .nil))) .nil)) (.cons (.tup (.cons (.tup (.cons (.con (.str ⟨#[97]⟩)) (.cons (.con (.int 1)) .nil))) (.cons (.tup (.cons (.con (.str ⟨#[97]⟩)) (.cons (.con (.int 1)) .nil))) .nil))) (.cons (.tup (.cons (.tup .nil) (.cons (.tup .nil) .nil))) .nil))))))))))),
  (.asg true (.nm 1) (.bin .add (.var 1) (.lst (.cons (.tup (.cons (.con (.str ⟨#[97]⟩)) .nil)) (.cons (.con (.str ⟨#[99, 50]⟩)) (.cons (.con (.int 7)) .nil)))))),
  (.ret (.idx (.var 1) (.call 9 (.ref 0 (.val (.bi .len (.cons (.var 1) .nil)) .nil)))))]
def c_law_bent : List CS := [(.ite (.or (.una .not (.bi (.isi .tuple) (.cons (.var 1) .nil))) (.or (.cmp .eq (.var 1) (.tup .nil)) (.cmp .eq (.call 9 (.ref 0 (.val (.con (.int 5)) .nil))) (.con (.int 0))))) [(.ret (.call 22 (.ref 0 .nil)))] []),
  (.asg true (.nm 2) (.call 9 (.ref 0 (.val (.bi .len (.cons (.var 1) .nil)) .nil)))),
  (.asg true (.nm 3) (.call 9 (.ref 0 (.val (.con (.int 9)) .nil)))),
  (.ite (.cmp .eq (.var 3) (.con (.int 0))) [(.ret (.bin .add (.sli (.var 1) .no (.so (.var 2))) (.sli (.var 1) (.so (.bin .add (.var 2) (.con (.int 1)))) .no)))] []),
  (.ite (.cmp .eq (.var 3) (.con (.int 1))) [(.ret (.bin .add (.sli (.var 1) .no (.so (.bin .add (.var 2) (.con (.int 1))))) (.sli (.var 1) (.so (.var 2)) .no)))] []),
  (.ite (.cmp .eq (.var 3) (.con (.int 2))) [(.ret (.bi .list1 (.cons (.var 1) .nil)))] []),
  (.ite (.cmp .eq (.var 3) (.con (.int 3))) [(.asg true (.nm 4) (.call 9 (.ref 0 (.val (.bi .len (.cons (.var 1) .nil)) .nil)))),
  (.asg false (.nm 5) (.bi .list1 (.cons (.var 1) .nil))),
  (.seti 5 (.var 2) (.idx (.var 1) (.var 4))),
  (.seti 5 (.var 4) (.idx (.var 1) (.var 2))),
  (.ret (.bi .tuple1 (.cons (.var 5) .nil)))] []),
  (.ret (.bin .add (.bin .add (.sli (.var 1) .no (.so (.var 2))) (.tup (.cons (.call 23 (.ref 0 (.val (.idx (.var 1) (.var 2)) .nil))) .nil))) (.sli (.var 1) (.so (.bin .add (.var 2) (.con (.int 1)))) .no)))]
def b_law_0 : List CS := [(.asg true (.nm 5) (.call 23 (.ref 2 (.val (.var 5) .nil))))]
def b_law_1 : List CS := [(.asg true (.nm 5) (.var 3)),
  (.for (.nm 6) (.rng1 (.bin .add (.con (.int 1)) (.call 9 (.ref 2 (.val (.con (.int 3)) .nil))))) b_law_0),
  (.asg true (.nm 7) (.bi .str1 (.cons (.var 5) .nil))),
  (.asg true (.nm 8) (.call 21 (.val (.var 5) .nil))),
  (.ite (.or (.cmp .ne (.call 6 (.val (.var 5) .nil)) (.var 8)) (.or (.cmp .ne (.callk 6 [0] (.val (.var 5) .nil)) (.var 8)) (.cmp .ne (.bi .str1 (.cons (.var 5) .nil)) (.var 7)))) [(.ret (.con (.bl false)))] [])]
def b_law_2 : List CS := [(.asg false (.nm 2) (.call 8 (.val (.call 10 (.val (.var 0) (.val (.var 1) .nil))) (.val (.var 1) .nil)))),
  (.asg true (.nm 3) (.call 16 (.ref 2 .nil))),
  (.ite (.cmp .isnot (.call 6 (.val (.var 3) .nil)) (.con .non)) [(.ret (.con (.bl false)))] []),
  (.for (.nm 4) (.rng1 (.con (.int 6))) b_law_1)]
def c_law : List CS := [(.for (.nm 1) (.rng1 (.bin .add (.con (.int 2)) (.bi .min2 (.cons (.bi .len (.cons (.var 0) .nil)) (.cons (.con (.int 4)) .nil))))) b_law_2),
  (.ret (.con (.bl true)))]
def fns : Nat → Option Fn
  | 0 => some ⟨2, 2, c_is_count⟩
  | 1 => some ⟨1, 2, c_is_name⟩
  | 2 => some ⟨1, 2, c_are_parts⟩
  | 3 => some ⟨2, 2, c_is_place⟩
  | 4 => some ⟨2, 2, c_is_firing⟩
  | 5 => some ⟨2, 7, c_part_wrong⟩
  | 6 => some ⟨1, 7, c_net_wrong⟩
  | 7 => some ⟨2, 3, c_law_mixed⟩
  | 8 => some ⟨2, 2, c_law_purse⟩
  | 9 => some ⟨2, 3, c_law_take⟩
  | 10 => some ⟨2, 2, c_law_at⟩
  | 11 => some ⟨2, 2, c_law_pick⟩
  | 12 => some ⟨0, 0, c_law_names⟩
  | 13 => some ⟨2, 4, c_law_some_names⟩
  | 14 => some ⟨2, 2, c_law_count⟩
  | 15 => some ⟨2, 4, c_law_parts⟩
  | 16 => some ⟨1, 7, c_law_net⟩
  | 17 => some ⟨1, 1, c_law_is_name⟩
  | 18 => some ⟨2, 2, c_law_is_whole⟩
  | 19 => some ⟨2, 2, c_law_is_tuple⟩
  | 20 => some ⟨1, 3, c_law_are_parts⟩
  | 21 => some ⟨1, 10, c_law_due⟩
  | 22 => some ⟨1, 2, c_law_odd_thing⟩
  | 23 => some ⟨2, 6, c_law_bent⟩
  | 24 => some ⟨1, 9, c_law⟩
  | _ => none
def globs : Nat → Option D
  | 4 => some (.int 999999999)
  | 3 => some (.int 8)
  | 0 => some (.tup [(.str ⟨#[112, 108, 97, 99, 101]⟩), (.str ⟨#[102, 105, 114, 101]⟩), (.str ⟨#[97, 115]⟩)])
  | 1 => some (.str ⟨#[97, 98, 99, 100, 101, 102, 103, 104, 105, 106, 107, 108, 109, 110, 111, 112, 113, 114, 115, 116, 117, 118, 119, 120, 121, 122]⟩)
  | 2 => some (.str ⟨#[48, 49, 50, 51, 52, 53, 54, 55, 56, 57]⟩)
  | 5 => some (.int 40)
  | 6 => some (.int 60)
  | _ => none
end K05
set_option Elab.async false
set_option linter.all false
set_option maxRecDepth 100000
set_option maxHeartbeats 1000000
set_option autoImplicit false
namespace K05
open M
def wds : List PySem.Str := [⟨#[97]⟩, ⟨#[98]⟩, ⟨#[99, 50]⟩, ⟨#[112, 49]⟩, ⟨#[119, 97, 105, 116]⟩, ⟨#[103, 111]⟩, ⟨#[120]⟩, ⟨#[121, 57]⟩, ⟨#[97, 98, 99, 100, 101, 102, 103, 104]⟩, ⟨#[122, 122]⟩, ⟨#[114, 101, 97, 100, 121]⟩, ⟨#[113, 55]⟩, ⟨#[97, 97]⟩, ⟨#[114, 117, 110, 56]⟩, ⟨#[101, 110, 100]⟩, ⟨#[115, 116, 97, 114, 116, 48]⟩, ⟨#[112, 108, 49]⟩, ⟨#[102, 105, 114, 101, 115]⟩, ⟨#[97, 115, 120]⟩, ⟨#[]⟩, ⟨#[108, 97, 98, 49]⟩, ⟨#[97, 98, 99, 100, 101, 102, 103, 104, 105]⟩, ⟨#[65]⟩, ⟨#[97, 32, 98]⟩, ⟨#[112, 108, 97, 99, 101]⟩, ⟨#[97, 115]⟩, ⟨#[57, 97]⟩]
def gnames : List PySem.Str := [⟨#[97]⟩, ⟨#[98]⟩, ⟨#[99, 50]⟩, ⟨#[112, 49]⟩, ⟨#[119, 97, 105, 116]⟩, ⟨#[103, 111]⟩, ⟨#[120]⟩, ⟨#[121, 57]⟩, ⟨#[97, 98, 99, 100, 101, 102, 103, 104]⟩, ⟨#[122, 122]⟩, ⟨#[114, 101, 97, 100, 121]⟩, ⟨#[113, 55]⟩, ⟨#[97, 97]⟩, ⟨#[114, 117, 110, 56]⟩, ⟨#[101, 110, 100]⟩, ⟨#[115, 116, 97, 114, 116, 48]⟩, ⟨#[112, 108, 49]⟩, ⟨#[102, 105, 114, 101, 115]⟩, ⟨#[97, 115, 120]⟩, ⟨#[108, 97, 98, 49]⟩]
theorem wds_all {P : PySem.Str → Prop} (h : ∀ s ∈ wds, P s) : ∀ s ∈ wds, P s := h
theorem run_is_name_str {wf k : Nat} : ∀ s ∈ wds, run fns globs wf (k + 1) 1 [.dat (.str s)] = some (.ok (.dat (.bl (decide (s ∈ gnames)))), [.dat (.str s)]) := by
  intro s hs
  simp only [wds, List.mem_cons, List.not_mem_nil, or_false] at hs
  rcases hs with rfl | rfl | rfl | rfl | rfl | rfl | rfl | rfl | rfl | rfl | rfl | rfl | rfl | rfl | rfl | rfl | rfl | rfl | rfl | rfl | rfl | rfl | rfl | rfl | rfl | rfl | rfl <;> kernel_rfl
theorem run_law_is_name_str {wf k : Nat} : ∀ s ∈ wds, run fns globs wf (k + 1) 17 [.dat (.str s)] = some (.ok (.dat (.bl (decide (s ∈ gnames)))), [.dat (.str s)]) := by
  intro s hs
  simp only [wds, List.mem_cons, List.not_mem_nil, or_false] at hs
  rcases hs with rfl | rfl | rfl | rfl | rfl | rfl | rfl | rfl | rfl | rfl | rfl | rfl | rfl | rfl | rfl | rfl | rfl | rfl | rfl | rfl | rfl | rfl | rfl | rfl | rfl | rfl | rfl <;> kernel_rfl
end K05
set_option Elab.async false
set_option linter.all false
set_option maxRecDepth 100000
set_option maxHeartbeats 2000000
set_option autoImplicit false
namespace K05
open M
theorem log2_lt {n p : Nat} (h : n < 2 ^ p) (hp : 0 < p) : n.log2 < p := by
  by_cases hn : n = 0
  · subst hn; simpa using hp
  · exact (Nat.log2_lt hn).mpr h
theorem log_small {i : Int} (h0 : 0 ≤ i) (h1 : i < 2 ^ 250) : i.natAbs.log2 < 250 := log2_lt (by omega) (by decide)
theorem mulOk_of {i j : Int} (hi : 0 ≤ i) (hi' : i < 2 ^ 250) (hj : 0 ≤ j) (hj' : j < 2 ^ 250) : mulOk i j = true := by
  unfold mulOk
  have h1 := log_small hi hi'
  have h2 := log_small hj hj'
  simp only [Bool.or_eq_true, decide_eq_true_eq]
  right
  omega
theorem mulOk_l {i j : Int} (h : i.natAbs < 2 ^ 64) : mulOk i j = true := by unfold mulOk; simp [h]
theorem run_mixed {wf k : Nat} (cell q : Int) (h0 : 0 ≤ q) (h1 : q < 2 ^ 80) : ∃ r : Int, 0 ≤ r ∧ r < 1000000000000000000000000000000000000000000000000000000000007 ∧ run fns globs wf (k + 1) 7 [.dat (.int cell), .dat (.int q)] = some (.ok (.dat (.int r)), [.dat (.int cell), .dat (.int q)]) := by
  rw [run_of (f := 7) rfl rfl (ownKeep_dat rfl)]
  have p1 : powOk 10 18 = true := by decide +kernel
  have p2 : powOk 10 60 = true := by decide +kernel
  have a1 : 0 ≤ cell % 1000000000000000009 ∧ cell % 1000000000000000009 < 1000000000000000009 := ⟨Int.emod_nonneg _ (by decide), Int.emod_lt_of_pos _ (by decide)⟩
  have m1 : mulOk 7 q = true := mulOk_l (by decide)
  have m2 : mulOk 7919 q = true := mulOk_l (by decide)
  have m3 : mulOk (cell % 1000000000000000009 + 7 * q) 739108512309184756019283746561 = true := mulOk_of (by omega) (by omega) (by decide) (by decide)
  generalize hB : (cell % 1000000000000000009 + 7 * q) * 739108512309184756019283746561 + 7919 * q + 1 = B
  have hB0 : 0 ≤ B ∧ B < 2 ^ 250 := by omega
  have m4 : mulOk B B = true := mulOk_of hB0.1 hB0.2 hB0.1 hB0.2
  generalize hC : B * B % 1000000000000000000000000000000000000000000000000000000000007 = C
  have hC0 : 0 ≤ C ∧ C < 1000000000000000000000000000000000000000000000000000000000007 := by subst hC; exact ⟨Int.emod_nonneg _ (by decide), Int.emod_lt_of_pos _ (by decide)⟩
  have m5 : mulOk (C + 40503) (C + 57) = true := mulOk_of (by omega) (by omega) (by omega) (by omega)
  refine ⟨(C + 40503) * (C + 57) % 1000000000000000000000000000000000000000000000000000000000007, Int.emod_nonneg _ (by decide), Int.emod_lt_of_pos _ (by decide), ?_⟩
  simp [c_law_mixed, p1, p2, m1, m2, m3, m4, m5, hB, hC, asg]
theorem ixN_nat {n i : Nat} (h : i < n) : L2.ixN n (i : Int) = some i := by
  unfold L2.ixN
  rw [if_pos (by omega), if_pos (by omega)]
  simp
theorem ix_nat {α : Type} {xs : List α} {i : Nat} (h : i < xs.length) : ix xs (i : Int) = some xs[i] := by
  unfold ix L2.atI
  rw [ixN_nat h]
  simp [h]
theorem ix0 {α : Type} (x : α) (xs : List α) : ix (x :: xs) 0 = some x := ix_nat (i := 0) (xs := x :: xs) (by simp)
theorem ix1 {α : Type} (x y : α) (xs : List α) : ix (x :: y :: xs) 1 = some y := ix_nat (i := 1) (xs := x :: y :: xs) (by simp)
theorem ix2 {α : Type} (x y z : α) (xs : List α) : ix (x :: y :: z :: xs) 2 = some z := ix_nat (i := 2) (xs := x :: y :: z :: xs) (by simp)
theorem ix3 {α : Type} (x y z u : α) (xs : List α) : ix (x :: y :: z :: u :: xs) 3 = some u := ix_nat (i := 3) (xs := x :: y :: z :: u :: xs) (by simp)
theorem run_take {wf k : Nat} {a b c far : Int} (ha : 0 ≤ a) (hb : 0 ≤ b) (hb2 : b < 2 ^ 70) (hf : 0 < far) (hf2 : far < 2 ^ 60) : ∃ r a' b' : Int, 0 ≤ r ∧ r < far ∧ 0 ≤ a' ∧ 0 ≤ b' ∧ b' ≤ b + 1 ∧
    run fns globs wf (k + 2) 9 [.lst [.int a, .int b, .int c], .dat (.int far)] = some (.ok (.dat (.int r)), [.lst [.int a', .int b', .int c], .dat (.int far)]) := by
  have dv : divOk far = true := by
    unfold divOk
    have : far.natAbs.log2 < 60 := log2_lt (by omega) (by decide)
    simp only [Bool.and_eq_true, decide_eq_true_eq]
    exact ⟨hf, by omega⟩
  have m0 : mulOk far = fun _ => true := by funext j; exact mulOk_l (by omega)
  have m1 : mulOk 11 = fun _ => true := by funext j; exact mulOk_l (by decide)
  by_cases h : a < far
  · obtain ⟨q, q0, q1, hq⟩ := run_mixed (wf := wf) (k := k) c (11 * (b + 1) + 5) (by omega) (by omega)
    have p0 : 0 ≤ far * q := Int.mul_nonneg (by omega) q0
    refine ⟨(a + far * q) % far, (a + far * q) / far, b + 1, Int.emod_nonneg _ (by omega), Int.emod_lt_of_pos _ hf, Int.ediv_nonneg (by omega) (by omega), by omega, by omega, ?_⟩
    rw [run_of (f := 9) rfl rfl (by kernel_rfl)]
    simp [c_law_take, idx, ix0, ix1, ix2, setIx, L2.ixN, h, hq, m0, m1, dv, hf, CE.quiet, CAs.quiet, asg]
  · refine ⟨a % far, a / far, b, Int.emod_nonneg _ (by omega), Int.emod_lt_of_pos _ hf, Int.ediv_nonneg (by omega) (by omega), by omega, by omega, ?_⟩
    rw [run_of (f := 9) rfl rfl (by kernel_rfl)]
    simp [c_law_take, idx, ix0, ix1, ix2, setIx, L2.ixN, h, m0, m1, dv, hf, CE.quiet, CAs.quiet, asg]
def Pu (t : Nat) (p : List D) : Prop := ∃ a b c : Int, p = [.int a, .int b, .int c] ∧ 0 ≤ a ∧ 0 ≤ b ∧ b ≤ t
theorem Pu.up {t u : Nat} {p : List D} (h : Pu t p) (hu : t ≤ u) : Pu u p := by
  obtain ⟨a, b, c, e, h1, h2, h3⟩ := h
  exact ⟨a, b, c, e, h1, h2, by omega⟩
theorem take_ok {wf k t : Nat} {p : List D} (hp : Pu t p) (ht : t < 2 ^ 69) {far : Int} (hf : 0 < far) (hf2 : far < 2 ^ 60) : ∃ (r : Int) (p' : List D), 0 ≤ r ∧ r < far ∧ Pu (t + 1) p' ∧
    run fns globs wf (k + 2) 9 [.lst p, .dat (.int far)] = some (.ok (.dat (.int r)), [.lst p', .dat (.int far)]) := by
  obtain ⟨a, b, c, rfl, h1, h2, h3⟩ := hp
  obtain ⟨r, a', b', r0, r1, a0, b0, b1, e⟩ := run_take (wf := wf) (k := k) (a := a) (b := b) (c := c) h1 h2 (by omega) hf hf2
  exact ⟨r, _, r0, r1, ⟨a', b', c, rfl, a0, b0, by omega⟩, e⟩
theorem run_at {wf k : Nat} {ns : List Int} {j : Nat} (hj : j < 2 ^ 20) : ∃ c : Int, run fns globs wf (k + 1) 10 [.dat (.lst (ns.map .int)), .dat (.int j)] = some (.ok (.dat (.int c)), [.dat (.lst (ns.map .int)), .dat (.int j)]) := by
  rw [run_of (f := 10) rfl rfl (ownKeep_dat rfl)]
  by_cases h : j < ns.length
  · refine ⟨ns[j], ?_⟩
    have hj2 : ix (ns.map D.int) (j : Int) = some (.int ns[j]) := by
      rw [ix_nat (by simpa using h)]
      simp
    simp [c_law_at, h, idx, hj2, MV.fz]
  · refine ⟨3 * j + 1, ?_⟩
    have m1 : mulOk 3 = fun _ => true := by funext j; exact mulOk_l (by decide)
    simp [c_law_at, h, m1]
theorem run_purse {wf k : Nat} (cell : Int) {j : Nat} (hj : j < 2 ^ 20) : ∃ p, Pu 0 p ∧ run fns globs wf (k + 2) 8 [.dat (.int cell), .dat (.int j)] = some (.ok (.lst p), [.dat (.int cell), .dat (.int j)]) := by
  rw [run_of (f := 8) rfl rfl (ownKeep_dat rfl)]
  have p1 : powOk 10 18 = true := by decide +kernel
  have p2 : powOk 10 60 = true := by decide +kernel
  have p3 : powOk 1000000000000000000000000000000000000000000000000000000000000 10 = true := by decide +kernel
  by_cases h : (1000000000000000000 : Int) ≤ cell
  · refine ⟨[.int ((cell - 1000000000000000000) % (1000000000000000000000000000000000000000000000000000000000000 ^ 10)), .int 0, .int j], ⟨_, 0, _, rfl, Int.emod_nonneg _ (by decide +kernel), by decide, by decide⟩, ?_⟩
    have q : (0 : Int) < 1000000000000000000000000000000000000000000000000000000000000 ^ 10 := by decide +kernel
    simp [c_law_purse, p1, p2, p3, h, q, line]
  · obtain ⟨q, q0, q1, hq⟩ := run_mixed (wf := wf) (k := k) cell j (by omega) (by omega)
    refine ⟨[.int q, .int 0, .int (cell % 1000000000000000009 + j)], ⟨_, 0, _, rfl, q0, by decide, by decide⟩, ?_⟩
    simp [c_law_purse, p1, p2, h, hq, line]
end K05
set_option Elab.async false
set_option linter.all false
set_option maxRecDepth 100000
set_option maxHeartbeats 2000000
set_option autoImplicit false
namespace K05
open M
def nameL : List D := (gnames.take 19).map .str
theorem run_names {wf k : Nat} : run fns globs wf (k + 1) 12 [] = some (.ok (.lst nameL), []) := by kernel_rfl
theorem mu_pop {xs : List D} {n : Nat} (h : n < xs.length) : mu .popAt (.lst xs) [.int (n : Int)] = some (.lst (xs.eraseIdx n), xs[n]) := by
  simp [mu, ixN_nat h, h]
theorem perm_erase {α : Type} : ∀ {xs : List α} {n : Nat} (h : n < xs.length), (xs[n] :: xs.eraseIdx n).Perm xs
  | x :: xs, 0, _ => by simp
  | x :: xs, n + 1, h => by
    simp only [List.getElem_cons_succ, List.eraseIdx_cons_succ]
    exact (List.Perm.swap _ _ _).trans ((perm_erase (xs := xs) (n := n) (by simpa using h)).cons x)
theorem some_names_loop {wf k : Nat} {m : MV} : ∀ (ds : List D) (acc left : List D) (t : Nat) (p : List D), Pu t p → t + ds.length < 2 ^ 69 → ds.length ≤ left.length → left.length < 100 →
    ∃ out left' p', Pu (t + ds.length) p' ∧ out.length = ds.length ∧ (out ++ left').Perm left ∧
      lcLoop (lcStep (run fns globs wf (k + 2)) globs [3] (.nm 3) .no x_law_some_names_0) ds acc [.lst p, m, .lst left, .no] = some (.ok (acc ++ out), [.lst p', m, .lst left', .no])
  | [], acc, left, t, p, hp, ht, hl, h100 => ⟨[], left, p, hp, rfl, List.Perm.refl _, by simp⟩
  | d :: ds, acc, left, t, p, hp, ht, hl, h100 => by
    simp only [List.length_cons] at ht hl
    obtain ⟨r, p1, r0, r1, hp1, hq⟩ := take_ok (wf := wf) (k := k) hp (by omega) (far := left.length) (by omega) (by omega)
    obtain ⟨n, rfl⟩ := Int.eq_ofNat_of_zero_le r0
    have hn : n < left.length := by omega
    obtain ⟨out, left', p', h1, h2, h3, h4⟩ := some_names_loop ds (acc ++ [left[n]]) (left.eraseIdx n) (t + 1) p1 hp1 (by omega) (by rw [List.length_eraseIdx]; split <;> omega) (by rw [List.length_eraseIdx]; split <;> omega)
    refine ⟨left[n] :: out, left', p', h1.up (by simp only [List.length_cons]; omega), by simp [h2], ?_, ?_⟩
    · exact (h3.cons _).trans (perm_erase hn)
    · have hm := mu_pop hn
      rw [lcLoop_cons]
      have hs : lcStep (run fns globs wf (k + 2)) globs [3] (.nm 3) .no x_law_some_names_0 d [.lst p, m, .lst left, .no] = some (.ok (some left[n]), [.lst p1, m, .lst (left.eraseIdx n), .no]) := by
        simp [lcStep, x_law_some_names_0, hq, muOk, asg, hm]
      rw [hs, bind_ok]
      simpa using h4
theorem run_some_names {wf k t : Nat} {p : List D} (hp : Pu t p) (ht : t < 2 ^ 68) {n : Nat} (hn : n ≤ 19) : ∃ out p', Pu (t + n) p' ∧ out.length = n ∧ (∃ rest, (out ++ rest).Perm nameL) ∧
    run fns globs wf (k + 3) 13 [.lst p, .dat (.int n)] = some (.ok (.lst out), [.lst p', .dat (.int n)]) := by
  have hr : (range 0 n).length = n := by simp [range]
  have h19 : nameL.length = 19 := by decide
  obtain ⟨out, left', p', h1, h2, h3, h4⟩ := some_names_loop (wf := wf) (k := k) (m := .dat (.int n)) (range 0 n) [] nameL t p hp (by omega) (by rw [hr, h19]; omega) (by omega)
  rw [hr] at h1 h2
  refine ⟨out, p', h1, h2, ⟨left', h3⟩, ?_⟩
  rw [run_of (f := 13) rfl rfl (by kernel_rfl)]
  have l1 : (n : Int) ≤ (line : Int) := by simp [line]; omega
  have l2 : -(line : Int) ≤ (n : Int) := by omega
  simp [c_law_some_names, run_names, l1, l2, h4]
theorem idx_nat {xs : List D} {n : Nat} (h : n < xs.length) : idx (.dat (.lst xs)) (.dat (.int (n : Int))) = some (.dat xs[n]) := by
  simp [idx, ix_nat h]
theorem run_pick {wf k t : Nat} {p xs : List D} (hp : Pu t p) (ht : t < 2 ^ 69) (h0 : 0 < xs.length) (h1 : xs.length < 100) : ∃ x ∈ xs, ∃ p', Pu (t + 1) p' ∧
    run fns globs wf (k + 3) 11 [.lst p, .dat (.lst xs)] = some (.ok (.dat x), [.lst p', .dat (.lst xs)]) := by
  obtain ⟨r, p1, r0, r1, hp1, hq⟩ := take_ok (wf := wf) (k := k) hp ht (far := xs.length) (by omega) (by omega)
  obtain ⟨n, rfl⟩ := Int.eq_ofNat_of_zero_le r0
  have hn : n < xs.length := by omega
  refine ⟨xs[n], List.getElem_mem hn, p1, hp1, ?_⟩
  rw [run_of (f := 11) rfl rfl (by kernel_rfl)]
  simp [c_law_pick, hq, idx_nat hn]
def intsL : List Int := [0, 1, -1, 2, 3, 7, 10, 305, 999999999, 1000000000]
def isC (lo : Int) (x : D) : Prop := ∃ i : Int, x = .int i ∧ lo ≤ i ∧ i ≤ 999999999 ∧ i ∈ intsL
theorem run_count {wf k t : Nat} {p : List D} (hp : Pu t p) (ht : t < 2 ^ 69) {lo : Int} (hlo : lo = 0 ∨ lo = 1) : ∃ c, isC lo c ∧ ∃ p', Pu (t + 1) p' ∧
    run fns globs wf (k + 4) 14 [.lst p, .dat (.int lo)] = some (.ok (.dat c), [.lst p', .dat (.int lo)]) := by
  obtain ⟨x, hx, p1, hp1, hq⟩ := run_pick (wf := wf) (k := k) (xs := [.int 0, .int 1, .int 1, .int 2, .int 3, .int 7, .int 10, .int 305, .int 999999999]) hp ht (by decide) (by decide)
  obtain ⟨i, rfl, i0, i1, i2⟩ : ∃ i : Int, x = .int i ∧ 0 ≤ i ∧ i ≤ 999999999 ∧ i ∈ intsL := by
    simp only [List.mem_cons, List.not_mem_nil, or_false] at hx
    rcases hx with rfl | rfl | rfl | rfl | rfl | rfl | rfl | rfl | rfl <;> exact ⟨_, rfl, by decide, by decide, by decide⟩
  refine ⟨.int (if i > lo then i else lo), ⟨_, rfl, by split <;> omega, by split <;> omega, by
    split
    · exact i2
    · rcases hlo with rfl | rfl <;> decide⟩, p1, hp1, ?_⟩
  rw [run_of (f := 14) rfl rfl (by kernel_rfl)]
  simp [c_law_count, hq, line, bi]
end K05
set_option Elab.async false
set_option linter.all false
set_option maxRecDepth 100000
set_option maxHeartbeats 2000000
set_option autoImplicit false
namespace K05
open M
@[simp] theorem ok_int (i : Int) : (D.int i).ok = true := by simp [D.ok, D.py, PySem.PyData.canLay0, PySem.PyData.depth, PySem.SeqAt.shaped]
@[simp] theorem eqD_int (i j : Int) : eqD (.int i) (.int j) = decide (i = j) := by simp [eqD, D.py, PySem.PyData.eqv]; rfl
theorem parts_loop1 {wf k : Nat} {m m2 : MV} : ∀ (ds acc : List D) (t : Nat) (p : List D), Pu t p → t + ds.length < 2 ^ 69 →
    ∃ out p', Pu (t + ds.length) p' ∧ out.Sublist ds ∧
      lcLoop (lcStep (run fns globs wf (k + 2)) globs [3] (.nm 3) o_law_parts_0 x_law_parts_0) ds acc [.lst p, m, m2, .no] = some (.ok (acc ++ out), [.lst p', m, m2, .no])
  | [], acc, t, p, hp, ht => ⟨[], p, hp, List.Sublist.refl _, by simp⟩
  | d :: ds, acc, t, p, hp, ht => by
    simp only [List.length_cons] at ht
    obtain ⟨r, p1, r0, r1, hp1, hq⟩ := take_ok (wf := wf) (k := k) hp (by omega) (far := 3) (by omega) (by omega)
    by_cases h : r = 0
    · obtain ⟨out, p', h1, h2, h4⟩ := parts_loop1 (wf := wf) (k := k) (m := m) (m2 := m2) ds (acc ++ [d]) (t + 1) p1 hp1 (by omega)
      refine ⟨d :: out, p', h1.up (by simp only [List.length_cons]; omega), h2.cons_cons _, ?_⟩
      have hs : lcStep (run fns globs wf (k + 2)) globs [3] (.nm 3) o_law_parts_0 x_law_parts_0 d [.lst p, m, m2, .no] = some (.ok (some d), [.lst p1, m, m2, .no]) := by
        simp [lcStep, x_law_parts_0, o_law_parts_0, hq, h]
      rw [lcLoop_cons, hs, bind_ok]
      simpa using h4
    · obtain ⟨out, p', h1, h2, h4⟩ := parts_loop1 (wf := wf) (k := k) (m := m) (m2 := m2) ds acc (t + 1) p1 hp1 (by omega)
      refine ⟨out, p', h1.up (by simp only [List.length_cons]; omega), h2.cons _, ?_⟩
      have hs : lcStep (run fns globs wf (k + 2)) globs [3] (.nm 3) o_law_parts_0 x_law_parts_0 d [.lst p, m, m2, .no] = some (.ok none, [.lst p1, m, m2, .no]) := by
        simp [lcStep, x_law_parts_0, o_law_parts_0, hq, h]
      rw [lcLoop_cons, hs, bind_ok]
      simpa using h4
def pairD (q : D × D) : D := .tup [q.1, q.2]
theorem counts_loop {wf k : Nat} {lo : Int} (hlo : lo = 0 ∨ lo = 1) {step : D → Env → R (Option D)} {env : List D → Env}
    (hs : ∀ (d c : D) (p p1 : List D), run fns globs wf (k + 4) 14 [.lst p, .dat (.int lo)] = some (.ok (.dat c), [.lst p1, .dat (.int lo)]) → step d (env p) = some (.ok (some (pairD (d, c))), env p1)) : ∀ (ds acc : List D) (t : Nat) (p : List D), Pu t p → t + ds.length < 2 ^ 69 →
    ∃ (qs : List (D × D)) (p' : List D), Pu (t + ds.length) p' ∧ qs.map Prod.fst = ds ∧ (∀ q ∈ qs, isC lo q.2) ∧
      lcLoop step ds acc (env p) = some (.ok (acc ++ qs.map pairD), env p')
  | [], acc, t, p, hp, ht => ⟨[], p, hp, rfl, by simp, by simp⟩
  | d :: ds, acc, t, p, hp, ht => by
    simp only [List.length_cons] at ht
    obtain ⟨c, hc, p1, hp1, hq⟩ := run_count (wf := wf) (k := k) hp (by omega) hlo
    obtain ⟨qs, p', h1, h2, h3, h4⟩ := counts_loop hlo hs ds (acc ++ [pairD (d, c)]) (t + 1) p1 hp1 (by omega)
    refine ⟨(d, c) :: qs, p', h1.up (by simp only [List.length_cons]; omega), by simp [h2], ?_, ?_⟩
    · intro q hq
      rcases List.mem_cons.mp hq with rfl | hq
      · exact hc
      · exact h3 q hq
    · rw [lcLoop_cons, hs d c p p1 hq, bind_ok]
      simpa using h4
def PartsOf (names : List D) (x : D) : Prop := ∃ qs : List (D × D), x = .tup (qs.map pairD) ∧ (qs.map Prod.fst).Sublist names ∧ ∀ q ∈ qs, isC 1 q.2
theorem run_parts {wf k t : Nat} {p names : List D} (hp : Pu t p) (ht : t < 2 ^ 67) (hn : names.length < 100) : ∃ x, PartsOf names x ∧ ∃ p', Pu (t + 200) p' ∧
    run fns globs wf (k + 5) 15 [.lst p, .dat (.lst names)] = some (.ok (.dat x), [.lst p', .dat (.lst names)]) := by
  obtain ⟨out, p1, hp1, hs, e1⟩ := parts_loop1 (wf := wf) (k := k + 2) (m := .dat (.lst names)) (m2 := .no) names [] t p hp (by omega)
  have hol : out.length < 100 := Nat.lt_of_le_of_lt hs.length_le hn
  obtain ⟨qs, p2, hp2, h2, h3, e2⟩ := counts_loop (wf := wf) (k := k) (lo := 1) (.inr rfl) (step := lcStep (run fns globs wf (k + 4)) globs [3] (.nm 3) .no x_law_parts_1) (env := fun p => [.lst p, .dat (.lst names), .dat (.lst out), .no])
    (fun d c p p1 hq => by simp [lcStep, x_law_parts_1, hq, line, pairD]) out [] (t + names.length) p1 hp1 (by omega)
  refine ⟨.tup (qs.map pairD), ⟨qs, rfl, by rw [h2]; exact hs, h3⟩, p2, hp2.up (by omega), ?_⟩
  rw [run_of (f := 15) rfl rfl (by kernel_rfl)]
  simp [c_law_parts, e1, e2, bi]
end K05
set_option Elab.async false
set_option linter.all false
set_option maxRecDepth 100000
set_option maxHeartbeats 2000000
set_option autoImplicit false
namespace K05
open M
structure Fi where
  n : D
  l : D
  a : D
  b : D
def fiD (f : Fi) : D := .tup [f.n, f.l, f.a, f.b]
def labels (n : D) : List D := [.str ⟨#[]⟩, .str ⟨#[]⟩, .str ⟨#[97]⟩, .str ⟨#[108, 97, 98, 49]⟩, n, .str ⟨#[103, 111]⟩]
def FiOk (names : List D) (f : Fi) : Prop := f.l ∈ labels f.n ∧ PartsOf names f.a ∧ PartsOf names f.b
theorem net_loop {wf k : Nat} {names : List D} {pl : MV} (hn : names.length < 100) : ∀ (ds acc : List D) (t : Nat) (p : List D) (e4 e5 e6 : MV), Pu t p → t + 500 * ds.length < 2 ^ 66 → acc.length + ds.length < 1000 →
    ∃ (fs : List Fi) (p' : List D) (e4' e5' e6' : MV), Pu (t + 500 * ds.length) p' ∧ fs.map Fi.n = ds ∧ (∀ f ∈ fs, FiOk names f) ∧
      forLoop (forStep (run fns globs wf (k + 5)) globs wf (.nm 4) b_law_net_0) ds [.lst p, .dat (.lst names), pl, .lst acc, e4, e5, e6] = some (.ok .nx, [.lst p', .dat (.lst names), pl, .lst (acc ++ fs.map fiD), e4', e5', e6'])
  | [], acc, t, p, e4, e5, e6, hp, ht, hl => ⟨[], p, e4, e5, e6, hp, rfl, by simp, by simp⟩
  | d :: ds, acc, t, p, e4, e5, e6, hp, ht, hl => by
    simp only [List.length_cons] at ht hl
    obtain ⟨l, hl1, p1, hp1, q1⟩ := run_pick (wf := wf) (k := k + 2) (xs := labels d) hp (by omega) (by simp [labels]) (by simp [labels])
    obtain ⟨a, ha, p2, hp2, q2⟩ := run_parts (wf := wf) (k := k) hp1 (by omega) hn
    obtain ⟨b, hb, p3, hp3, q3⟩ := run_parts (wf := wf) (k := k) hp2 (by omega) hn
    obtain ⟨fs, p', e4', e5', e6', h1, h2, h3, h4⟩ := net_loop (wf := wf) (k := k) (pl := pl) hn ds (acc ++ [fiD ⟨d, l, a, b⟩]) (t + 1 + 200 + 200) p3 (.dat d) (.dat l) (.dat a) hp3 (by omega) (by simp; omega)
    refine ⟨⟨d, l, a, b⟩ :: fs, p', e4', e5', e6', h1.up (by simp only [List.length_cons]; omega), by simp [h2], ?_, ?_⟩
    · intro q hq
      rcases List.mem_cons.mp hq with rfl | hq
      · exact ⟨hl1, ha, hb⟩
      · exact h3 q hq
    · simp only [labels] at q1
      have ll : acc.length < 16777216 := by omega
      have hs : forStep (run fns globs wf (k + 5)) globs wf (.nm 4) b_law_net_0 d [.lst p, .dat (.lst names), pl, .lst acc, e4, e5, e6] = some (.ok .nx, [.lst p3, .dat (.lst names), pl, .lst (acc ++ [fiD ⟨d, l, a, b⟩]), .dat d, .dat l, .dat a]) := by
        simp [forStep, b_law_net_0, q1, q2, q3, line, muOk, mu, fiD, ll]
      rw [forLoop_cons, hs, bind_ok]
      simpa using h4
def NetOf (d : D) : Prop := ∃ (zs : List (D × D)) (fs : List Fi), d = .tup [.tup (zs.map pairD), .tup (fs.map fiD)] ∧ zs ≠ [] ∧ zs.length ≤ 6 ∧ fs.length ≤ 5 ∧ (∃ rest, (zs.map Prod.fst ++ rest).Perm nameL) ∧ (∀ q ∈ zs, isC 0 q.2) ∧ (∃ rest, (fs.map Fi.n ++ rest).Perm nameL) ∧ ∀ f ∈ fs, FiOk (zs.map Prod.fst) f
theorem run_net {wf k t : Nat} {p : List D} (hp : Pu t p) (ht : t < 2 ^ 60) : ∃ d, NetOf d ∧ ∃ p', Pu (t + 10000) p' ∧ run fns globs wf (k + 6) 16 [.lst p] = some (.ok (.dat d), [.lst p']) := by
  obtain ⟨r, p1, r0, r1, hp1, q1⟩ := take_ok (wf := wf) (k := k + 3) hp (by omega) (far := 6) (by omega) (by omega)
  obtain ⟨n, rfl⟩ := Int.eq_ofNat_of_zero_le r0
  obtain ⟨names, p2, hp2, hl2, ⟨rest, hr⟩, q2⟩ := run_some_names (wf := wf) (k := k + 2) hp1 (by omega) (n := 1 + n) (by omega)
  have hnl : names.length < 100 := by omega
  obtain ⟨zs, p3, hp3, z1, z2, q3⟩ := counts_loop (wf := wf) (k := k + 1) (lo := 0) (.inl rfl) (step := lcStep (run fns globs wf (k + 5)) globs [4] (.nm 4) .no x_law_net_0) (env := fun p => [.lst p, .dat (.lst names), .no, .no, .no, .no, .no])
    (fun d c p p1 hq => by simp [lcStep, x_law_net_0, hq, line, pairD]) names [] _ p2 hp2 (by omega)
  obtain ⟨s, p4, s0, s1, hp4, q4⟩ := take_ok (wf := wf) (k := k + 3) hp3 (by omega) (far := 6) (by omega) (by omega)
  obtain ⟨m, rfl⟩ := Int.eq_ofNat_of_zero_le s0
  obtain ⟨fnames, p5, hp5, hl5, ⟨rest5, hr5⟩, q5⟩ := run_some_names (wf := wf) (k := k + 2) hp4 (by omega) (n := m) (by omega)
  obtain ⟨fs, p6, e4, e5, e6, hp6, f1, f2, q6⟩ := net_loop (wf := wf) (k := k) (names := names) (pl := .dat (.tup (zs.map pairD))) hnl fnames [] _ p5 .no .no .no hp5 (by omega) (by simp; omega)
  refine ⟨.tup [.tup (zs.map pairD), .tup (fs.map fiD)], ⟨zs, fs, rfl, ?_, ?_, ?_, ⟨rest, by rw [z1]; exact hr⟩, z2, ⟨rest5, by rw [f1]; exact hr5⟩, by rw [z1]; exact f2⟩, p6, hp6.up (by omega), ?_⟩
  · intro h
    subst h
    simp at z1
    subst z1
    simp at hl2
    omega
  · have : zs.length = names.length := by rw [← z1]; simp
    omega
  · have : fs.length = fnames.length := by rw [← f1]; simp
    omega
  · rw [run_of (f := 16) rfl rfl (by kernel_rfl)]
    have e1 : ((1 + n : Nat) : Int) = 1 + (n : Int) := by omega
    rw [e1] at q2
    simp [c_law_net, q1, q2, q3, q4, q5, q6, bi, line]
end K05
set_option Elab.async false
set_option linter.all false
set_option maxRecDepth 100000
set_option maxHeartbeats 2000000
set_option autoImplicit false
namespace K05
open M
mutual
def gd : D → Bool
  | .non => true
  | .bl _ => true
  | .int i => decide (i ∈ intsL)
  | .str s => decide (s ∈ wds)
  | .tup xs => gds xs
  | .lst xs => gds xs
  | .dic _ => false
def gds : List D → Bool
  | [] => true
  | x :: xs => gd x && gds xs
end
mutual
def dp : D → Nat
  | .tup xs => dps xs + 1
  | .lst xs => dps xs + 1
  | _ => 0
def dps : List D → Nat
  | [] => 0
  | x :: xs => max (dp x) (dps xs)
end
mutual
def sz : D → Nat
  | .tup xs => szs xs + 4
  | .lst xs => szs xs + 4
  | _ => 16
def szs : List D → Nat
  | [] => 0
  | x :: xs => sz x + 2 + szs xs
end
@[simp] theorem gd_tup (xs : List D) : gd (.tup xs) = gds xs := by simp only [gd]
@[simp] theorem gd_lst (xs : List D) : gd (.lst xs) = gds xs := by simp only [gd]
@[simp] theorem gds_nil : gds [] = true := by simp only [gds]
@[simp] theorem gds_cons (x : D) (xs : List D) : gds (x :: xs) = (gd x && gds xs) := by simp only [gds]
@[simp] theorem dp_tup (xs : List D) : dp (.tup xs) = dps xs + 1 := by simp only [dp]
@[simp] theorem dp_lst (xs : List D) : dp (.lst xs) = dps xs + 1 := by simp only [dp]
@[simp] theorem dps_nil : dps [] = 0 := by simp only [dps]
@[simp] theorem dps_cons (x : D) (xs : List D) : dps (x :: xs) = max (dp x) (dps xs) := by simp only [dps]
@[simp] theorem sz_tup (xs : List D) : sz (.tup xs) = szs xs + 4 := by simp only [sz]
@[simp] theorem sz_lst (xs : List D) : sz (.lst xs) = szs xs + 4 := by simp only [sz]
@[simp] theorem szs_nil : szs [] = 0 := by simp only [szs]
@[simp] theorem szs_cons (x : D) (xs : List D) : szs (x :: xs) = sz x + 2 + szs xs := by simp only [szs]
theorem gds_mem {xs : List D} : gds xs = true ↔ ∀ x ∈ xs, gd x = true := by
  induction xs with
  | nil => simp
  | cons x xs ih => simp [ih]
theorem dps_le {xs : List D} {n : Nat} : dps xs ≤ n ↔ ∀ x ∈ xs, dp x ≤ n := by
  induction xs with
  | nil => simp
  | cons x xs ih => simp [ih, Nat.max_le]
theorem szs_append (xs ys : List D) : szs (xs ++ ys) = szs xs + szs ys := by
  induction xs with
  | nil => simp
  | cons x xs ih => simp [ih]; omega
theorem szs_mem {xs : List D} {x : D} (h : x ∈ xs) : sz x + 2 ≤ szs xs := by
  induction xs with
  | nil => cases h
  | cons y ys ih =>
    rcases List.mem_cons.mp h with rfl | h
    · simp
    · have := ih h; simp; omega
theorem szs_take (xs : List D) (n : Nat) : szs (xs.take n) ≤ szs xs := by
  have := szs_append (xs.take n) (xs.drop n)
  rw [List.take_append_drop] at this
  omega
theorem szs_drop (xs : List D) (n : Nat) : szs (xs.drop n) ≤ szs xs := by
  have := szs_append (xs.take n) (xs.drop n)
  rw [List.take_append_drop] at this
  omega
theorem szs_set (xs : List D) (n : Nat) (y : D) : szs (xs.set n y) ≤ szs xs + sz y + 2 := by
  induction xs generalizing n with
  | nil => simp
  | cons x xs ih =>
    cases n with
    | zero => simp; omega
    | succ n => simp; have := ih n; omega
theorem szs_len (xs : List D) : 2 * xs.length ≤ szs xs := by
  induction xs with
  | nil => simp
  | cons x xs ih => simp; omega
mutual
theorem py_depth : ∀ {d : D}, gd d = true → PySem.PyData.depth d.py = dp d
  | .non, _ => by simp [D.py, PySem.PyData.depth, dp]
  | .bl _, _ => by simp [D.py, PySem.PyData.depth, dp]
  | .int _, _ => by simp [D.py, PySem.PyData.depth, dp]
  | .str _, _ => by simp [D.py, PySem.PyData.depth, dp]
  | .tup xs, h => by simp [D.py, PySem.PyData.depth, pys_depth (xs := xs) (by simpa using h)]
  | .lst xs, h => by simp [D.py, PySem.PyData.depth, pys_depth (xs := xs) (by simpa using h)]
  | .dic _, h => by simp [gd] at h
theorem pys_depth : ∀ {xs : List D}, gds xs = true → PySem.PyData.depthAll (D.pyAll xs) = dps xs
  | [], _ => by simp [D.pyAll, PySem.PyData.depthAll]
  | x :: xs, h => by
    simp at h
    simp [D.pyAll, PySem.PyData.depthAll, py_depth h.1, pys_depth h.2]
end
theorem wds_ok : ∀ s ∈ wds, PySem.PyData.strOk s = true := by decide +kernel
mutual
theorem py_lay : ∀ {d : D}, gd d = true → d.py.canLay0 = true
  | .non, _ => by simp [D.py, PySem.PyData.canLay0]
  | .bl _, _ => by simp [D.py, PySem.PyData.canLay0]
  | .int _, _ => by simp [D.py, PySem.PyData.canLay0]
  | .str s, h => by
    simp [gd] at h
    simp [D.py, PySem.PyData.canLay0, wds_ok s h]
  | .tup xs, h => by simp [D.py, PySem.PyData.canLay0, pys_lay (xs := xs) (by simpa using h)]
  | .lst xs, h => by simp [D.py, PySem.PyData.canLay0, pys_lay (xs := xs) (by simpa using h)]
  | .dic _, h => by simp [gd] at h
theorem pys_lay : ∀ {xs : List D}, gds xs = true → PySem.PyData.canLayAll0 (D.pyAll xs) = true
  | [], _ => by simp [D.pyAll, PySem.PyData.canLayAll0]
  | x :: xs, h => by
    simp at h
    simp [D.pyAll, PySem.PyData.canLayAll0, py_lay h.1, pys_lay h.2]
end
theorem ok_of {d : D} (h : gd d = true) (hd : dp d ≤ 64) : d.ok = true := by
  simp [D.ok, PySem.SeqAt.shaped, py_lay h, py_depth h, hd]
structure Cl (n m : Nat) (x : D) : Prop where
  g : gd x = true
  d : dp x ≤ n
  s : sz x ≤ m
theorem Cl.ok {n m : Nat} {d : D} (c : Cl n m d) (h : n ≤ 64) : d.ok = true := ok_of c.g (Nat.le_trans c.d h)
def oddL : List D := [.non, .bl true, .bl false, .int 0, .int 1, .int (-1), .int 1000000000, .int 999999999, .str ⟨#[]⟩, .str ⟨#[97]⟩, .str ⟨#[97, 98, 99, 100, 101, 102, 103, 104, 105]⟩, .str ⟨#[65]⟩, .str ⟨#[97, 32, 98]⟩, .str ⟨#[112, 108, 97, 99, 101]⟩, .str ⟨#[97, 115]⟩, .str ⟨#[57, 97]⟩, .tup [],
  .lst [], .tup [.str ⟨#[97]⟩, .int 1], .tup [.str ⟨#[97]⟩, .int 0], .tup [.str ⟨#[98]⟩, .int 2], .lst [.tup [.str ⟨#[97]⟩, .int 1]], .tup [.tup [.str ⟨#[97]⟩, .int 1]], .tup [.tup [.str ⟨#[97]⟩, .int 1], .tup [.str ⟨#[97]⟩, .int 1]], .tup [.tup [], .tup []],
  .tup [.str ⟨#[97]⟩], .str ⟨#[99, 50]⟩, .int 7]
theorem oddL_ok : ∀ x ∈ oddL, Cl 2 100 x := by
  have h : (oddL.all fun x => gd x && decide (dp x ≤ 2) && decide (sz x ≤ 100)) = true := by kernel_rfl
  intro x hx
  have z := List.all_eq_true.mp h x hx
  simp only [Bool.and_eq_true, decide_eq_true_eq] at z
  exact ⟨z.1.1, z.1.2, z.2⟩
theorem run_odd {wf k t : Nat} {p : List D} (hp : Pu t p) (ht : t < 2 ^ 69) : ∃ x ∈ oddL, ∃ p', Pu (t + 1) p' ∧ run fns globs wf (k + 3) 22 [.lst p] = some (.ok (.dat x), [.lst p']) := by
  obtain ⟨r, p1, r0, r1, hp1, hq⟩ := take_ok (wf := wf) (k := k) hp ht (far := 28) (by omega) (by omega)
  obtain ⟨n, rfl⟩ := Int.eq_ofNat_of_zero_le r0
  have hn : n < oddL.length := by have : oddL.length = 28 := rfl; omega
  refine ⟨oddL[n], List.getElem_mem hn, p1, hp1, ?_⟩
  have hi := idx_nat hn
  rw [run_of (f := 22) rfl rfl (by kernel_rfl)]
  have p9 : powOk 10 9 = true := by decide +kernel
  have e : ∀ (r : Env) (y : MV), execs (run fns globs wf (k + 2)) globs wf c_law_odd_thing [.lst p, .no] = execs (run fns globs wf (k + 2)) globs wf [.ret (.idx (.var 1) (.call 9 (.ref 0 (.val (.bi .len (.cons (.var 1) .nil)) .nil))))] [.lst p, .dat (.lst oddL)] := by
    intro r y
    simp only [c_law_odd_thing, oddL]
    simp [p9, line]
  show runEnd _ (execs _ _ _ c_law_odd_thing [.lst p, .no]) = _
  rw [e [] .no]
  have hl : (oddL.length : Int) = 28 := rfl
  simp [hl, hq, hi]
end K05
set_option Elab.async false
set_option linter.all false
set_option maxRecDepth 100000
set_option maxHeartbeats 4000000
set_option autoImplicit false
namespace K05
open M
theorem eqD_empty (xs : List D) : eqD (.tup xs) (.tup []) = xs.isEmpty := by
  cases xs <;> simp [eqD, D.py, D.pyAll, PySem.PyData.eqv, PySem.PyData.eqvAll]
theorem cut_to {α : Type} {xs : List α} {n : Nat} : cutL xs none (some (n : Int)) = xs.take n := by
  simp only [cutL, HT.sIx_nat, HT.sIx_none, List.drop_zero, Nat.sub_zero]
  by_cases h : n ≤ xs.length
  · rw [Nat.min_eq_left h]
  · rw [Nat.min_eq_right (by omega), List.take_of_length_le (Nat.le_refl _), List.take_of_length_le (by omega)]
theorem cut_from {α : Type} {xs : List α} {n : Nat} : cutL xs (some (n : Int)) none = xs.drop n := by
  simp only [cutL, HT.sIx_nat, HT.sIx_none]
  by_cases h : n ≤ xs.length
  · rw [Nat.min_eq_left h, List.take_of_length_le (by simp)]
  · rw [Nat.min_eq_right (by omega)]
    simp
    omega
@[simp] theorem sli_to {xs : List D} {n : Nat} : sli (.dat (.tup xs)) none (some (n : Int)) = some (.dat (.tup (xs.take n))) := by
  simp [sli, cut_to]
@[simp] theorem sli_to1 {xs : List D} {n : Nat} : sli (.dat (.tup xs)) none (some ((n : Int) + 1)) = some (.dat (.tup (xs.take (n + 1)))) := sli_to (n := n + 1)
@[simp] theorem sli_from {xs : List D} {n : Nat} : sli (.dat (.tup xs)) (some (n : Int)) none = some (.dat (.tup (xs.drop n))) := by
  simp [sli, cut_from]
@[simp] theorem sli_from1 {xs : List D} {n : Nat} : sli (.dat (.tup xs)) (some ((n : Int) + 1)) none = some (.dat (.tup (xs.drop (n + 1)))) := sli_from (n := n + 1)
theorem bin_at' {xs ys : List D} (h : xs.length + ys.length ≤ 16777216) : bin .add (.dat (.tup xs)) (.dat (.tup ys)) = some (.dat (.tup (xs ++ ys))) := by
  rw [bin_at, if_pos (show _ ≤ line from h)]
theorem idxT {xs : List D} {n : Nat} (h : n < xs.length) : idx (.dat (.tup xs)) (.dat (.int (n : Int))) = some (.dat xs[n]) := by
  simp [idx, ix_nat h]
theorem setIx_nat {xs : List D} {n : Nat} (h : n < xs.length) (d : D) : setIx (.lst xs) (.int (n : Int)) d = some (.lst (xs.set n d)) := by
  simp [setIx, ixN_nat h]
def Got (m : MV) (d : D) : Prop := m = .dat d ∨ ∃ xs, m = .lst xs ∧ d = .lst xs
theorem Got.fz {m : MV} {d : D} (h : Got m d) : m.fz = d := by
  rcases h with rfl | ⟨xs, rfl, rfl⟩ <;> rfl
theorem Got.temp {m : MV} {d : D} (h : Got m d) : m.temp = false := by
  rcases h with rfl | ⟨xs, rfl, rfl⟩ <;> rfl
theorem ixN_of {xs : List D} {r : Int} (h0 : 0 ≤ r) (h1 : r < xs.length) : ∃ n : Nat, r = n ∧ n < xs.length := by
  obtain ⟨n, rfl⟩ := Int.eq_ofNat_of_zero_le h0
  exact ⟨n, rfl, by omega⟩
theorem cl_seq {n m : Nat} {xs : List D} (h : Cl (n + 1) m (.tup xs)) : (∀ x ∈ xs, gd x = true ∧ dp x ≤ n) ∧ szs xs + 4 ≤ m := by
  have g := h.g
  have d := h.d
  have s := h.s
  simp only [gd_tup, dp_tup, sz_tup] at g d s
  exact ⟨fun x hx => ⟨gds_mem.mp g x hx, dps_le.mp (by omega) x hx⟩, s⟩
theorem cl_mk {n m : Nat} {xs : List D} (h : ∀ x ∈ xs, gd x = true ∧ dp x ≤ n) (hs : szs xs + 4 ≤ m) : Cl (n + 1) m (.tup xs) ∧ Cl (n + 1) m (.lst xs) :=
  ⟨⟨by simpa using gds_mem.mpr fun x hx => (h x hx).1, by have := dps_le.mpr fun x hx => (h x hx).2; simp; omega, by simpa using hs⟩,
   ⟨by simpa using gds_mem.mpr fun x hx => (h x hx).1, by have := dps_le.mpr fun x hx => (h x hx).2; simp; omega, by simpa using hs⟩⟩
theorem run_bent {wf : Nat} : ∀ (n k t : Nat) (p : List D) (d : D) (m : Nat), Pu t p → t + 10 * n < 2 ^ 60 → n ≤ 60 → m ≤ 1000000 → Cl n m d →
    ∃ d' r p', Got r d' ∧ Cl (n + 2) (3 * m + 200) d' ∧ Pu (t + 10 * n + 10) p' ∧ run fns globs wf (k + n + 4) 23 [.lst p, .dat d] = some (.ok r, [.lst p', .dat d]) := by
  intro n
  induction n with
  | zero =>
    intro k t p d m hp ht hn hm hc
    obtain ⟨x, hx, p1, hp1, hq⟩ := run_odd (wf := wf) (k := k) hp (by omega)
    have ho := oddL_ok x hx
    refine ⟨x, .dat x, p1, .inl rfl, ⟨ho.g, Nat.le_trans ho.d (by omega), Nat.le_trans ho.s (by omega)⟩, hp1.up (by omega), ?_⟩
    rw [run_of (f := 23) rfl rfl (by kernel_rfl)]
    have nt : isTy .tuple d = false := by
      cases d <;> first | rfl | skip
      have := hc.d
      simp at this
    simp [c_law_bent, nt, hq]
  | succ n ih =>
    intro k t p d m hp ht hn hm hc
    have odd : ∀ {t : Nat} {p : List D} (hp : Pu t p) (ht : t < 2 ^ 65), ∃ x p1, Cl (n + 1 + 2) (3 * m + 200) x ∧ Pu (t + 1) p1 ∧ run fns globs wf (k + (n + 1) + 3) 22 [.lst p] = some (.ok (.dat x), [.lst p1]) := fun {t p} hp ht => by
      obtain ⟨x, hx, p1, hp1, hq⟩ := run_odd (wf := wf) (k := k + (n + 1)) hp (by omega)
      have ho := oddL_ok x hx
      exact ⟨x, p1, ⟨ho.g, Nat.le_trans ho.d (by omega), Nat.le_trans ho.s (by omega)⟩, hp1, hq⟩
    by_cases htup : ∃ xs, d = .tup xs ∧ xs ≠ []
    · obtain ⟨xs, rfl, hne⟩ := htup
      obtain ⟨hx, hs⟩ := cl_seq hc
      have hlen := szs_len xs
      have hpos : 0 < xs.length := List.length_pos_iff.mpr hne
      have hemp : xs.isEmpty = false := by cases xs <;> first | rfl | exact absurd rfl hne
      have hok : (D.tup xs).ok = true := hc.ok (by omega)
      have hok0 : (D.tup []).ok = true := by decide +kernel
      obtain ⟨r5, p1, a0, a1, hp1, q1⟩ := take_ok (wf := wf) (k := k + (n + 1) + 1) hp (by omega) (far := 5) (by omega) (by omega)
      by_cases h5 : r5 = 0
      · subst h5
        obtain ⟨x, p2, hcx, hp2, q2⟩ := odd hp1 (by omega)
        refine ⟨x, .dat x, p2, .inl rfl, hcx, hp2.up (by omega), ?_⟩
        rw [run_of (f := 23) rfl rfl (by kernel_rfl)]
        simp [c_law_bent, hok, hok0, eqD_empty, hemp, q1, q2, line]
      · obtain ⟨r1, p2, b0, b1, hp2, q2⟩ := take_ok (wf := wf) (k := k + (n + 1) + 1) hp1 (by omega) (far := xs.length) (by omega) (by omega)
        obtain ⟨i, rfl, hi⟩ := ixN_of b0 b1
        obtain ⟨r9, p3, c0, c1, hp3, q3⟩ := take_ok (wf := wf) (k := k + (n + 1) + 1) hp2 (by omega) (far := 9) (by omega) (by omega)
        have hxi := hx xs[i] (List.getElem_mem hi)
        have szi := szs_mem (List.getElem_mem hi)
        have tk := szs_take xs i
        have dr := szs_drop xs (i + 1)
        have tk1 := szs_take xs (i + 1)
        have dr0 := szs_drop xs i
        have memt : ∀ {j : Nat} {x : D}, x ∈ xs.take j → x ∈ xs := fun h => List.mem_of_mem_take h
        have memd : ∀ {j : Nat} {x : D}, x ∈ xs.drop j → x ∈ xs := fun h => List.mem_of_mem_drop h
        have up : ∀ {x : D}, x ∈ xs → gd x = true ∧ dp x ≤ n + 2 := fun h => ⟨(hx _ h).1, Nat.le_trans (hx _ h).2 (by omega)⟩
        have fin : ∀ {ys : List D}, (∀ y ∈ ys, gd y = true ∧ dp y ≤ n + 2) → szs ys + 4 ≤ 3 * m + 200 → Cl (n + 1 + 2) (3 * m + 200) (.tup ys) ∧ Cl (n + 1 + 2) (3 * m + 200) (.lst ys) := fun h1 h2 => cl_mk h1 h2
        rw [run_of (f := 23) rfl rfl (by kernel_rfl)]
        by_cases m0 : r9 = 0
        · subst m0
          refine ⟨.tup (xs.take i ++ xs.drop (i + 1)), _, p3, .inl rfl, (fin (fun y hy => ?_) (by rw [szs_append]; omega)).1, hp3.up (by omega), ?_⟩
          · exact (List.mem_append.mp hy).elim (fun h => up (memt h)) fun h => up (memd h)
          · have b1 : bin .add (.dat (.tup (xs.take i))) (.dat (.tup (xs.drop (i + 1)))) = _ := bin_at' (by simp; omega)
            simp [c_law_bent, hok, hok0, eqD_empty, hemp, q1, q2, q3, h5, line, b1, -bin_at]
        by_cases m1 : r9 = 1
        · subst m1
          refine ⟨.tup (xs.take (i + 1) ++ xs.drop i), _, p3, .inl rfl, (fin (fun y hy => ?_) (by rw [szs_append]; omega)).1, hp3.up (by omega), ?_⟩
          · exact (List.mem_append.mp hy).elim (fun h => up (memt h)) fun h => up (memd h)
          · have b1 : bin .add (.dat (.tup (xs.take (i + 1)))) (.dat (.tup (xs.drop i))) = _ := bin_at' (by simp; omega)
            simp [c_law_bent, hok, hok0, eqD_empty, hemp, q1, q2, q3, h5, line, b1, -bin_at]
        by_cases m2 : r9 = 2
        · subst m2
          refine ⟨.lst xs, .lst xs, p3, .inr ⟨xs, rfl, rfl⟩, (fin (fun y hy => up hy) (by omega)).2, hp3.up (by omega), ?_⟩
          simp [c_law_bent, hok, hok0, eqD_empty, hemp, q1, q2, q3, h5, line, bi]
        by_cases m3 : r9 = 3
        · subst m3
          obtain ⟨r2, p4, e0, e1, hp4, q4⟩ := take_ok (wf := wf) (k := k + (n + 1) + 1) hp3 (by omega) (far := xs.length) (by omega) (by omega)
          obtain ⟨j, rfl, hj⟩ := ixN_of e0 e1
          have szj := szs_mem (List.getElem_mem hj)
          have s1 := szs_set xs i xs[j]
          have s2 := szs_set (xs.set i xs[j]) j xs[i]
          refine ⟨.tup ((xs.set i xs[j]).set j xs[i]), _, p4, .inl rfl, (fin (fun y hy => ?_) (by omega)).1, hp4.up (by omega), ?_⟩
          · rcases List.mem_or_eq_of_mem_set hy with h | rfl
            · rcases List.mem_or_eq_of_mem_set h with h | rfl
              · exact up h
              · exact up (List.getElem_mem hj)
            · exact up (List.getElem_mem hi)
          · have i1 := idxT hi
            have i2 := idxT hj
            have w1 := setIx_nat hi xs[j]
            have w2 := setIx_nat (xs := xs.set i xs[j]) (n := j) (by simpa using hj) xs[i]
            simp [c_law_bent, hok, hok0, eqD_empty, hemp, q1, q2, q3, q4, h5, line, bi, i1, i2, w1, w2]
        · obtain ⟨d', r', p4, g1, g2, hp4, q4⟩ := ih k (t + 3) p3 xs[i] (sz xs[i]) hp3 (by omega) (by omega) (by omega) ⟨hxi.1, hxi.2, Nat.le_refl _⟩
          have q4 : run fns globs wf (k + (n + 1) + 3) 23 [.lst p3, .dat xs[i]] = some (.ok r', [.lst p4, .dat xs[i]]) := by rw [← q4]; congr 1
          refine ⟨.tup (xs.take i ++ [d'] ++ xs.drop (i + 1)), _, p4, .inl rfl, (fin (fun y hy => ?_) ?_).1, hp4.up (by omega), ?_⟩
          · rcases List.mem_append.mp hy with h | h
            · rcases List.mem_append.mp h with h | h
              · exact up (memt h)
              · rw [List.mem_singleton.mp h]; exact ⟨g2.g, g2.d⟩
            · exact up (memd h)
          · rw [szs_append, szs_append]
            have e := szs_append (xs.take i) (xs.drop i)
            rw [List.take_append_drop, List.drop_eq_getElem_cons hi] at e
            have := g2.s
            simp only [szs_cons, szs_nil] at e ⊢
            omega
          · have i1 := idxT hi
            have b1 : bin .add (.dat (.tup (xs.take i))) (.dat (.tup [d'])) = _ := bin_at' (by simp; omega)
            have b2 : bin .add (.dat (.tup (xs.take i ++ [d']))) (.dat (.tup (xs.drop (i + 1)))) = _ := bin_at' (by simp; omega)
            simp [c_law_bent, hok, hok0, eqD_empty, hemp, q1, q2, q3, h5, m0, m1, m2, m3, line, b1, b2, -bin_at, i1, q4, g1.fz, g1.temp]
    · obtain ⟨x, p2, hcx, hp2, q2⟩ := odd hp (by omega)
      refine ⟨x, .dat x, p2, .inl rfl, hcx, hp2.up (by omega), ?_⟩
      rw [run_of (f := 23) rfl rfl (by kernel_rfl)]
      cases d
      case tup xs =>
        have hemp : xs = [] := Classical.byContradiction fun h => htup ⟨xs, rfl, h⟩
        subst hemp
        have hok0 : (D.tup []).ok = true := by decide +kernel
        simp [c_law_bent, hok0, eqD_empty, q2, line]
      all_goals simp [c_law_bent, q2, isTy]
end K05
set_option Elab.async false
set_option linter.all false
set_option maxRecDepth 100000
set_option maxHeartbeats 2000000
set_option autoImplicit false
namespace K05
open M
def isNm : D → Bool
  | .str s => decide (s ∈ gnames)
  | _ => false
def isCount (x : D) (n : Int) : Bool := match x with
  | .int i => decide (n ≤ i) && decide (i ≤ 999999999)
  | _ => false
def isTupN (x : D) (n : Int) : Bool := match x with
  | .tup xs => decide ((xs.length : Int) = n)
  | _ => false
def isPart : D → Bool
  | .tup [a, b] => isNm a && isCount b 1
  | _ => false
def isParts : D → Bool
  | .tup ps => ps.all isPart
  | _ => false
theorem gd_str {s : PySem.Str} (h : gd (.str s) = true) : s ∈ wds := by simpa [gd] using h
theorem run_is_name {wf k : Nat} {x : D} (h : gd x = true) : run fns globs wf (k + 1) 1 [.dat x] = some (.ok (.dat (.bl (isNm x))), [.dat x]) := by
  cases x
  case str s => exact run_is_name_str s (gd_str h)
  all_goals
    rw [run_of (f := 1) rfl rfl (ownKeep_dat rfl)]
    simp [c_is_name, isNm]
theorem run_lname {wf k : Nat} {x : D} (h : gd x = true) : run fns globs wf (k + 1) 17 [.dat x] = some (.ok (.dat (.bl (isNm x))), [.dat x]) := by
  cases x
  case str s => exact run_law_is_name_str s (gd_str h)
  all_goals
    rw [run_of (f := 17) rfl rfl (ownKeep_dat rfl)]
    simp [c_law_is_name, isNm]
theorem run_is_count {wf k : Nat} (x : D) (n : Int) : run fns globs wf (k + 1) 0 [.dat x, .dat (.int n)] = some (.ok (.dat (.bl (isCount x n))), [.dat x, .dat (.int n)]) := by
  rw [run_of (f := 0) rfl rfl (ownKeep_dat rfl)]
  cases x
  case int i => by_cases h1 : n ≤ i <;> simp [c_is_count, isCount, h1, globs]
  all_goals simp [c_is_count, isCount]
theorem run_lcount {wf k : Nat} (x : D) (n : Int) : run fns globs wf (k + 1) 18 [.dat x, .dat (.int n)] = some (.ok (.dat (.bl (isCount x n))), [.dat x, .dat (.int n)]) := by
  rw [run_of (f := 18) rfl rfl (ownKeep_dat rfl)]
  have p9 : powOk 10 9 = true := by decide +kernel
  cases x
  case int i =>
    have e : decide (i < 1000000000) = decide (i ≤ 999999999) := by
      by_cases h : i ≤ 999999999
      · simp [h]; omega
      · simp [h]; omega
    by_cases h1 : n ≤ i <;> simp [c_law_is_whole, isCount, h1, p9, e]
  all_goals simp [c_law_is_whole, isCount]
theorem run_ltup {wf k : Nat} (x : D) (n : Int) : run fns globs wf (k + 1) 19 [.dat x, .dat (.int n)] = some (.ok (.dat (.bl (isTupN x n))), [.dat x, .dat (.int n)]) := by
  rw [run_of (f := 19) rfl rfl (ownKeep_dat rfl)]
  cases x <;> simp [c_law_is_tuple, isTupN]
theorem two_of {xs : List D} (h : xs.length = 2) : ∃ a b, xs = [a, b] := by
  match xs, h with
  | [a, b], _ => exact ⟨a, b, rfl⟩
@[simp] theorem idxT0 (a : D) (xs : List D) : idx (.dat (.tup (a :: xs))) (.dat (.int 0)) = some (.dat a) := by simp [idx, ix0]
@[simp] theorem idxT1 (a b : D) (xs : List D) : idx (.dat (.tup (a :: b :: xs))) (.dat (.int 1)) = some (.dat b) := by simp [idx, ix1]
@[simp] theorem idxT2 (a b c : D) (xs : List D) : idx (.dat (.tup (a :: b :: c :: xs))) (.dat (.int 2)) = some (.dat c) := by simp [idx, ix2]
@[simp] theorem idxT3 (a b c d : D) (xs : List D) : idx (.dat (.tup (a :: b :: c :: d :: xs))) (.dat (.int 3)) = some (.dat d) := by simp [idx, ix3]
theorem part_no {xs : List D} (h : xs.length ≠ 2) : isPart (.tup xs) = false := by
  match xs, h with
  | [], _ => rfl
  | [_], _ => rfl
  | [_, _], h => exact absurd rfl h
  | _ :: _ :: _ :: _, _ => rfl
theorem parts_step {wf k : Nat} {x : D} {t e1 : MV} (h : gd x = true) : forStep (run fns globs wf (k + 1)) globs wf (.nm 1) b_are_parts_0 x [t, e1] = some (.ok (if isPart x then .nx else .ret (.dat (.bl false))), [t, .dat x]) := by
  cases x
  case tup xs =>
    by_cases hl : xs.length = 2
    · obtain ⟨a, b, rfl⟩ := two_of hl
      simp at h
      have q1 := run_is_name (wf := wf) (k := k) h.1
      have q2 := run_is_count (wf := wf) (k := k) b 1
      cases h1 : isNm a <;> cases h2 : isCount b 1 <;> simp [forStep, b_are_parts_0, q1, q2, h1, h2, isPart]
    · have hl' : ¬ ((xs.length : Int) = 2) := by omega
      simp [forStep, b_are_parts_0, hl', part_no hl]
  all_goals simp [forStep, b_are_parts_0, isPart]
theorem parts_loop {wf k : Nat} {t : MV} : ∀ (xs : List D) (e1 : MV), gds xs = true → ∃ r', forLoop (forStep (run fns globs wf (k + 1)) globs wf (.nm 1) b_are_parts_0) xs [t, e1] = some (.ok (if xs.all isPart then .nx else .ret (.dat (.bl false))), t :: r')
  | [], e1, _ => ⟨[e1], by simp⟩
  | x :: xs, e1, h => by
    simp at h
    rw [forLoop_cons, parts_step h.1, bind_ok]
    cases hp : isPart x with
    | false => exact ⟨[.dat x], by simp [hp]⟩
    | true =>
      obtain ⟨r', e⟩ := parts_loop (wf := wf) (k := k) (t := t) xs (.dat x) h.2
      exact ⟨r', by simpa [hp] using e⟩
theorem run_are_parts {wf k : Nat} {x : D} (h : gd x = true) : run fns globs wf (k + 2) 2 [.dat x] = some (.ok (.dat (.bl (isParts x))), [.dat x]) := by
  rw [run_of (f := 2) rfl rfl (ownKeep_dat rfl)]
  cases x
  case tup xs =>
    obtain ⟨r', e⟩ := parts_loop (wf := wf) (k := k) (t := .dat (.tup xs)) xs .no (by simpa using h)
    cases ha : xs.all isPart with
    | true => rw [ha] at e; simp at e; simp [c_are_parts, e, isParts, ha]
    | false => rw [ha] at e; simp at e; simp [c_are_parts, e, isParts, ha]
  all_goals simp [c_are_parts, isParts]
theorem lparts_step {wf k : Nat} {x : D} {t e1 : MV} (h : gd x = true) : lcStep (run fns globs wf (k + 1)) globs [2] (.nm 2) o_law_are_parts_0 x_law_are_parts_0 x [t, e1, .no] = some (.ok (if isPart x then some x else none), [t, e1, .no]) := by
  have q0 := run_ltup (wf := wf) (k := k) x 2
  cases x
  case tup xs =>
    by_cases hl : xs.length = 2
    · obtain ⟨a, b, rfl⟩ := two_of hl
      simp at h
      have q1 := run_lname (wf := wf) (k := k) h.1
      have q2 := run_lcount (wf := wf) (k := k) b 1
      cases h1 : isNm a <;> cases h2 : isCount b 1 <;> simp [lcStep, o_law_are_parts_0, x_law_are_parts_0, q0, q1, q2, h1, h2, isPart, isTupN]
    · have hl' : ¬ ((xs.length : Int) = 2) := by omega
      simp [lcStep, o_law_are_parts_0, x_law_are_parts_0, q0, isTupN, hl', part_no hl]
  all_goals simp [lcStep, o_law_are_parts_0, x_law_are_parts_0, q0, isTupN, isPart]
theorem lparts_loop {wf k : Nat} {t e1 : MV} : ∀ (xs acc : List D), gds xs = true → lcLoop (lcStep (run fns globs wf (k + 1)) globs [2] (.nm 2) o_law_are_parts_0 x_law_are_parts_0) xs acc [t, e1, .no] = some (.ok (acc ++ xs.filter isPart), [t, e1, .no])
  | [], acc, _ => by simp
  | x :: xs, acc, h => by
    simp at h
    rw [lcLoop_cons, lparts_step h.1, bind_ok, lparts_loop xs _ h.2]
    cases hp : isPart x <;> simp [hp]
theorem filter_len {α : Type} (p : α → Bool) : ∀ xs : List α, decide ((xs.filter p).length = xs.length) = xs.all p
  | [] => rfl
  | x :: xs => by
    have ih := filter_len p xs
    have le := List.length_filter_le p xs
    cases h : p x with
    | true => simp [h]; simpa using ih
    | false => simp [h]; omega
theorem run_lparts {wf k : Nat} {x : D} (h : gd x = true) : run fns globs wf (k + 2) 20 [.dat x] = some (.ok (.dat (.bl (isParts x))), [.dat x]) := by
  rw [run_of (f := 20) rfl rfl (ownKeep_dat rfl)]
  cases x
  case tup xs =>
    have e := lparts_loop (wf := wf) (k := k) (t := .dat (.tup xs)) (e1 := .no) xs [] (by simpa using h)
    have f := filter_len isPart xs
    have f2 : decide (((xs.filter isPart).length : Int) = (xs.length : Int)) = xs.all isPart := by
      rw [← f]
      by_cases hh : (xs.filter isPart).length = xs.length
      · simp [hh]
      · simp [hh]; omega
    simp [c_law_are_parts, e, isParts, -List.length_filter_eq_length_iff]
    exact f2
  all_goals simp [c_law_are_parts, isParts]
end K05
set_option Elab.async false
set_option linter.all false
set_option maxRecDepth 100000
set_option maxHeartbeats 2000000
set_option autoImplicit false
namespace K05
open M
abbrev Str := PySem.Str
def isNew (a : D) (ns : List Str) : Bool := match a with
  | .str s => decide (s ∉ ns)
  | _ => false
def placeOk (x : D) (ns : List Str) : Bool := match x with
  | .tup [a, b] => isNm a && isNew a ns && isCount b 0
  | _ => false
def strOf : D → Str
  | .str s => s
  | _ => ⟨#[]⟩
def nameOf : D → Str
  | .tup (a :: _) => strOf a
  | _ => ⟨#[]⟩
@[simp] theorem nameOf_tup (s : Str) (r : List D) : nameOf (.tup (.str s :: r)) = s := rfl
def placesS : List D → Nat → List Str → Nat ⊕ List Str
  | [], _, ns => .inr ns
  | x :: xs, k, ns => if placeOk x ns then placesS xs (k + 1) (ns ++ [nameOf x]) else .inl k
theorem placeOk_no {xs : List D} {ns : List Str} (h : xs.length ≠ 2) : placeOk (.tup xs) ns = false := by
  match xs, h with
  | [], _ => rfl
  | [_], _ => rfl
  | [_, _], h => exact absurd rfl h
  | _ :: _ :: _ :: _, _ => rfl
theorem placeOk_inv {x : D} {ns : List Str} (h : placeOk x ns = true) : ∃ s b, x = .tup [.str s, b] ∧ s ∈ gnames ∧ s ∉ ns ∧ isCount b 0 = true := by
  unfold placeOk at h
  split at h
  · rename_i a b
    simp only [Bool.and_eq_true] at h
    cases a
    case str s =>
      simp [isNm, isNew] at h
      exact ⟨s, b, rfl, h.1.1, h.1.2, h.2⟩
    all_goals simp [isNm] at h
  · cases h
def numD : Nat → List Str → List (Key × D)
  | _, [] => []
  | k, s :: ns => (.inr s, .int k) :: numD (k + 1) ns
theorem numD_append : ∀ (k : Nat) (ns : List Str) (s : Str), numD k (ns ++ [s]) = numD k ns ++ [(.inr s, .int ((k + ns.length : Nat) : Int))]
  | k, [], s => by simp [numD]
  | k, n :: ns, s => by
    simp only [List.cons_append, numD, numD_append (k + 1) ns s, List.length_cons]
    rw [show k + 1 + ns.length = k + (ns.length + 1) by omega]
theorem look_num : ∀ (k : Nat) (ns : List Str) (s : Str), (look (.inr s) (numD k ns)).isSome = decide (s ∈ ns)
  | k, [], s => rfl
  | k, n :: ns, s => by
    have ih := look_num (k + 1) ns s
    unfold look at ih ⊢
    by_cases h : n = s
    · subst h; simp [numD]
    · have h' : ¬ s = n := fun e => h e.symm
      simp [numD, h, h'] at ih ⊢
      exact ih
theorem put_new {ns : List Str} {s : Str} (h : s ∉ ns) (d : D) (k : Nat) : put (.inr s) d (numD k ns) = numD k ns ++ [(.inr s, d)] := by
  have z := look_num k ns s
  simp only [h, decide_false, look, Option.isSome_map, Option.isSome_eq_false_iff, Option.isNone_iff_eq_none, List.find?_eq_none] at z
  unfold put
  rw [if_neg]
  intro hh
  obtain ⟨x, hx, hy⟩ := List.any_eq_true.mp hh
  exact z x hx hy
theorem numD_len : ∀ (k : Nat) (ns : List Str), (numD k ns).length = ns.length
  | _, [] => rfl
  | k, _ :: ns => by simp [numD, numD_len (k + 1) ns]
@[simp] theorem isIn_dic (s : Str) (kvs : List (Key × D)) : isIn (.str s) (.dic kvs) = some ((look (.inr s) kvs).isSome) := by simp [isIn, D.key]
theorem ok_wd {s : Str} (h : s ∈ wds) : (D.str s).ok = true := ok_of (by simpa [gd] using h) (by simp [dp])
theorem run_is_place {wf k : Nat} {x : D} {ns : List Str} (h : gd x = true) : run fns globs wf (k + 2) 3 [.dat x, .dat (.dic (numD 0 ns))] =
    some (.ok (.dat (.bl (placeOk x ns))), [.dat x, .dat (.dic (numD 0 ns))]) := by
  rw [run_of (f := 3) rfl rfl (ownKeep_dat rfl)]
  cases x
  case tup xs =>
    by_cases hl : xs.length = 2
    · obtain ⟨a, b, rfl⟩ := two_of hl
      simp at h
      have q1 := run_is_name (wf := wf) (k := k) h.1
      have q2 := run_is_count (wf := wf) (k := k) b 0
      cases a
      case str str =>
        by_cases h1 : str ∈ gnames <;> by_cases h2 : str ∈ ns <;> cases h3 : isCount b 0 <;> simp [c_is_place, q1, q2, placeOk, isNew, isNm, h1, h2, h3, look_num]
      all_goals simp [c_is_place, q1, isNm, placeOk]
    · have hl' : ¬ ((xs.length : Int) = 2) := by omega
      simp [c_is_place, hl', placeOk_no hl]
  all_goals simp [c_is_place, placeOk]
def placeE (k : Nat) : D := .tup [.str ⟨#[112, 108, 97, 99, 101]⟩, .int k]
theorem places_prog {wf k : Nat} {t e4 e5 e6 : MV} : ∀ (xs : List D) (ns : List Str) (e2 e3 : MV), gds xs = true → ns.length + xs.length < 16000000 → ∃ r',
    forLoop (forStep (run fns globs wf (k + 2)) globs wf (.tp (.cons (.nm 2) (.cons (.nm 3) .nil))) b_net_wrong_0) (enumD ns.length xs) [t, .dic (numD 0 ns), e2, e3, e4, e5, e6] = some (match placesS xs ns.length ns with
      | .inl j => (.ok (.ret (.dat (placeE j))), r')
      | .inr ns' => (.ok .nx, r')) ∧ ∀ ns', placesS xs ns.length ns = .inr ns' → ∃ e2' e3', r' = [t, .dic (numD 0 ns'), e2', e3', e4, e5, e6]
  | [], ns, e2, e3, h, hl => ⟨[t, .dic (numD 0 ns), e2, e3, e4, e5, e6], by simp [enumD, placesS], fun ns' e => by simp [placesS] at e; subst e; exact ⟨e2, e3, rfl⟩⟩
  | x :: xs, ns, e2, e3, h, hl => by
    simp at h hl
    have q := run_is_place (wf := wf) (k := k) (ns := ns) h.1
    simp only [enumD]
    rw [forLoop_cons]
    unfold placesS
    cases hp : placeOk x ns with
    | false =>
      rw [hp] at q
      refine ⟨[t, .dic (numD 0 ns), .dat (.int ns.length), .dat x, e4, e5, e6], ?_, fun ns' e => by simp at e⟩
      have hs : forStep (run fns globs wf (k + 2)) globs wf (.tp (.cons (.nm 2) (.cons (.nm 3) .nil))) b_net_wrong_0 (.tup [.int ns.length, x]) [t, .dic (numD 0 ns), e2, e3, e4, e5, e6] = some (.ok (.ret (.dat (placeE ns.length))), [t, .dic (numD 0 ns), .dat (.int ns.length), .dat x, e4, e5, e6]) := by
        simp [forStep, b_net_wrong_0, q, line, placeE]
      rw [hs, bind_ok]
      simp
    | true =>
      obtain ⟨s, b, rfl, s1, s2, s3⟩ := placeOk_inv hp
      rw [hp] at q
      obtain ⟨r', h1, h2⟩ := places_prog (wf := wf) (k := k) (t := t) (e4 := e4) (e5 := e5) (e6 := e6) xs (ns ++ [s]) (.dat (.int ns.length)) (.dat (.tup [.str s, b])) h.2 (by simp; omega)
      have hs : forStep (run fns globs wf (k + 2)) globs wf (.tp (.cons (.nm 2) (.cons (.nm 3) .nil))) b_net_wrong_0 (.tup [.int ns.length, .tup [.str s, b]]) [t, .dic (numD 0 ns), e2, e3, e4, e5, e6] = some (.ok .nx, [t, .dic (numD 0 (ns ++ [s])), .dat (.int ns.length), .dat (.tup [.str s, b]), e4, e5, e6]) := by
        have pn := put_new s2 (.int ns.length) 0
        have na := numD_append 0 ns s
        have ll := numD_len 0 ns
        have l2 : ns.length < line := by simp only [line]; omega
        simp [forStep, b_net_wrong_0, q, setIx, D.key, pn, na, ll, l2]
      rw [hs, bind_ok]
      simp only [List.length_append, List.length_cons, List.length_nil, Nat.zero_add] at h1 h2
      exact ⟨r', by simpa using h1, by simpa using h2⟩
end K05
set_option Elab.async false
set_option linter.all false
set_option maxRecDepth 100000
set_option maxHeartbeats 4000000
set_option autoImplicit false
namespace K05
open M
theorem gn_wd : ∀ s ∈ gnames, s ∈ wds := by decide +kernel
theorem names_ok {ns : List Str} (h : ∀ s ∈ ns, s ∈ wds) : (D.lst (ns.map .str)).ok = true := by
  refine ok_of ?_ ?_
  · simp only [gd_lst]
    refine gds_mem.mpr fun x hx => ?_
    obtain ⟨s, hs, rfl⟩ := List.mem_map.mp hx
    simpa [gd] using h s hs
  · have : dps (ns.map D.str) ≤ 0 := dps_le.mpr fun x hx => by
      obtain ⟨s, hs, rfl⟩ := List.mem_map.mp hx
      simp [dp]
    simp; omega
theorem eqD_str (a b : Str) : eqD (.str a) (.str b) = decide (a = b) := by
  by_cases h : a = b
  · simp [eqD, D.py, PySem.PyData.eqv, h]
  · simp [eqD, D.py, PySem.PyData.eqv, h]
theorem isIn_names {ns : List Str} {s : Str} (h : ∀ s ∈ ns, s ∈ wds) (hs : s ∈ wds) : isIn (.str s) (.lst (ns.map .str)) = some (decide (s ∈ ns)) := by
  simp only [isIn, ok_wd hs, names_ok h, Bool.and_self, if_true, Option.some.injEq]
  rw [List.any_map]
  induction ns with
  | nil => rfl
  | cons n ns ih =>
    have := ih fun x hx => h x (List.mem_cons_of_mem _ hx)
    simp only [List.any_cons, Function.comp, eqD_str, this]
    by_cases e : n = s
    · subst e; simp
    · have e' : ¬ s = n := fun z => e z.symm
      simp [e, e']
theorem lplaceOk {x : D} {ns : List Str} : placeOk x ns = (isTupN x 2 && (match x with
    | .tup [a, b] => isNm a && isCount b 0 && isNew a ns
    | _ => false)) := by
  cases x
  case tup xs =>
    by_cases hl : xs.length = 2
    · obtain ⟨a, b, rfl⟩ := two_of hl
      simp [placeOk, isTupN, Bool.and_assoc, Bool.and_comm]
    · have hl' : ¬ ((xs.length : Int) = 2) := by omega
      simp [placeOk_no hl, isTupN, hl']
  all_goals simp [placeOk, isTupN]
theorem places_law {wf k : Nat} {t : MV} {rest : List MV} : ∀ (xs : List D) (ns : List Str) (e2 e3 : MV), gds xs = true → (∀ s ∈ ns, s ∈ gnames) → ns.length + xs.length < 16000000 → ∃ r',
    forLoop (forStep (run fns globs wf (k + 1)) globs wf (.tp (.cons (.nm 2) (.cons (.nm 3) .nil))) b_law_due_0) (enumD ns.length xs) (t :: .lst (ns.map .str) :: e2 :: e3 :: rest) = some (match placesS xs ns.length ns with
      | .inl j => (.ok (.ret (.dat (placeE j))), r')
      | .inr ns' => (.ok .nx, r')) ∧ ∀ ns', placesS xs ns.length ns = .inr ns' → ∃ e2' e3', r' = t :: .lst (ns'.map .str) :: e2' :: e3' :: rest
  | [], ns, e2, e3, h, hg, hl => ⟨t :: .lst (ns.map .str) :: e2 :: e3 :: rest, by simp [enumD, placesS], fun ns' e => by simp [placesS] at e; subst e; exact ⟨e2, e3, rfl⟩⟩
  | x :: xs, ns, e2, e3, h, hg, hl => by
    simp at h hl
    have q0 := run_ltup (wf := wf) (k := k) x 2
    have hw : ∀ s ∈ ns, s ∈ wds := fun s hs => gn_wd s (hg s hs)
    simp only [enumD]
    rw [forLoop_cons]
    unfold placesS
    cases hp : placeOk x ns with
    | false =>
      have hs : forStep (run fns globs wf (k + 1)) globs wf (.tp (.cons (.nm 2) (.cons (.nm 3) .nil))) b_law_due_0 (.tup [.int ns.length, x]) (t :: .lst (ns.map .str) :: e2 :: e3 :: rest) = some (.ok (.ret (.dat (placeE ns.length))), t :: .lst (ns.map .str) :: .dat (.int ns.length) :: .dat x :: rest) := by
        cases hx : isTupN x 2 with
        | false =>
          rw [hx] at q0
          simp [forStep, b_law_due_0, q0, line, placeE]
        | true =>
          rw [hx] at q0
          cases x <;> simp [isTupN] at hx
          rename_i ys
          obtain ⟨a, b, rfl⟩ := two_of (by omega : ys.length = 2)
          simp at h
          have q1 := run_lname (wf := wf) (k := k) h.1.1
          have q2 := run_lcount (wf := wf) (k := k) b 0
          cases h1 : isNm a
          · simp [forStep, b_law_due_0, q0, q1, h1, line, placeE]
          · cases h2 : isCount b 0
            · simp [forStep, b_law_due_0, q0, q1, q2, h1, h2, line, placeE]
            · cases a <;> simp [isNm] at h1
              rename_i s
              simp [placeOk, isNm, isNew, h1, h2] at hp
              have q3 := isIn_names hw (gn_wd s h1)
              simp [forStep, b_law_due_0, q0, q1, q2, isNm, h1, h2, q3, hp, line, placeE]
      rw [hs, bind_ok]
      exact ⟨t :: .lst (ns.map .str) :: .dat (.int ns.length) :: .dat x :: rest, by simp, fun ns' e => by simp at e⟩
    | true =>
      obtain ⟨s, b, rfl, s1, s2, s3⟩ := placeOk_inv hp
      obtain ⟨r', h1, h2⟩ := places_law (wf := wf) (k := k) (t := t) (rest := rest) xs (ns ++ [s]) (.dat (.int ns.length)) (.dat (.tup [.str s, b])) h.2 (fun z hz => (List.mem_append.mp hz).elim (hg z) fun e => by rw [List.mem_singleton.mp e]; exact s1) (by simp; omega)
      have hs : forStep (run fns globs wf (k + 1)) globs wf (.tp (.cons (.nm 2) (.cons (.nm 3) .nil))) b_law_due_0 (.tup [.int ns.length, .tup [.str s, b]]) (t :: .lst (ns.map .str) :: e2 :: e3 :: rest) = some (.ok .nx, t :: .lst ((ns ++ [s]).map .str) :: .dat (.int ns.length) :: .dat (.tup [.str s, b]) :: rest) := by
        have q0' : isTupN (.tup [.str s, b]) 2 = true := by simp [isTupN]
        rw [q0'] at q0
        have g1 : gd (.str s) = true := by simpa [gd] using gn_wd s s1
        have q1 := run_lname (wf := wf) (k := k) g1
        have q2 := run_lcount (wf := wf) (k := k) b 0
        have q3 := isIn_names hw (gn_wd s s1)
        have l2 : ns.length < 16777216 := by omega
        simp [forStep, b_law_due_0, q0, q1, q2, isNm, s1, s3, q3, s2, muOk, mu, line, l2]
      rw [hs, bind_ok]
      simp only [List.length_append, List.length_cons, List.length_nil, Nat.zero_add] at h1 h2
      exact ⟨r', by simpa using h1, by simpa using h2⟩
end K05
set_option Elab.async false
set_option linter.all false
set_option maxRecDepth 100000
set_option maxHeartbeats 4000000
set_option autoImplicit false
namespace K05
open M
@[simp] theorem keep1 (d : D) (r : Env) : keepOwn [.dat d] r = [.dat d] := by cases r <;> simp [keepOwn]
@[simp] theorem keep2 (d e : D) (r : Env) : keepOwn [.dat d, .dat e] r = [.dat d, .dat e] := by
  match r with
  | [] => simp [keepOwn]
  | [_] => simp [keepOwn]
  | _ :: _ :: _ => simp [keepOwn]
def isLab : D → Bool
  | .str s => decide (s ∈ gnames) || decide (s = ⟨#[]⟩)
  | _ => false
def fireOk (x : D) (kn : List Str) : Bool := match x with
  | .tup [n, l, a, b] => isNm n && isNew n kn && isLab l && isParts a && isParts b
  | _ => false
def idxS (s : Str) : List Str → Option Nat
  | [] => none
  | n :: ns => if n = s then some 0 else (idxS s ns).map (· + 1)
theorem look_idx : ∀ (k : Nat) (ns : List Str) (s : Str), look (.inr s) (numD k ns) = (idxS s ns).map fun i => D.int ((k + i : Nat) : Int)
  | k, [], s => rfl
  | k, n :: ns, s => by
    have ih := look_idx (k + 1) ns s
    unfold look at ih ⊢
    by_cases h : n = s
    · subst h; simp [numD, idxS]
    · simp [numD, h, idxS] at ih ⊢
      rw [ih]
      cases idxS s ns <;> simp
      omega
theorem idxS_some {s : Str} {ns : List Str} : (idxS s ns).isSome = decide (s ∈ ns) := by
  have := look_num 0 ns s
  rw [look_idx, Option.isSome_map] at this
  exact this
def part1 (ns : List Str) : List D → Int → Nat → Nat ⊕ Nat
  | [], _, at_ => .inr at_
  | p :: ps, last, at_ => match idxS (nameOf p) ns with
    | none => .inl at_
    | some i => if (i : Int) ≤ last then .inl at_ else part1 ns ps i (at_ + 1)
def partw (ns : List Str) (as bs : List D) : Option Nat := match part1 ns as (-1) 0 with
  | .inl j => some j
  | .inr n => match part1 ns bs (-1) n with
    | .inl j => some j
    | .inr _ => none
theorem isPart_inv {p : D} (h : isPart p = true) : ∃ s c, p = .tup [.str s, c] ∧ s ∈ gnames ∧ isCount c 1 = true := by
  unfold isPart at h
  split at h
  · rename_i a b
    simp only [Bool.and_eq_true] at h
    cases a
    case str s => exact ⟨s, b, rfl, by simpa [isNm] using h.1, h.2⟩
    all_goals simp [isNm] at h
  · cases h
@[simp] theorem idx_dic (kvs : List (Key × D)) (s : Str) : idx (.dat (.dic kvs)) (.dat (.str s)) = (look (.inr s) kvs).map .dat := by simp [idx, D.key]
theorem part_in {wf k : Nat} {f e3 : MV} {ns : List Str} : ∀ (ps : List D) (last : Int) (at_ : Nat) (e5 e6 : MV), ps.all isPart = true → ∃ r',
    forLoop (forStep (run fns globs wf k) globs wf (.tp (.cons (.nm 5) (.cons (.nm 6) .nil))) b_part_wrong_0) ps [f, .dat (.dic (numD 0 ns)), .dat (.int at_), e3, .dat (.int last), e5, e6] = some (match part1 ns ps last at_ with
      | .inl j => (.ok (.ret (.dat (.int j))), r')
      | .inr _ => (.ok .nx, r')) ∧ ∀ a', part1 ns ps last at_ = .inr a' → ∃ l' e5' e6', r' = [f, .dat (.dic (numD 0 ns)), .dat (.int a'), e3, .dat (.int l'), e5', e6']
  | [], last, at_, e5, e6, h => ⟨[f, .dat (.dic (numD 0 ns)), .dat (.int at_), e3, .dat (.int last), e5, e6], by simp [part1], fun a' e => by simp [part1] at e; subst e; exact ⟨last, e5, e6, rfl⟩⟩
  | p :: ps, last, at_, e5, e6, h => by
    simp at h
    obtain ⟨s, c, rfl, s1, s2⟩ := isPart_inv h.1
    rw [forLoop_cons]
    unfold part1
    have hi := look_idx 0 ns s
    simp only [nameOf_tup]
    cases hx : idxS s ns with
    | none =>
      rw [hx] at hi
      have hs : forStep (run fns globs wf k) globs wf (.tp (.cons (.nm 5) (.cons (.nm 6) .nil))) b_part_wrong_0 (.tup [.str s, c]) [f, .dat (.dic (numD 0 ns)), .dat (.int at_), e3, .dat (.int last), e5, e6] = some (.ok (.ret (.dat (.int at_))), [f, .dat (.dic (numD 0 ns)), .dat (.int at_), e3, .dat (.int last), .dat (.str s), .dat c]) := by
        simp [forStep, b_part_wrong_0, hi]
      rw [hs, bind_ok]
      exact ⟨_, rfl, fun a' e => by cases e⟩
    | some i =>
      rw [hx] at hi
      simp at hi
      by_cases hl : (i : Int) ≤ last
      · have hs : forStep (run fns globs wf k) globs wf (.tp (.cons (.nm 5) (.cons (.nm 6) .nil))) b_part_wrong_0 (.tup [.str s, c]) [f, .dat (.dic (numD 0 ns)), .dat (.int at_), e3, .dat (.int last), e5, e6] = some (.ok (.ret (.dat (.int at_))), [f, .dat (.dic (numD 0 ns)), .dat (.int at_), e3, .dat (.int last), .dat (.str s), .dat c]) := by
          simp [forStep, b_part_wrong_0, hi, hl]
        rw [hs, bind_ok]
        simp only [hl, if_true]
        exact ⟨_, rfl, fun a' e => by cases e⟩
      · have hs : forStep (run fns globs wf k) globs wf (.tp (.cons (.nm 5) (.cons (.nm 6) .nil))) b_part_wrong_0 (.tup [.str s, c]) [f, .dat (.dic (numD 0 ns)), .dat (.int at_), e3, .dat (.int last), e5, e6] = some (.ok .nx, [f, .dat (.dic (numD 0 ns)), .dat (.int ((at_ + 1 : Nat) : Int)), e3, .dat (.int i), .dat (.str s), .dat c]) := by
          simp [forStep, b_part_wrong_0, hi, hl]
        rw [hs, bind_ok]
        simp only [hl, if_false]
        exact part_in ps i (at_ + 1) _ _ (by simpa using h.2)
def optD : Option Nat → D
  | none => .non
  | some j => .int j
theorem run_part_wrong {wf k : Nat} {n l : D} {as bs : List D} {ns : List Str} (ha : as.all isPart = true) (hb : bs.all isPart = true) : run fns globs wf (k + 1) 5 [.dat (.tup [n, l, .tup as, .tup bs]), .dat (.dic (numD 0 ns))] =
    some (.ok (.dat (optD (partw ns as bs))), [.dat (.tup [n, l, .tup as, .tup bs]), .dat (.dic (numD 0 ns))]) := by
  rw [run_of (f := 5) rfl rfl (ownKeep_dat rfl)]
  have hsl : sli (.dat (.tup [n, l, .tup as, .tup bs])) (some 2) none = some (.dat (.tup [.tup as, .tup bs])) := sli_from (n := 2)
  obtain ⟨r1, e1, f1⟩ := part_in (wf := wf) (k := k) (f := .dat (.tup [n, l, .tup as, .tup bs])) (e3 := .dat (.tup as)) (ns := ns) as (-1) 0 .no .no ha
  have st1 : forStep (run fns globs wf k) globs wf (.nm 3) b_part_wrong_1 (.tup as) [.dat (.tup [n, l, .tup as, .tup bs]), .dat (.dic (numD 0 ns)), .dat (.int 0), .no, .no, .no, .no] = some (match part1 ns as (-1) 0 with
      | .inl j => (.ok (.ret (.dat (.int j))), r1)
      | .inr _ => (.ok .nx, r1)) := by
    simp at e1
    simp [forStep, b_part_wrong_1, e1]
    cases part1 ns as (-1) 0 <;> simp
  unfold partw
  cases h1 : part1 ns as (-1) 0 with
  | inl j =>
    rw [h1] at st1
    simp [c_part_wrong, hsl, forLoop_cons, st1, optD]
  | inr m =>
    rw [h1] at st1
    obtain ⟨l', e5', e6', rfl⟩ := f1 m h1
    obtain ⟨r2, e2, f2⟩ := part_in (wf := wf) (k := k) (f := .dat (.tup [n, l, .tup as, .tup bs])) (e3 := .dat (.tup bs)) (ns := ns) bs (-1) m e5' e6' hb
    have st2 : forStep (run fns globs wf k) globs wf (.nm 3) b_part_wrong_1 (.tup bs) [.dat (.tup [n, l, .tup as, .tup bs]), .dat (.dic (numD 0 ns)), .dat (.int m), .dat (.tup as), .dat (.int l'), e5', e6'] = some (match part1 ns bs (-1) m with
        | .inl j => (.ok (.ret (.dat (.int j))), r2)
        | .inr _ => (.ok .nx, r2)) := by
      simp [forStep, b_part_wrong_1, e2]
      cases part1 ns bs (-1) m <;> simp
    cases h2 : part1 ns bs (-1) m with
    | inl j =>
      rw [h2] at st2
      simp [c_part_wrong, hsl, forLoop_cons, st1, st2, optD, h2]
    | inr m' =>
      rw [h2] at st2
      simp [c_part_wrong, hsl, forLoop_cons, st1, st2, optD, h2]
theorem fire_no {xs : List D} {kn : List Str} (h : xs.length ≠ 4) : fireOk (.tup xs) kn = false := by
  match xs, h with
  | [], _ => rfl
  | [_], _ => rfl
  | [_, _], _ => rfl
  | [_, _, _], _ => rfl
  | [_, _, _, _], h => exact absurd rfl h
  | _ :: _ :: _ :: _ :: _ :: _, _ => rfl
theorem four_of {xs : List D} (h : xs.length = 4) : ∃ a b c d, xs = [a, b, c, d] := by
  match xs, h with
  | [a, b, c, d], _ => exact ⟨a, b, c, d, rfl⟩
theorem ok_empty : (D.str ⟨#[]⟩).ok = true := by decide +kernel
theorem run_is_firing {wf k : Nat} {x : D} {kn : List Str} (h : gd x = true) : run fns globs wf (k + 3) 4 [.dat x, .dat (.dic (numD 0 kn))] = some (.ok (.dat (.bl (fireOk x kn))), [.dat x, .dat (.dic (numD 0 kn))]) := by
  rw [run_of (f := 4) rfl rfl (ownKeep_dat rfl)]
  cases x
  case tup xs =>
    by_cases hl : xs.length = 4
    · obtain ⟨n, l, a, b, rfl⟩ := four_of hl
      simp at h
      obtain ⟨g1, g2, g3, g4⟩ := h
      have q1 := run_is_name (wf := wf) (k := k + 1) g1
      have q2 := run_is_name (wf := wf) (k := k + 1) g2
      have q3 := run_are_parts (wf := wf) (k := k) g3
      have q4 := run_are_parts (wf := wf) (k := k) g4
      cases n
      case str s =>
        by_cases h1 : s ∈ gnames
        · by_cases h2 : s ∈ kn
          · simp [c_is_firing, q1, isNm, h1, h2, look_num, fireOk, isNew]
          · cases l
            case str sl =>
              have okl := ok_wd (gd_str g2)
              by_cases h3 : sl ∈ gnames
              · cases h4 : isParts a <;> cases h5 : isParts b <;> simp [c_is_firing, q1, q2, q3, q4, isNm, h1, h2, h3, h4, h5, look_num, fireOk, isNew, isLab]
              · by_cases h6 : sl = ⟨#[]⟩
                · subst h6
                  have h3' : ¬ (⟨#[]⟩ : Str) ∈ gnames := h3
                  cases h4 : isParts a <;> cases h5 : isParts b <;> simp [c_is_firing, q1, q2, q3, q4, isNm, h1, h2, h3', h4, h5, look_num, fireOk, isNew, isLab, ok_empty, eqD_str]
                · simp [c_is_firing, q1, q2, isNm, h1, h2, h3, h6, look_num, fireOk, isNew, isLab, okl, ok_empty, eqD_str]
            all_goals simp [c_is_firing, q1, q2, isNm, h1, h2, look_num, fireOk, isNew, isLab]
        · simp [c_is_firing, q1, isNm, h1, fireOk]
      all_goals simp [c_is_firing, q1, isNm, fireOk]
    · have hl' : ¬ ((xs.length : Int) = 4) := by omega
      simp [c_is_firing, hl', fire_no hl]
  all_goals simp [c_is_firing, fireOk]
end K05
set_option Elab.async false
set_option linter.all false
set_option maxRecDepth 100000
set_option maxHeartbeats 4000000
set_option autoImplicit false
namespace K05
open M
def fireE (k : Nat) : D := .tup [.str ⟨#[102, 105, 114, 105, 110, 103]⟩, .int k]
def partE (k j : Nat) : D := .tup [.str ⟨#[112, 97, 114, 116]⟩, .int k, .int j]
def partOf (ns : List Str) (x : D) : Option Nat := match x with
  | .tup [_, _, .tup as, .tup bs] => partw ns as bs
  | _ => none
def fires (ns : List Str) : List D → Nat → List Str → D ⊕ List Str
  | [], _, kn => .inr kn
  | x :: xs, k, kn => if fireOk x kn then (match partOf ns x with
    | some j => .inl (partE k j)
    | none => fires ns xs (k + 1) (kn ++ [nameOf x])) else .inl (fireE k)
theorem fireOk_inv {x : D} {kn : List Str} (h : fireOk x kn = true) : ∃ s l as bs, x = .tup [.str s, l, .tup as, .tup bs] ∧ s ∈ gnames ∧ s ∉ kn ∧ isLab l = true ∧ as.all isPart = true ∧ bs.all isPart = true := by
  unfold fireOk at h
  split at h
  · rename_i n l a b
    simp only [Bool.and_eq_true] at h
    obtain ⟨⟨⟨⟨h1, h2⟩, h3⟩, h4⟩, h5⟩ := h
    cases n <;> simp [isNm] at h1
    cases a <;> simp only [isParts, Bool.false_eq_true] at h4
    cases b <;> simp only [isParts, Bool.false_eq_true] at h5
    exact ⟨_, _, _, _, rfl, h1, by simpa [isNew] using h2, h3, h4, h5⟩
  · cases h
theorem fires_prog {wf k : Nat} {t e3 : MV} {ns : List Str} : ∀ (xs : List D) (kn : List Str) (e2 e5 e6 : MV), gds xs = true → kn.length + xs.length < 16000000 → ∃ r',
    forLoop (forStep (run fns globs wf (k + 3)) globs wf (.tp (.cons (.nm 2) (.cons (.nm 5) .nil))) b_net_wrong_1) (enumD kn.length xs) [t, .dic (numD 0 ns), e2, e3, .dic (numD 0 kn), e5, e6] = some (match fires ns xs kn.length kn with
      | .inl d => (.ok (.ret (.dat d)), r')
      | .inr _ => (.ok .nx, r')) ∧ ∀ kn', fires ns xs kn.length kn = .inr kn' → ∃ e1' r'', r' = t :: e1' :: r''
  | [], kn, e2, e5, e6, h, hl => ⟨[t, .dic (numD 0 ns), e2, e3, .dic (numD 0 kn), e5, e6], by simp [enumD, fires], fun kn' e => ⟨_, _, rfl⟩⟩
  | x :: xs, kn, e2, e5, e6, h, hl => by
    simp at h hl
    have q := run_is_firing (wf := wf) (k := k) (kn := kn) h.1
    simp only [enumD]
    rw [forLoop_cons]
    unfold fires
    cases hp : fireOk x kn with
    | false =>
      rw [hp] at q
      have hs : forStep (run fns globs wf (k + 3)) globs wf (.tp (.cons (.nm 2) (.cons (.nm 5) .nil))) b_net_wrong_1 (.tup [.int kn.length, x]) [t, .dic (numD 0 ns), e2, e3, .dic (numD 0 kn), e5, e6] = some (.ok (.ret (.dat (fireE kn.length))), [t, .dic (numD 0 ns), .dat (.int kn.length), e3, .dic (numD 0 kn), .dat x, e6]) := by
        simp [forStep, b_net_wrong_1, q, line, fireE]
      rw [hs, bind_ok]
      exact ⟨_, rfl, fun kn' e => by simp at e⟩
    | true =>
      obtain ⟨s, l, as, bs, rfl, s1, s2, s3, s4, s5⟩ := fireOk_inv hp
      rw [hp] at q
      have q2 := run_part_wrong (wf := wf) (k := k + 2) (n := .str s) (l := l) (ns := ns) s4 s5
      have pn := put_new s2 (.int kn.length) 0
      have na := numD_append 0 kn s
      have ll := numD_len 0 kn
      have l2 : kn.length < 16777216 := by omega
      cases hw : partw ns as bs with
      | some j =>
        rw [hw] at q2
        have hs : forStep (run fns globs wf (k + 3)) globs wf (.tp (.cons (.nm 2) (.cons (.nm 5) .nil))) b_net_wrong_1 (.tup [.int kn.length, .tup [.str s, l, .tup as, .tup bs]]) [t, .dic (numD 0 ns), e2, e3, .dic (numD 0 kn), e5, e6] = some (.ok (.ret (.dat (partE kn.length j))), [t, .dic (numD 0 ns), .dat (.int kn.length), e3, .dic (numD 0 (kn ++ [s])), .dat (.tup [.str s, l, .tup as, .tup bs]), .dat (.int j)]) := by
          simp [forStep, b_net_wrong_1, q, q2, setIx, D.key, pn, na, ll, l2, line, optD, partE]
        rw [hs, bind_ok]
        simp only [partOf, hw, if_true]
        exact ⟨_, rfl, fun kn' e => by cases e⟩
      | none =>
        rw [hw] at q2
        have hs : forStep (run fns globs wf (k + 3)) globs wf (.tp (.cons (.nm 2) (.cons (.nm 5) .nil))) b_net_wrong_1 (.tup [.int kn.length, .tup [.str s, l, .tup as, .tup bs]]) [t, .dic (numD 0 ns), e2, e3, .dic (numD 0 kn), e5, e6] = some (.ok .nx, [t, .dic (numD 0 ns), .dat (.int kn.length), e3, .dic (numD 0 (kn ++ [s])), .dat (.tup [.str s, l, .tup as, .tup bs]), .dat .non]) := by
          simp [forStep, b_net_wrong_1, q, q2, setIx, D.key, pn, na, ll, l2, line, optD]
        obtain ⟨r', h1, h2⟩ := fires_prog (wf := wf) (k := k) (t := t) (e3 := e3) (ns := ns) xs (kn ++ [s]) (.dat (.int kn.length)) (.dat (.tup [.str s, l, .tup as, .tup bs])) (.dat .non) h.2 (by simp; omega)
        rw [hs, bind_ok]
        simp only [List.length_append, List.length_cons, List.length_nil, Nat.zero_add] at h1 h2
        exact ⟨r', by simpa [partOf, hw] using h1, by simpa [partOf, hw] using h2⟩
def netE : D := .tup [.str ⟨#[110, 101, 116]⟩]
def greatE : D := .tup [.str ⟨#[103, 114, 101, 97, 116]⟩]
def wrong2 (a b : D) : D := match a, b with
  | .tup ps, .tup fs => if ps.isEmpty then netE else match placesS ps 0 [] with
    | .inl k => placeE k
    | .inr ns => match fires ns fs 0 [] with
      | .inl e => e
      | .inr _ => if 40 < ps.length ∨ 60 < fs.length then greatE else .non
  | _, _ => netE
def wrong (d : D) : D := match d with
  | .tup [a, b] => wrong2 a b
  | _ => netE
theorem wrong_no {xs : List D} (h : xs.length ≠ 2) : wrong (.tup xs) = netE := by
  match xs, h with
  | [], _ => rfl
  | [_], _ => rfl
  | [_, _], h => exact absurd rfl h
  | _ :: _ :: _ :: _, _ => rfl
theorem run_net_wrong {wf k : Nat} {x : D} (h : Cl 60 10000000 x) : run fns globs wf (k + 4) 6 [.dat x] = some (.ok (.dat (wrong x)), [.dat x]) := by
  rw [run_of (f := 6) rfl rfl (ownKeep_dat rfl)]
  cases x
  case tup xs =>
    by_cases hl : xs.length = 2
    · obtain ⟨a, b, rfl⟩ := two_of hl
      obtain ⟨hx, hs⟩ := cl_seq (n := 59) h
      have ha := hx a (by simp)
      have hb := hx b (by simp)
      cases a
      case tup ps =>
        cases b
        case tup fs =>
          have okp : (D.tup ps).ok = true := ok_of ha.1 (by omega)
          have ok0 : (D.tup []).ok = true := by decide +kernel
          have gp : gds ps = true := by simpa using ha.1
          have gf : gds fs = true := by simpa using hb.1
          simp only [szs_cons, szs_nil, sz_tup] at hs
          have lp := szs_len ps
          have lf := szs_len fs
          by_cases he : ps = []
          · subst he
            simp [c_net_wrong, ok0, eqD_empty, line, wrong, wrong2, netE]
          · have he' : ps.isEmpty = false := by cases ps <;> first | rfl | exact absurd rfl he
            obtain ⟨r1, p1, p2⟩ := places_prog (wf := wf) (k := k + 1) (t := .dat (.tup [.tup ps, .tup fs])) (e4 := .no) (e5 := .no) (e6 := .no) ps [] .no .no gp (by simp; omega)
            simp only [List.length_nil, numD] at p1 p2
            cases hp : placesS ps 0 [] with
            | inl j =>
              rw [hp] at p1
              simp [c_net_wrong, okp, ok0, eqD_empty, he', line, p1, wrong, wrong2, hp]
            | inr ns =>
              rw [hp] at p1
              obtain ⟨e2', e3', rfl⟩ := p2 ns hp
              obtain ⟨r2, f1, f2⟩ := fires_prog (wf := wf) (k := k) (t := .dat (.tup [.tup ps, .tup fs])) (e3 := e3') (ns := ns) fs [] e2' .no .no gf (by simp; omega)
              simp only [List.length_nil, numD] at f1 f2
              cases hf : fires ns fs 0 [] with
              | inl e =>
                rw [hf] at f1
                simp [c_net_wrong, okp, ok0, eqD_empty, he', line, p1, f1, wrong, wrong2, hp, hf]
              | inr kn =>
                rw [hf] at f1
                obtain ⟨e1', r'', rfl⟩ := f2 kn hf
                have w1 : decide ((40 : Int) < (ps.length : Int)) = decide (40 < ps.length) := by by_cases h : 40 < ps.length <;> simp [h] <;> omega
                have w2 : decide ((60 : Int) < (fs.length : Int)) = decide (60 < fs.length) := by by_cases h : 60 < fs.length <;> simp [h] <;> omega
                by_cases g1 : 40 < ps.length
                · have w1' : decide ((40 : Int) < (ps.length : Int)) = true := by rw [w1]; simpa using g1
                  simp [c_net_wrong, okp, ok0, eqD_empty, he', line, p1, f1, wrong, wrong2, hp, hf, globs, w1', g1, greatE]
                · have w1' : decide ((40 : Int) < (ps.length : Int)) = false := by rw [w1]; simpa using g1
                  by_cases g2 : 60 < fs.length
                  · have w2' : decide ((60 : Int) < (fs.length : Int)) = true := by rw [w2]; simpa using g2
                    simp [c_net_wrong, okp, ok0, eqD_empty, he', line, p1, f1, wrong, wrong2, hp, hf, globs, w1', w2', g1, g2, greatE]
                  · have w2' : decide ((60 : Int) < (fs.length : Int)) = false := by rw [w2]; simpa using g2
                    simp [c_net_wrong, okp, ok0, eqD_empty, he', line, p1, f1, wrong, wrong2, hp, hf, globs, w1', w2', g1, g2]
        all_goals simp [c_net_wrong, line, wrong, wrong2, netE]
      all_goals simp [c_net_wrong, line, wrong, wrong2, netE]
    · have hl' : ¬ ((xs.length : Int) = 2) := by omega
      simp [c_net_wrong, hl', wrong_no hl, line, netE]
  all_goals simp [c_net_wrong, wrong, wrong2, line, netE]
end K05
set_option Elab.async false
set_option linter.all false
set_option maxRecDepth 100000
set_option maxHeartbeats 4000000
set_option autoImplicit false
namespace K05
open M
theorem firstIx_names {s : Str} : ∀ (ns : List Str) (n : Nat), firstIx (.str s) (ns.map .str) n = (idxS s ns).map (n + ·)
  | [], n => rfl
  | a :: ns, n => by
    simp only [List.map_cons, firstIx, eqD_str, idxS]
    by_cases h : a = s
    · simp [h]
    · simp only [h, decide_false, Bool.false_eq_true, if_false, firstIx_names ns (n + 1)]
      cases idxS s ns <;> simp
      omega
theorem me_index {ns : List Str} {s : Str} {i : Nat} (h : ∀ s ∈ ns, s ∈ wds) (hs : s ∈ wds) (hi : idxS s ns = some i) : me .index (.blst (ns.map .str)) [.dat (.str s)] = some (.dat (.int i)) := by
  have e := firstIx_names (s := s) ns 0
  rw [hi] at e
  simp only [me, fz_blst, fz_dat, names_ok h, ok_wd hs, Bool.and_self, if_true, e]
  simp
theorem eqD_lempty (xs : List D) : eqD (.lst xs) (.lst []) = xs.isEmpty := by
  cases xs <;> simp [eqD, D.py, D.pyAll, PySem.PyData.eqv, PySem.PyData.eqvAll]
theorem idx_last {xs : List D} {d : D} (h : xs.getLast? = some d) : idx (.dat (.lst xs)) (.dat (.int (-1))) = some (.dat d) := by
  have hne : xs ≠ [] := by rintro rfl; simp at h
  have hp := List.length_pos_iff.mpr hne
  rw [List.getLast?_eq_getElem?] at h
  have e : L2.ixN xs.length (-1) = some (xs.length - 1) := by
    unfold L2.ixN
    rw [if_neg (by omega), if_pos (by omega)]
    congr 1
    omega
  simp [idx, ix, L2.atI, e, h]
theorem names_lc {wf k : Nat} {e0 e1 e2 e3 e4 e5 e6 e7 e8 : MV} : ∀ (ps acc : List D), ps.all isPart = true →
    lcLoop (lcStep (run fns globs wf k) globs [9] (.nm 9) .no x_law_due_0) ps acc [e0, e1, e2, e3, e4, e5, e6, e7, e8, .no] = some (.ok (acc ++ ps.map fun p => .str (nameOf p)), [e0, e1, e2, e3, e4, e5, e6, e7, e8, .no])
  | [], acc, h => by simp
  | p :: ps, acc, h => by
    simp at h
    obtain ⟨s, c, rfl, _, _⟩ := isPart_inv h.1
    have hs : lcStep (run fns globs wf k) globs [9] (.nm 9) .no x_law_due_0 (.tup [.str s, c]) [e0, e1, e2, e3, e4, e5, e6, e7, e8, .no] = some (.ok (some (.str s)), [e0, e1, e2, e3, e4, e5, e6, e7, e8, .no]) := by
      simp [lcStep, x_law_due_0]
    rw [lcLoop_cons, hs, bind_ok, names_lc ps _ (by simpa using h.2)]
    simp
theorem range_succ (lo : Nat) (n : Nat) : range (lo : Int) (n + 1) = .int lo :: range ((lo + 1 : Nat) : Int) n := by
  unfold range
  rw [List.range_succ_eq_map]
  simp only [List.map_cons, List.map_map]
  congr 1
  refine List.map_congr_left fun i _ => ?_
  simp only [Function.comp]
  congr 1
  omega
theorem range_add (lo : Nat) (m n : Nat) : range (lo : Int) (m + n) = range (lo : Int) m ++ range ((lo + m : Nat) : Int) n := by
  induction m generalizing lo with
  | zero => simp [range]
  | succ m ih => rw [show m + 1 + n = (m + n) + 1 by omega, range_succ, range_succ, ih (lo + 1), List.cons_append, show lo + 1 + m = lo + (m + 1) by omega]
theorem isIn_D {ns : List Str} {s : Str} (h : ∀ s ∈ ns, s ∈ wds) (hs : s ∈ wds) : isIn (.str s) (.lst (ns.map .str)) = some (idxS s ns).isSome := by
  rw [isIn_names h hs, idxS_some]
theorem look_step {wf k kk : Nat} {e0 e3 e4 : MV} {n l : D} {as bs : List D} {ns : List Str} {j : Nat} {e7 e8 : MV} {both : List D} {ah : List Str} {s : Str} {c : D} (hn : ∀ s ∈ ns, s ∈ gnames) (hb : both.all isPart = true) (hj : both[j]? = some (.tup [.str s, c])) (hs : s ∈ gnames)
    (hah : ((both.take j).drop (if as.length ≤ j then as.length else 0)).map nameOf = ah) (hl : both.length < 10000000) (hla : as.length ≤ both.length)
    (hag : ∀ a ∈ ah, a ∈ gnames) (last : Int) (hlast : (ah = [] ∧ last = -1) ∨ ∃ a i, ah.getLast? = some a ∧ idxS a ns = some i ∧ last = (i : Int)) :
    ∃ e7' e8', forStep (run fns globs wf k) globs wf (.nm 7) b_law_due_1 (.int j) [e0, .lst (ns.map .str), .dat (.int kk), e3, e4, .dat (.tup [n, l, .tup as, .tup bs]), .dat (.tup both), e7, e8, .no] =
      some (.ok (match idxS s ns with
        | none => .ret (.dat (partE kk j))
        | some i => if (i : Int) ≤ last then .ret (.dat (partE kk j)) else .nx), [e0, .lst (ns.map .str), .dat (.int kk), e3, e4, .dat (.tup [n, l, .tup as, .tup bs]), .dat (.tup both), e7', e8', .no]) := by
  have hw : ∀ s ∈ ns, s ∈ wds := fun s h => gn_wd s (hn s h)
  have hjl : j < both.length := (List.getElem?_eq_some_iff.mp hj).1
  have hx : idx (.dat (.tup both)) (.dat (.int (j : Int))) = some (.dat (.tup [.str s, c])) := by
    rw [idxT hjl, (List.getElem?_eq_some_iff.mp hj).2]
  have htk : (both.take j).all isPart = true := by
    rw [List.all_eq_true] at hb ⊢
    exact fun x hx => hb x (List.mem_of_mem_take hx)
  have m0 : ∀ z, mulOk (as.length : Int) z = true := fun z => mulOk_l (by omega)
  have lc := names_lc (wf := wf) (k := k) (e0 := e0) (e1 := .lst (ns.map .str)) (e2 := .dat (.int kk)) (e3 := e3) (e4 := e4) (e5 := .dat (.tup [n, l, .tup as, .tup bs])) (e6 := .dat (.tup both)) (e7 := .dat (.int j)) (e8 := e8) (both.take j) [] htk
  have hsl : sli (.lst ((both.take j).map fun p => D.str (nameOf p))) (some ((as.length : Int) * (if as.length ≤ j then 1 else 0))) none = some (.lst (ah.map .str)) := by
    have e : (as.length : Int) * (if as.length ≤ j then 1 else 0) = ((if as.length ≤ j then as.length else 0 : Nat) : Int) := by
      by_cases h : as.length ≤ j
      · rw [if_pos h, if_pos h]; simp
      · rw [if_neg h, if_neg h]; simp
    rw [e]
    simp only [sli, list_lst, cut_from, mkL_true, Option.some.injEq, MV.lst.injEq]
    rw [← hah, List.map_map, ← List.map_drop]
    rfl
  have q3 := isIn_D (s := s) hw (gn_wd s hs)
  have okl : (D.lst (ah.map .str)).ok = true := names_ok fun a h => gn_wd a (hag a h)
  have ok0 : (D.lst []).ok = true := by decide +kernel
  refine ⟨.dat (.int j), .dat (.lst (ah.map .str)), ?_⟩
  cases hi : idxS s ns with
  | none =>
    rw [hi] at q3
    simp [-List.map_take, forStep, b_law_due_1, lc, hsl, m0, hx, q3, line, partE, bi]
  | some i =>
    rw [hi] at q3
    have mi := me_index hw (gn_wd s hs) hi
    rcases hlast with ⟨rfl, rfl⟩ | ⟨a, i', ha, hi', rfl⟩
    · have hneg : ¬ ((i : Int) ≤ -1) := by omega
      simp [-List.map_take, forStep, b_law_due_1, lc, hsl, m0, hx, q3, line, partE, bi, okl, ok0, eqD_lempty, hneg]
    · have hne : (ah.map D.str).isEmpty = false := by cases ah <;> first | rfl | simp at ha
      have hag' := hag a (List.mem_of_getLast? ha)
      have ml := me_index hw (gn_wd a hag') hi'
      have il := idx_last (xs := ah.map .str) (d := .str a) (by rw [List.getLast?_map, ha]; rfl)
      by_cases hle : (i : Int) ≤ (i' : Int)
      · simp [-List.map_take, forStep, b_law_due_1, lc, hsl, m0, hx, q3, line, partE, bi, okl, ok0, eqD_lempty, hne, ml, mi, il, hle, meTyOk]
      · simp [-List.map_take, forStep, b_law_due_1, lc, hsl, m0, hx, q3, line, partE, bi, okl, ok0, eqD_lempty, hne, ml, mi, il, hle, meTyOk]
end K05
set_option Elab.async false
set_option linter.all false
set_option maxRecDepth 100000
set_option maxHeartbeats 4000000
set_option autoImplicit false
namespace K05
open M
theorem part1_inr {ns : List Str} : ∀ (ps : List D) (last : Int) (a b : Nat), part1 ns ps last a = .inr b → b = a + ps.length
  | [], last, a, b, h => by simp [part1] at h; simp [h]
  | p :: ps, last, a, b, h => by
    unfold part1 at h
    split at h
    · cases h
    · split at h
      · cases h
      · have := part1_inr ps _ _ _ h
        simp only [List.length_cons]
        omega
def LastOk (ns : List Str) (sd : List D) (last : Int) : Prop := (sd = [] ∧ last = -1) ∨ ∃ p i, sd.getLast? = some p ∧ idxS (nameOf p) ns = some i ∧ last = (i : Int)
theorem seg_law {wf k kk : Nat} {e0 e3 e4 : MV} {n l : D} {as bs : List D} {ns : List Str} {both pre post : List D} (hn : ∀ s ∈ ns, s ∈ gnames) (hb : both.all isPart = true) (hl : both.length < 10000000) (hla : as.length ≤ both.length) :
    ∀ (sr sd : List D) (last : Int) (e7 e8 : MV), both = pre ++ sd ++ sr ++ post → (∀ j, pre.length ≤ j → j < pre.length + sd.length + sr.length → (if as.length ≤ j then as.length else 0) = pre.length) → LastOk ns sd last →
    ∃ r', forLoop (forStep (run fns globs wf k) globs wf (.nm 7) b_law_due_1) (range ((pre.length + sd.length : Nat) : Int) sr.length) [e0, .lst (ns.map .str), .dat (.int kk), e3, e4, .dat (.tup [n, l, .tup as, .tup bs]), .dat (.tup both), e7, e8, .no] =
      some (match part1 ns sr last (pre.length + sd.length) with
        | .inl j => (.ok (.ret (.dat (partE kk j))), r')
        | .inr _ => (.ok .nx, r')) ∧ ∀ m, part1 ns sr last (pre.length + sd.length) = .inr m → ∃ e7' e8', r' = [e0, .lst (ns.map .str), .dat (.int kk), e3, e4, .dat (.tup [n, l, .tup as, .tup bs]), .dat (.tup both), e7', e8', .no]
  | [], sd, last, e7, e8, he, ho, hlast => ⟨_, by simp only [List.length_nil, range, List.range_zero, List.map_nil, forLoop_nil, part1], fun m e => ⟨e7, e8, rfl⟩⟩
  | p :: sr, sd, last, e7, e8, he, ho, hlast => by
    have hp : isPart p = true := List.all_eq_true.mp hb p (by rw [he]; simp)
    obtain ⟨s, c, rfl, s1, s2⟩ := isPart_inv hp
    have hj : both[pre.length + sd.length]? = some (.tup [.str s, c]) := by
      rw [he, List.append_assoc, List.getElem?_append_right (by simp)]
      simp
    have htk : (both.take (pre.length + sd.length)).drop pre.length = sd := by
      rw [he, List.append_assoc, List.take_append_of_le_length (by simp), List.take_of_length_le (by simp), List.drop_append_of_le_length (by simp)]
      simp
    have hah : ((both.take (pre.length + sd.length)).drop (if as.length ≤ pre.length + sd.length then as.length else 0)).map nameOf = sd.map nameOf := by
      rw [ho _ (by omega) (by simp only [List.length_cons]; omega), htk]
    have hag : ∀ a ∈ sd.map nameOf, a ∈ gnames := fun a ha => by
      obtain ⟨q, hq, rfl⟩ := List.mem_map.mp ha
      obtain ⟨t, c', rfl, t1, _⟩ := isPart_inv (List.all_eq_true.mp hb q (by rw [he]; simp [hq]))
      exact t1
    have hlast' : (sd.map nameOf = [] ∧ last = -1) ∨ ∃ a i, (sd.map nameOf).getLast? = some a ∧ idxS a ns = some i ∧ last = (i : Int) := by
      rcases hlast with ⟨rfl, rfl⟩ | ⟨q, i, h1, h2, h3⟩
      · exact .inl ⟨rfl, rfl⟩
      · exact .inr ⟨nameOf q, i, by rw [List.getLast?_map, h1]; rfl, h2, h3⟩
    obtain ⟨e7', e8', hs⟩ := look_step (wf := wf) (k := k) (kk := kk) (e0 := e0) (e3 := e3) (e4 := e4) (n := n) (l := l) (as := as) (bs := bs) (e7 := e7) (e8 := e8) hn hb hj s1 hah hl hla hag last hlast'
    simp only [List.length_cons]
    rw [range_succ, forLoop_cons, hs, bind_ok]
    unfold part1
    simp only [nameOf_tup]
    cases hi : idxS s ns with
    | none => exact ⟨_, rfl, fun m e => by cases e⟩
    | some i =>
      by_cases hle : (i : Int) ≤ last
      · simp only [hle, if_true]
        exact ⟨_, rfl, fun m e => by cases e⟩
      · simp only [hle, if_false]
        have := seg_law (wf := wf) (k := k) (kk := kk) (e0 := e0) (e3 := e3) (e4 := e4) (n := n) (l := l) (as := as) (bs := bs) (pre := pre) (post := post) hn hb hl hla sr (sd ++ [.tup [.str s, c]]) i e7' e8' (by rw [he]; simp) (fun j h1 h2 => ho j h1 (by simp only [List.length_append, List.length_cons, List.length_nil] at h2 ⊢; omega)) (.inr ⟨.tup [.str s, c], i, by simp, by simpa using hi, rfl⟩)
        simp only [List.length_append, List.length_cons, List.length_nil, Nat.zero_add, ← Nat.add_assoc] at this
        exact this
mutual
def nbS : CS → Bool
  | .ite _ a b => nbSs a && nbSs b
  | .asg _ _ _ => true
  | .exp _ => true
  | .ret _ => true
  | .retN => true
  | .pass => true
  | _ => false
def nbSs : List CS → Bool
  | [] => true
  | s :: ss => nbS s && nbSs ss
end
theorem bind_brk {α : Type} {m : R α} {f : α → Env → R Flow} {r' : Env} (h : R.bind m f = some (.ok .brk, r')) : ∃ a r1, f a r1 = some (.ok .brk, r') := by
  cases m with
  | none => cases h
  | some z =>
    obtain ⟨o, r1⟩ := z
    cases o with
    | error e => cases h
    | ok a => exact ⟨a, r1, h⟩
mutual
theorem nb_exec {call : Call} {glob : Nat → Option D} {wf : Nat} : ∀ (s : CS) (r r' : Env), nbS s = true → exec call glob wf s r ≠ some (.ok .brk, r')
  | .ite c a b, r, r', h, e => by
    simp only [nbS, Bool.and_eq_true] at h
    rw [ex_ite] at e
    obtain ⟨x, r1, e⟩ := bind_brk e
    split at e
    · cases e
    · exact nb_execs a _ _ h.1 e
    · exact nb_execs b _ _ h.2 e
  | .asg _ _ _, r, r', h, e => by
    rw [ex_asg] at e
    obtain ⟨x, r1, e⟩ := bind_brk e
    split at e <;> cases e
  | .exp _, r, r', h, e => by
    rw [ex_exp] at e
    obtain ⟨x, r1, e⟩ := bind_brk e
    cases e
  | .ret _, r, r', h, e => by
    rw [ex_ret] at e
    obtain ⟨x, r1, e⟩ := bind_brk e
    split at e <;> cases e
  | .retN, r, r', h, e => by rw [ex_retN] at e; cases e
  | .pass, r, r', h, e => by rw [ex_pass] at e; cases e
  | .brk, _, _, h, _ => by simp [nbS] at h
  | .cnt, _, _, h, _ => by simp [nbS] at h
  | .seti _ _ _, _, _, h, _ => by simp [nbS] at h
  | .aug _ _ _, _, _, h, _ => by simp [nbS] at h
  | .for _ _ _, _, _, h, _ => by simp [nbS] at h
  | .while _ _, _, _, h, _ => by simp [nbS] at h
theorem nb_execs {call : Call} {glob : Nat → Option D} {wf : Nat} : ∀ (ss : List CS) (r r' : Env), nbSs ss = true → execs call glob wf ss r ≠ some (.ok .brk, r')
  | [], r, r', h, e => by rw [exs_nil] at e; cases e
  | s :: ss, r, r', h, e => by
    simp only [nbSs, Bool.and_eq_true] at h
    rw [exs_cons] at e
    cases hx : exec call glob wf s r with
    | none => rw [hx] at e; cases e
    | some z =>
      obtain ⟨o, r1⟩ := z
      rw [hx] at e
      cases o with
      | error x => cases e
      | ok f =>
        cases f with
        | nx => exact nb_execs ss _ _ h.2 e
        | brk => exact nb_exec s _ _ h.1 hx
        | cnt => cases e
        | ret m => cases e
end
theorem nb_for {call : Call} {glob : Nat → Option D} {wf : Nat} {t : CT} {b : List CS} (h : nbSs b = true) (x : D) (r r' : Env) : forStep call glob wf t b x r ≠ some (.ok .brk, r') := fun e => by
  unfold forStep at e
  split at e
  · cases e
  · exact nb_execs b _ _ h e
theorem forLoop_nx {body : D → Env → R Flow} : ∀ {xs ys : List D} {r r1 : Env}, (∀ x r r', body x r ≠ some (.ok .brk, r')) → forLoop body xs r = some (.ok .nx, r1) → forLoop body (xs ++ ys) r = forLoop body ys r1
  | [], ys, r, r1, hb, h => by simp at h; rw [h]; rfl
  | x :: xs, ys, r, r1, hb, h => by
    rw [forLoop_cons] at h
    rw [List.cons_append, forLoop_cons]
    cases hx : body x r with
    | none => rw [hx] at h; cases h
    | some z =>
      obtain ⟨o, r2⟩ := z
      rw [hx] at h
      cases o with
      | error e => cases h
      | ok f =>
        cases f with
        | nx => exact forLoop_nx hb h
        | cnt => exact forLoop_nx hb h
        | brk => exact absurd hx (hb x r r2)
        | ret m => cases h
theorem forLoop_ret {body : D → Env → R Flow} {m : MV} : ∀ {xs ys : List D} {r r1 : Env}, forLoop body xs r = some (.ok (.ret m), r1) → forLoop body (xs ++ ys) r = some (.ok (.ret m), r1)
  | [], ys, r, r1, h => by simp at h
  | x :: xs, ys, r, r1, h => by
    rw [forLoop_cons] at h
    rw [List.cons_append, forLoop_cons]
    cases hx : body x r with
    | none => rw [hx] at h; cases h
    | some z =>
      obtain ⟨o, r2⟩ := z
      rw [hx] at h
      cases o with
      | error e => cases h
      | ok f =>
        cases f with
        | nx => exact forLoop_ret h
        | cnt => exact forLoop_ret h
        | brk => cases h
        | ret m' => exact h
theorem both_law {wf k kk : Nat} {e0 e3 e4 e7 e8 : MV} {n l : D} {as bs : List D} {ns : List Str} (hn : ∀ s ∈ ns, s ∈ gnames) (ha : as.all isPart = true) (hb : bs.all isPart = true) (hl : as.length + bs.length < 10000000) :
    ∃ r', forLoop (forStep (run fns globs wf k) globs wf (.nm 7) b_law_due_1) (range 0 (as.length + bs.length)) [e0, .lst (ns.map .str), .dat (.int kk), e3, e4, .dat (.tup [n, l, .tup as, .tup bs]), .dat (.tup (as ++ bs)), e7, e8, .no] =
      some (match partw ns as bs with
        | some j => (.ok (.ret (.dat (partE kk j))), r')
        | none => (.ok .nx, r')) ∧ (partw ns as bs = none → ∃ e7' e8', r' = [e0, .lst (ns.map .str), .dat (.int kk), e3, e4, .dat (.tup [n, l, .tup as, .tup bs]), .dat (.tup (as ++ bs)), e7', e8', .no]) := by
  have hall : (as ++ bs).all isPart = true := by rw [List.all_append, ha, hb]; rfl
  have hlen : (as ++ bs).length < 10000000 := by rw [List.length_append]; exact hl
  have hla : as.length ≤ (as ++ bs).length := by simp
  obtain ⟨r1, p1, p2⟩ := seg_law (wf := wf) (k := k) (kk := kk) (e0 := e0) (e3 := e3) (e4 := e4) (n := n) (l := l) (as := as) (bs := bs) (both := as ++ bs) (pre := []) (post := bs) hn hall hlen hla as [] (-1) e7 e8 (by simp) (fun j h1 h2 => by simp at h2; rw [if_neg (by omega)]; rfl) (.inl ⟨rfl, rfl⟩)
  simp only [List.length_nil, Nat.zero_add, Nat.add_zero] at p1 p2
  have ra := range_add 0 as.length bs.length
  simp only [Nat.zero_add] at ra
  have r0 : ((0 : Nat) : Int) = 0 := rfl
  rw [r0] at ra p1
  rw [ra]
  unfold partw
  cases h1 : part1 ns as (-1) 0 with
  | inl j =>
    rw [h1] at p1
    exact ⟨r1, forLoop_ret p1, fun e => by cases e⟩
  | inr m =>
    rw [h1] at p1
    obtain ⟨e7', e8', rfl⟩ := p2 m h1
    have hm := part1_inr _ _ _ _ h1
    rw [Nat.zero_add] at hm
    subst hm
    rw [forLoop_nx (nb_for (by kernel_rfl)) p1]
    obtain ⟨r2, q1, q2⟩ := seg_law (wf := wf) (k := k) (kk := kk) (e0 := e0) (e3 := e3) (e4 := e4) (n := n) (l := l) (as := as) (bs := bs) (both := as ++ bs) (pre := as) (post := []) hn hall hlen hla bs [] (-1) e7' e8' (by simp) (fun j h1 h2 => by rw [if_pos h1]) (.inl ⟨rfl, rfl⟩)
    simp only [List.length_nil, Nat.add_zero] at q1 q2
    cases h2 : part1 ns bs (-1) as.length with
    | inl j =>
      rw [h2] at q1
      exact ⟨r2, by simpa [h2] using q1, fun e => by simp [h2] at e⟩
    | inr m' =>
      rw [h2] at q1
      exact ⟨r2, by simpa [h2] using q1, fun _ => q2 m' h2⟩
end K05
set_option Elab.async false
set_option linter.all false
set_option maxRecDepth 100000
set_option maxHeartbeats 4000000
set_option autoImplicit false
namespace K05
open M
theorem fires_law {wf k : Nat} {t e3 : MV} {ns : List Str} (hn : ∀ s ∈ ns, s ∈ gnames) : ∀ (xs : List D) (kn : List Str) (e2 e5 e6 e7 e8 : MV), gds xs = true → szs xs < 10000000 → (∀ s ∈ kn, s ∈ gnames) → kn.length + xs.length < 16000000 → ∃ r',
    forLoop (forStep (run fns globs wf (k + 2)) globs wf (.tp (.cons (.nm 2) (.cons (.nm 5) .nil))) b_law_due_2) (enumD kn.length xs) [t, .lst (ns.map .str), e2, e3, .lst (kn.map .str), e5, e6, e7, e8, .no] = some (match fires ns xs kn.length kn with
      | .inl d => (.ok (.ret (.dat d)), r')
      | .inr _ => (.ok .nx, r')) ∧ ∀ kn', fires ns xs kn.length kn = .inr kn' → ∃ e1' r'', r' = t :: e1' :: r''
  | [], kn, e2, e5, e6, e7, e8, h, hsz, hk, hl => ⟨[t, .lst (ns.map .str), e2, e3, .lst (kn.map .str), e5, e6, e7, e8, .no], by simp [enumD, fires], fun kn' e => ⟨_, _, rfl⟩⟩
  | x :: xs, kn, e2, e5, e6, e7, e8, h, hsz, hk, hl => by
    simp at h hl hsz
    have q0 := run_ltup (wf := wf) (k := k + 1) x 4
    have hw : ∀ s ∈ kn, s ∈ wds := fun s hs => gn_wd s (hk s hs)
    simp only [enumD]
    rw [forLoop_cons]
    unfold fires
    cases hp : fireOk x kn with
    | false =>
      have hs : ∃ r', forStep (run fns globs wf (k + 2)) globs wf (.tp (.cons (.nm 2) (.cons (.nm 5) .nil))) b_law_due_2 (.tup [.int kn.length, x]) [t, .lst (ns.map .str), e2, e3, .lst (kn.map .str), e5, e6, e7, e8, .no] = some (.ok (.ret (.dat (fireE kn.length))), r') := by
        cases hx : isTupN x 4 with
        | false =>
          rw [hx] at q0
          simp [forStep, b_law_due_2, q0, line, fireE]
        | true =>
          rw [hx] at q0
          cases x <;> simp [isTupN] at hx
          rename_i ys
          obtain ⟨n, l, a, b, rfl⟩ := four_of (by omega : ys.length = 4)
          simp at h
          obtain ⟨⟨g1, g2, g3, g4⟩, g5⟩ := h
          have q1 := run_lname (wf := wf) (k := k + 1) g1
          have q2 := run_lname (wf := wf) (k := k + 1) g2
          have q3 := run_lparts (wf := wf) (k := k) g3
          have q4 := run_lparts (wf := wf) (k := k) g4
          cases n
          case str s =>
            by_cases h1 : s ∈ gnames
            · have i1 := isIn_names hw (gn_wd s h1)
              by_cases h2 : s ∈ kn
              · simp [forStep, b_law_due_2, q0, q1, isNm, h1, i1, h2, line, fireE]
              · cases l
                case str sl =>
                  have okl := ok_wd (gd_str g2)
                  by_cases h3 : sl ∈ gnames
                  · cases h4 : isParts a
                    · simp [forStep, b_law_due_2, q0, q1, q2, q3, isNm, h1, i1, h2, h3, h4, line, fireE]
                    · cases h5 : isParts b
                      · simp [forStep, b_law_due_2, q0, q1, q2, q3, q4, isNm, h1, i1, h2, h3, h4, h5, line, fireE]
                      · simp [fireOk, isNm, isNew, isLab, h1, h2, h3, h4, h5] at hp
                  · by_cases h6 : sl = ⟨#[]⟩
                    · subst h6
                      have h3' : ¬ (⟨#[]⟩ : Str) ∈ gnames := h3
                      cases h4 : isParts a
                      · simp [forStep, b_law_due_2, q0, q1, q2, q3, isNm, h1, i1, h2, h3', h4, line, fireE, ok_empty, eqD_str]
                      · cases h5 : isParts b
                        · simp [forStep, b_law_due_2, q0, q1, q2, q3, q4, isNm, h1, i1, h2, h3', h4, h5, line, fireE, ok_empty, eqD_str]
                        · simp [fireOk, isNm, isNew, isLab, h1, h2, h4, h5] at hp
                    · simp [forStep, b_law_due_2, q0, q1, q2, isNm, h1, i1, h2, h3, h6, line, fireE, okl, ok_empty, eqD_str]
                all_goals simp [forStep, b_law_due_2, q0, q1, q2, isNm, h1, i1, h2, line, fireE]
            · simp [forStep, b_law_due_2, q0, q1, isNm, h1, line, fireE]
          all_goals simp [forStep, b_law_due_2, q0, q1, isNm, line, fireE]
      obtain ⟨r', hs⟩ := hs
      rw [hs, bind_ok]
      exact ⟨_, rfl, fun kn' e => by simp at e⟩
    | true =>
      obtain ⟨s, l, as, bs, rfl, s1, s2, s3, s4, s5⟩ := fireOk_inv hp
      have q0' : isTupN (.tup [.str s, l, .tup as, .tup bs]) 4 = true := by simp [isTupN]
      rw [q0'] at q0
      simp at h
      obtain ⟨⟨g1, g2, g3, g4⟩, g5⟩ := h
      have q1 := run_lname (wf := wf) (k := k + 1) g1
      have q2 := run_lname (wf := wf) (k := k + 1) g2
      have q3 := run_lparts (wf := wf) (k := k) (x := .tup as) (by simpa using g3)
      have q4 := run_lparts (wf := wf) (k := k) (x := .tup bs) (by simpa using g4)
      have i1 := isIn_names hw (gn_wd s s1)
      have l2 : kn.length < 16777216 := by omega
      simp only [sz_tup, szs_cons, szs_nil] at hsz
      have la := szs_len as
      have lb := szs_len bs
      have l3 : as.length + bs.length ≤ 16777216 := by omega
      have l4 : ((as.length : Int) + (bs.length : Int)) ≤ 16777216 := by omega
      have l5 : (-16777216 : Int) ≤ ((as.length : Int) + (bs.length : Int)) := by omega
      have l6 : ((as.length : Int) + (bs.length : Int)).toNat = as.length + bs.length := by omega
      obtain ⟨rb, b1, b2⟩ := both_law (wf := wf) (k := k + 2) (kk := kn.length) (e0 := t) (e3 := e3) (e4 := .lst ((kn ++ [s]).map .str)) (e7 := e7) (e8 := e8) (n := .str s) (l := l) (as := as) (bs := bs) (ns := ns) hn s4 s5 (by omega)
      have lab : ∃ sl, l = .str sl ∧ (D.str sl).ok = true := by
        cases l <;> simp [isLab] at s3
        exact ⟨_, rfl, ok_wd (gd_str g2)⟩
      obtain ⟨sl, rfl, okl⟩ := lab
      have hs : forStep (run fns globs wf (k + 2)) globs wf (.tp (.cons (.nm 2) (.cons (.nm 5) .nil))) b_law_due_2 (.tup [.int kn.length, .tup [.str s, .str sl, .tup as, .tup bs]]) [t, .lst (ns.map .str), e2, e3, .lst (kn.map .str), e5, e6, e7, e8, .no] = some (match partw ns as bs with
        | some j => (.ok (.ret (.dat (partE kn.length j))), rb)
        | none => (.ok .nx, rb)) := by
        simp only [List.map_append, List.map_cons, List.map_nil] at b1
        by_cases h3 : sl ∈ gnames
        · simp [forStep, b_law_due_2, q0, q1, q2, q3, q4, isNm, s1, i1, s2, h3, isParts, s4, s5, line, muOk, mu, l2, l3, l4, l5, l6, b1]
          cases partw ns as bs <;> simp
        · have h6 : sl = ⟨#[]⟩ := by simp [isLab, h3] at s3; exact s3
          subst h6
          have h3' : ¬ (⟨#[]⟩ : Str) ∈ gnames := h3
          simp [forStep, b_law_due_2, q0, q1, q2, q3, q4, isNm, s1, i1, s2, h3', isParts, s4, s5, line, muOk, mu, l2, l3, l4, l5, l6, b1, ok_empty, eqD_str]
          cases partw ns as bs <;> simp
      rw [hs]
      cases hw2 : partw ns as bs with
      | some j =>
        simp only [partOf, hw2, if_true, bind_ok]
        exact ⟨_, rfl, fun kn' e => by cases e⟩
      | none =>
        obtain ⟨e7', e8', rfl⟩ := b2 hw2
        obtain ⟨r', h1, h2⟩ := fires_law (wf := wf) (k := k) (t := t) (e3 := e3) hn xs (kn ++ [s]) (.dat (.int kn.length)) (.dat (.tup [.str s, .str sl, .tup as, .tup bs])) (.dat (.tup (as ++ bs))) e7' e8' g5 (by omega) (fun z hz => (List.mem_append.mp hz).elim (hk z) fun e => by rw [List.mem_singleton.mp e]; exact s1) (by simp; omega)
        simp only [bind_ok]
        simp only [List.length_append, List.length_cons, List.length_nil, Nat.zero_add] at h1 h2
        exact ⟨r', by simpa [partOf, hw2] using h1, by simpa [partOf, hw2] using h2⟩
theorem places_names : ∀ (xs : List D) (k : Nat) (ns ns' : List Str), (∀ s ∈ ns, s ∈ gnames) → placesS xs k ns = .inr ns' → ∀ s ∈ ns', s ∈ gnames
  | [], k, ns, ns', h, e => by simp [placesS] at e; subst e; exact h
  | x :: xs, k, ns, ns', h, e => by
    unfold placesS at e
    split at e
    · rename_i hp
      obtain ⟨s, b, rfl, s1, _, _⟩ := placeOk_inv hp
      exact places_names xs (k + 1) _ ns' (fun z hz => (List.mem_append.mp hz).elim (h z) fun e => by rw [List.mem_singleton.mp e]; exact s1) e
    · cases e
theorem run_due {wf k : Nat} {x : D} (h : Cl 60 5000000 x) : run fns globs wf (k + 3) 21 [.dat x] = some (.ok (.dat (wrong x)), [.dat x]) := by
  rw [run_of (f := 21) rfl rfl (ownKeep_dat rfl)]
  have q0 := run_ltup (wf := wf) (k := k + 1) x 2
  cases x
  case tup xs =>
    by_cases hl : xs.length = 2
    · obtain ⟨a, b, rfl⟩ := two_of hl
      have q0' : isTupN (.tup [a, b]) 2 = true := by simp [isTupN]
      rw [q0'] at q0
      obtain ⟨hx, hs⟩ := cl_seq (n := 59) h
      have ha := hx a (by simp)
      have hb := hx b (by simp)
      cases a
      case tup ps =>
        cases b
        case tup fs =>
          have okp : (D.tup ps).ok = true := ok_of ha.1 (by omega)
          have ok0 : (D.tup []).ok = true := by decide +kernel
          have gp : gds ps = true := by simpa using ha.1
          have gf : gds fs = true := by simpa using hb.1
          simp only [szs_cons, szs_nil, sz_tup] at hs
          have lp := szs_len ps
          have lf := szs_len fs
          by_cases he : ps = []
          · subst he
            simp [c_law_due, q0, ok0, eqD_empty, line, wrong, wrong2, netE]
          · have he' : ps.isEmpty = false := by cases ps <;> first | rfl | exact absurd rfl he
            obtain ⟨r1, p1, p2⟩ := places_law (wf := wf) (k := k + 1) (t := .dat (.tup [.tup ps, .tup fs])) (rest := [.no, .no, .no, .no, .no, .no]) ps [] .no .no gp (by simp) (by simp; omega)
            simp only [List.length_nil, List.map_nil] at p1 p2
            cases hp : placesS ps 0 [] with
            | inl j =>
              rw [hp] at p1
              simp [c_law_due, q0, okp, ok0, eqD_empty, he', line, p1, wrong, wrong2, hp]
            | inr ns =>
              rw [hp] at p1
              obtain ⟨e2', e3', rfl⟩ := p2 ns hp
              have hns := places_names ps 0 [] ns (by simp) hp
              obtain ⟨r2, f1, f2⟩ := fires_law (wf := wf) (k := k) (t := .dat (.tup [.tup ps, .tup fs])) (e3 := e3') (ns := ns) hns fs [] e2' .no .no .no .no gf (by omega) (by simp) (by simp; omega)
              simp only [List.length_nil, List.map_nil] at f1 f2
              cases hf : fires ns fs 0 [] with
              | inl e =>
                rw [hf] at f1
                simp [c_law_due, q0, okp, ok0, eqD_empty, he', line, p1, f1, wrong, wrong2, hp, hf]
              | inr kn =>
                rw [hf] at f1
                obtain ⟨e1', r'', rfl⟩ := f2 kn hf
                have w1 : decide ((40 : Int) < (ps.length : Int)) = decide (40 < ps.length) := by by_cases h : 40 < ps.length <;> simp [h] <;> omega
                have w2 : decide ((60 : Int) < (fs.length : Int)) = decide (60 < fs.length) := by by_cases h : 60 < fs.length <;> simp [h] <;> omega
                by_cases g1 : 40 < ps.length
                · have w1' : decide ((40 : Int) < (ps.length : Int)) = true := by rw [w1]; simpa using g1
                  simp [c_law_due, q0, okp, ok0, eqD_empty, he', line, p1, f1, wrong, wrong2, hp, hf, w1', g1, greatE]
                · have w1' : decide ((40 : Int) < (ps.length : Int)) = false := by rw [w1]; simpa using g1
                  by_cases g2 : 60 < fs.length
                  · have w2' : decide ((60 : Int) < (fs.length : Int)) = true := by rw [w2]; simpa using g2
                    simp [c_law_due, q0, okp, ok0, eqD_empty, he', line, p1, f1, wrong, wrong2, hp, hf, w1', w2', g1, g2, greatE]
                  · have w2' : decide ((60 : Int) < (fs.length : Int)) = false := by rw [w2]; simpa using g2
                    simp [c_law_due, q0, okp, ok0, eqD_empty, he', line, p1, f1, wrong, wrong2, hp, hf, w1', w2', g1, g2]
        all_goals simp [c_law_due, q0, line, wrong, wrong2, netE]
      all_goals simp [c_law_due, q0, line, wrong, wrong2, netE]
    · have hl' : ¬ ((xs.length : Int) = 2) := by omega
      have q0' : isTupN (.tup xs) 2 = false := by simp [isTupN, hl']
      rw [q0'] at q0
      simp [c_law_due, q0, wrong_no hl, line, netE]
  all_goals simp [isTupN] at q0; simp [c_law_due, q0, wrong, line, netE]
end K05
set_option Elab.async false
set_option linter.all false
set_option maxRecDepth 100000
set_option maxHeartbeats 4000000
set_option autoImplicit false
namespace K05
open M
def Fine (s : Str) (n : Nat) : Prop := PySem.PyData.strOk s = true ∧ s.length ≤ n
theorem ok_append {a b : Str} (h : PySem.PyData.strOk a = true) (g : PySem.PyData.strOk b = true) : PySem.PyData.strOk (a ++ b) = true := by
  show (a.cps ++ b.cps).all _ = true
  rw [Array.all_append]
  unfold PySem.PyData.strOk at h g
  rw [h, g]
  rfl
theorem Fine.append {a b : Str} {m n : Nat} (h : Fine a m) (g : Fine b n) : Fine (a ++ b) (m + n) := ⟨ok_append h.1 g.1, by rw [PySem.strLen_append]; exact Nat.add_le_add h.2 g.2⟩
theorem Fine.mono {a : Str} {m n : Nat} (h : Fine a m) (e : m ≤ n) : Fine a n := ⟨h.1, Nat.le_trans h.2 e⟩
theorem str_fine : ∀ s ∈ wds, Fine (PySem.reprText s) 16 := by
  have h : (wds.all fun s => PySem.PyData.strOk (PySem.reprText s) && decide ((PySem.reprText s).length ≤ 16)) = true := by kernel_rfl
  intro s hs
  have z := List.all_eq_true.mp h s hs
  simp only [Bool.and_eq_true, decide_eq_true_eq] at z
  exact z
theorem int_fine : ∀ i ∈ intsL, Fine (toString i : String) 16 := by
  have h : (intsL.all fun i => PySem.PyData.strOk ((toString i : String) : Str) && decide (((toString i : String) : Str).length ≤ 16)) = true := by decide +kernel
  intro s hs
  have z := List.all_eq_true.mp h s hs
  simp only [Bool.and_eq_true, decide_eq_true_eq] at z
  exact z
def tot : List Str → Nat
  | [] => 0
  | t :: ts => t.length + 2 + tot ts
theorem text_fine : ∀ (ts : List Str) (k : Nat) (acc : Str) (m : Nat), Fine acc m → (∀ t ∈ ts, PySem.PyData.strOk t = true) → Fine (PySem.textFrom k acc ts) (m + tot ts)
  | [], k, acc, m, h, g => by simpa [PySem.textFrom, tot] using h
  | t :: ts, k, acc, m, h, g => by
    simp only [PySem.textFrom, tot]
    have h1 : Fine (if k > 0 then ", " else "" : String) 2 := by split <;> exact ⟨by decide +kernel, by decide +kernel⟩
    have h2 : Fine t t.length := ⟨g t (by simp), Nat.le_refl _⟩
    have := text_fine ts (k + 1) _ _ ((h.append h1).append h2) (fun t ht => g t (List.mem_cons_of_mem _ ht))
    exact this.mono (by omega)
theorem join_fine : ∀ (ts : List Str), (∀ t ∈ ts, PySem.PyData.strOk t = true) → Fine (PySem.Str.join ", " ts) (tot ts)
  | [], _ => ⟨by decide +kernel, by decide +kernel⟩
  | [x], g => ⟨g x (by simp), by show x.length ≤ _; simp [tot]⟩
  | x :: y :: r, g => by
    have ih := join_fine (y :: r) (fun t ht => g t (List.mem_cons_of_mem _ ht))
    have h1 : Fine (", " : String) 2 := ⟨by decide +kernel, by decide +kernel⟩
    have h2 : Fine x x.length := ⟨g x (by simp), Nat.le_refl _⟩
    show Fine (x ++ ", " ++ PySem.Str.join ", " (y :: r)) (x.length + 2 + tot (y :: r))
    exact (h2.append h1).append ih
mutual
theorem shown_fine : ∀ {d : D}, gd d = true → Fine d.py.shown (sz d)
  | .non, _ => by simp only [D.py, PySem.PyData.shown, sz]; exact ⟨by decide +kernel, by decide +kernel⟩
  | .bl b, _ => by simp only [D.py, PySem.PyData.shown, sz]; cases b <;> exact ⟨by decide +kernel, by decide +kernel⟩
  | .int i, h => by simp only [D.py, PySem.PyData.shown, sz]; exact int_fine i (by simpa [gd] using h)
  | .str s, h => by simp only [D.py, PySem.PyData.shown, sz]; exact str_fine s (by simpa [gd] using h)
  | .tup xs, h => by
    obtain ⟨h1, h2⟩ := showns_fine (xs := xs) (by simpa using h)
    simp only [D.py, PySem.PyData.shown, sz_tup]
    have j := join_fine _ h1
    have a : Fine ("(" : String) 1 := ⟨by decide +kernel, by decide +kernel⟩
    have b : Fine ((if (PySem.PyData.shownAll (D.pyAll xs)).length == 1 then ",)" else ")" : String) : String) 2 := by split <;> exact ⟨by decide +kernel, by decide +kernel⟩
    exact ((a.append j).append b).mono (by omega)
  | .lst xs, h => by
    obtain ⟨h1, h2⟩ := showns_fine (xs := xs) (by simpa using h)
    simp only [D.py, PySem.PyData.shown, sz_lst]
    have a : Fine ("[" : String) 1 := ⟨by decide +kernel, by decide +kernel⟩
    have j := text_fine _ 0 _ 1 a h1
    have b : Fine ("]" : String) 1 := ⟨by decide +kernel, by decide +kernel⟩
    exact (j.append b).mono (by omega)
  | .dic _, h => by simp [gd] at h
theorem showns_fine : ∀ {xs : List D}, gds xs = true → (∀ t ∈ PySem.PyData.shownAll (D.pyAll xs), PySem.PyData.strOk t = true) ∧ tot (PySem.PyData.shownAll (D.pyAll xs)) ≤ szs xs
  | [], _ => by simp [D.pyAll, PySem.PyData.shownAll, tot]
  | x :: xs, h => by
    simp at h
    have f := shown_fine h.1
    obtain ⟨h1, h2⟩ := showns_fine h.2
    simp only [D.pyAll, PySem.PyData.shownAll, tot, szs_cons]
    refine ⟨fun t ht => ?_, by have := f.2; omega⟩
    rcases List.mem_cons.mp ht with rfl | ht
    · exact f.1
    · exact h1 t ht
end
theorem ints_small : ∀ i ∈ intsL, i.natAbs.log2 < 1920 := by decide +kernel
mutual
theorem py_showable : ∀ {d : D}, gd d = true → d.py.showable = true
  | .non, _ => by simp [D.py, PySem.PyData.showable]
  | .bl _, _ => by simp [D.py, PySem.PyData.showable]
  | .int i, h => by simp [D.py, PySem.PyData.showable]; exact ints_small i (by simpa [gd] using h)
  | .str _, _ => by simp [D.py, PySem.PyData.showable]
  | .tup xs, h => by simp [D.py, PySem.PyData.showable, pys_showable (xs := xs) (by simpa using h)]
  | .lst xs, h => by simp [D.py, PySem.PyData.showable, pys_showable (xs := xs) (by simpa using h)]
  | .dic _, h => by simp [gd] at h
theorem pys_showable : ∀ {xs : List D}, gds xs = true → PySem.PyData.showableAll (D.pyAll xs) = true
  | [], _ => by simp [D.pyAll, PySem.PyData.showableAll]
  | x :: xs, h => by
    simp at h
    simp [D.pyAll, PySem.PyData.showableAll, py_showable h.1, pys_showable h.2]
end
theorem str_of {d : D} {n m : Nat} (h : Cl n m d) (hn : n ≤ 64) (hm : m ≤ 10000000) : ∃ s : Str, bi .str1 [.dat d] = some (.dat (.str s)) ∧ (D.str s).ok = true := by
  have fin : ∀ {s : Str} {k : Nat}, Fine s k → (D.str s).ok = true := fun {s k} f => by
    simp [D.ok, PySem.SeqAt.shaped, D.py, PySem.PyData.canLay0, PySem.PyData.depth, f.1]
  have f := shown_fine h.g
  have hs := h.s
  have big : ∀ {xs : List D} (e : d = .tup xs ∨ d = .lst xs), ∃ s : Str, shown d = some (.dat (.str s)) ∧ (D.str s).ok = true := fun _ => by
    refine ⟨d.py.shown, ?_, fin f⟩
    unfold shown
    have l : d.py.shown.length ≤ line := by have := f.2; simp only [line]; omega
    simp [h.ok hn, py_showable h.g, l]
  cases d
  case int i =>
    have hi := h.g
    simp [gd] at hi
    exact ⟨_, by simp [bi, ints_small i hi], fin (int_fine i hi)⟩
  case str s => exact ⟨s, rfl, ok_wd (gd_str h.g)⟩
  case bl b => exact ⟨_, rfl, by cases b <;> decide +kernel⟩
  case non => exact ⟨_, rfl, by decide +kernel⟩
  case tup xs => exact big (.inl rfl)
  case lst xs => exact big (.inr rfl)
  case dic k => have := h.g; simp [gd] at this
end K05
set_option Elab.async false
set_option linter.all false
set_option maxRecDepth 100000
set_option maxHeartbeats 4000000
set_option autoImplicit false
namespace K05
open M
theorem nameL_str : ∀ x ∈ nameL, ∃ s, x = .str s ∧ s ∈ gnames := by
  intro x hx
  obtain ⟨s, hs, rfl⟩ := List.mem_map.mp hx
  exact ⟨s, rfl, List.mem_of_mem_take hs⟩
theorem nameL_nodup : (nameL.map strOf).Nodup := by decide +kernel
theorem names_of {xs rest : List D} (h : (xs ++ rest).Perm nameL) : xs = (xs.map strOf).map .str ∧ (xs.map strOf).Nodup ∧ ∀ s ∈ xs.map strOf, s ∈ gnames := by
  have mem : ∀ x ∈ xs, ∃ s, x = .str s ∧ s ∈ gnames := fun x hx => nameL_str x (h.mem_iff.mp (List.mem_append_left _ hx))
  refine ⟨?_, ?_, fun s hs => ?_⟩
  · rw [List.map_map]
    conv => lhs; rw [← List.map_id xs]
    refine List.map_congr_left fun x hx => ?_
    obtain ⟨s, rfl, _⟩ := mem x hx
    rfl
  · have p := (h.map strOf).nodup_iff.mpr nameL_nodup
    rw [List.map_append] at p
    exact (List.nodup_append.mp p).1
  · obtain ⟨x, hx, rfl⟩ := List.mem_map.mp hs
    obtain ⟨t, rfl, ht⟩ := mem x hx
    exact ht
theorem placesS_net : ∀ (zs : List (D × D)) (ss ns : List Str) (k : Nat), zs.map Prod.fst = ss.map .str → (ns ++ ss).Nodup → (∀ s ∈ ss, s ∈ gnames) → (∀ q ∈ zs, isC 0 q.2) → placesS (zs.map pairD) k ns = .inr (ns ++ ss)
  | [], [], ns, k, _, _, _, _ => by simp [placesS]
  | [], _ :: _, _, _, h, _, _, _ => by simp at h
  | _ :: _, [], _, _, h, _, _, _ => by simp at h
  | (a, c) :: zs, s :: ss, ns, k, h, hn, hg, hc => by
    simp only [List.map_cons, List.cons.injEq] at h
    obtain ⟨rfl, h⟩ := h
    obtain ⟨i, rfl, i0, i1, _⟩ := hc (.str s, c) (by simp)
    have hs : s ∉ ns := fun hh => by
      have := (List.nodup_append.mp hn).2.2 s hh s (by simp)
      exact this rfl
    have ok : placeOk (pairD (.str s, .int i)) ns = true := by
      simp [placeOk, pairD, isNm, isNew, isCount, hg s (by simp), hs, i0, i1]
    simp only [List.map_cons, placesS, ok, if_true]
    rw [show nameOf (pairD (.str s, .int i)) = s from rfl, placesS_net zs ss (ns ++ [s]) (k + 1) h (by simpa using hn) (fun t ht => hg t (by simp [ht])) (fun q hq => hc q (by simp [hq]))]
    simp
theorem idxS_mid {a : Str} : ∀ {pre suf : List Str}, a ∉ pre → idxS a (pre ++ a :: suf) = some pre.length
  | [], suf, _ => by simp [idxS]
  | p :: pre, suf, h => by
    simp only [List.mem_cons, not_or] at h
    have h1 : ¬ p = a := fun e => h.1 e.symm
    simp [idxS, h1, idxS_mid (pre := pre) (suf := suf) h.2]
theorem part1_sub : ∀ (suf pre : List Str) (ps : List D) (last : Int) (at_ : Nat), (pre ++ suf).Nodup → (ps.map nameOf).Sublist suf → last < pre.length → ∃ m, part1 (pre ++ suf) ps last at_ = .inr m
  | [], pre, ps, last, at_, hn, hs, hl => by
    cases ps with
    | nil => exact ⟨at_, rfl⟩
    | cons p ps => simp at hs
  | a :: suf, pre, ps, last, at_, hn, hs, hl => by
    have e : pre ++ a :: suf = (pre ++ [a]) ++ suf := by simp
    have ha : a ∉ pre := fun hh => (List.nodup_append.mp hn).2.2 a hh a (by simp) rfl
    cases ps with
    | nil => exact ⟨at_, rfl⟩
    | cons p ps =>
      simp only [List.map_cons] at hs
      by_cases hp : nameOf p = a
      · have hs' : (ps.map nameOf).Sublist suf := by
          rw [hp] at hs
          exact List.cons_sublist_cons.mp hs
        unfold part1
        rw [hp, idxS_mid ha]
        have hnl : ¬ ((pre.length : Int) ≤ last) := by omega
        simp only [hnl, if_false]
        rw [e]
        exact part1_sub suf (pre ++ [a]) ps pre.length (at_ + 1) (by rw [← e]; exact hn) hs' (by simp; omega)
      · have hs' : (nameOf p :: ps.map nameOf).Sublist suf := by
          cases hs with
          | cons _ h => exact h
          | cons_cons _ h => exact absurd rfl hp
        rw [e]
        exact part1_sub suf (pre ++ [a]) (p :: ps) last at_ (by rw [← e]; exact hn) (by simpa using hs') (by simp; omega)
theorem parts_of {names : List D} {ss : List Str} {x : D} (hs : names = ss.map .str) (hg : ∀ s ∈ ss, s ∈ gnames) (h : PartsOf names x) : ∃ ps, x = .tup ps ∧ ps.all isPart = true ∧ (ps.map nameOf).Sublist ss ∧ (∀ p ∈ ps, gd p = true ∧ dp p ≤ 1 ∧ sz p ≤ 40) ∧ ps.length ≤ names.length := by
  obtain ⟨qs, rfl, h1, h2⟩ := h
  have hq : ∀ q ∈ qs, ∃ s i, q = (.str s, .int i) ∧ s ∈ gnames ∧ 1 ≤ i ∧ i ≤ 999999999 ∧ i ∈ intsL := fun q hq => by
    obtain ⟨i, e, i0, i1, i2⟩ := h2 q hq
    have : q.1 ∈ names := h1.subset (List.mem_map_of_mem hq)
    rw [hs] at this
    obtain ⟨s, hs', e'⟩ := List.mem_map.mp this
    exact ⟨s, i, by cases q; simp_all, hg s hs', i0, i1, i2⟩
  refine ⟨qs.map pairD, rfl, ?_, ?_, fun p hp => ?_, ?_⟩
  · rw [List.all_eq_true]
    intro p hp
    obtain ⟨q, hq', rfl⟩ := List.mem_map.mp hp
    obtain ⟨s, i, rfl, s1, i0, i1, _⟩ := hq q hq'
    simp [pairD, isPart, isNm, isCount, s1, i0, i1]
  · have e : (qs.map pairD).map nameOf = (qs.map Prod.fst).map strOf := by
      rw [List.map_map, List.map_map]
      rfl
    rw [e]
    have := h1.map strOf
    rw [hs] at this
    have e2 : (ss.map D.str).map strOf = ss := by
      rw [List.map_map]
      conv => rhs; rw [← List.map_id ss]
      exact List.map_congr_left fun _ _ => rfl
    rw [e2] at this
    exact this
  · obtain ⟨q, hq', rfl⟩ := List.mem_map.mp hp
    obtain ⟨s, i, rfl, s1, i0, i1, i2⟩ := hq q hq'
    refine ⟨?_, ?_, ?_⟩
    · simp [pairD, gd, gn_wd s s1, i2]
    · simp [pairD, dp]
    · simp [pairD, sz]
  · simpa using h1.length_le
theorem lab_ok {n l : D} {s : Str} (hn : n = .str s) (hg : s ∈ gnames) (h : l ∈ labels n) : isLab l = true ∧ gd l = true ∧ dp l = 0 ∧ sz l = 16 := by
  subst hn
  have w : ∀ t ∈ [(⟨#[97]⟩ : Str), ⟨#[108, 97, 98, 49]⟩, ⟨#[103, 111]⟩], t ∈ gnames := by decide +kernel
  have w0 : (⟨#[]⟩ : Str) ∈ wds := by decide +kernel
  simp only [labels, List.mem_cons, List.not_mem_nil, or_false] at h
  rcases h with rfl | rfl | rfl | rfl | rfl | rfl
  · exact ⟨by simp [isLab], by simp [gd, w0], by simp [dp], by simp [sz]⟩
  · exact ⟨by simp [isLab], by simp [gd, w0], by simp [dp], by simp [sz]⟩
  · have z := w ⟨#[97]⟩ (by simp); exact ⟨by simp [isLab, z], by simp [gd, gn_wd _ z], by simp [dp], by simp [sz]⟩
  · have z := w ⟨#[108, 97, 98, 49]⟩ (by simp); exact ⟨by simp [isLab, z], by simp [gd, gn_wd _ z], by simp [dp], by simp [sz]⟩
  · exact ⟨by simp [isLab, hg], by simp [gd, gn_wd _ hg], by simp [dp], by simp [sz]⟩
  · have z := w ⟨#[103, 111]⟩ (by simp); exact ⟨by simp [isLab, z], by simp [gd, gn_wd _ z], by simp [dp], by simp [sz]⟩
theorem fires_net {names : List D} {ss : List Str} (hs : names = ss.map .str) (hg : ∀ s ∈ ss, s ∈ gnames) (hd : ss.Nodup) : ∀ (fs : List Fi) (ts kn : List Str) (k : Nat), fs.map Fi.n = ts.map .str → (kn ++ ts).Nodup → (∀ s ∈ ts, s ∈ gnames) → (∀ f ∈ fs, FiOk names f) → fires ss (fs.map fiD) k kn = .inr (kn ++ ts)
  | [], [], kn, k, _, _, _, _ => by simp [fires]
  | [], _ :: _, _, _, h, _, _, _ => by simp at h
  | _ :: _, [], _, _, h, _, _, _ => by simp at h
  | ⟨n, l, a, b⟩ :: fs, s :: ts, kn, k, h, hn, hg2, hf => by
    simp only [List.map_cons, List.cons.injEq] at h
    obtain ⟨rfl, h⟩ := h
    obtain ⟨f1, f2, f3⟩ := hf ⟨.str s, l, a, b⟩ (by simp)
    obtain ⟨as, rfl, a1, a2, _, _⟩ := parts_of hs hg f2
    obtain ⟨bs, rfl, b1, b2, _, _⟩ := parts_of hs hg f3
    obtain ⟨l1, l2, _, _⟩ := lab_ok rfl (hg2 s (by simp)) f1
    have hs' : s ∉ kn := fun hh => (List.nodup_append.mp hn).2.2 s hh s (by simp) rfl
    have ok : fireOk (fiD ⟨.str s, l, .tup as, .tup bs⟩) kn = true := by
      simp [fireOk, fiD, isNm, isNew, hg2 s (by simp), hs', l1, isParts, a1, b1]
    obtain ⟨m1, e1⟩ := part1_sub ss [] as (-1) 0 (by simpa using hd) a2 (by simp)
    obtain ⟨m2, e2⟩ := part1_sub ss [] bs (-1) m1 (by simpa using hd) b2 (by simp)
    simp only [List.nil_append] at e1 e2
    have pw : partOf ss (fiD ⟨.str s, l, .tup as, .tup bs⟩) = none := by
      simp [partOf, fiD, partw, e1, e2]
    simp only [List.map_cons, fires, ok, if_true, pw]
    rw [show nameOf (fiD ⟨.str s, l, .tup as, .tup bs⟩) = s from rfl, fires_net hs hg hd fs ts (kn ++ [s]) (k + 1) h (by simpa using hn) (fun t ht => hg2 t (by simp [ht])) (fun f hf' => hf f (by simp [hf']))]
    simp
theorem szs_bound {xs : List D} {m : Nat} (h : ∀ x ∈ xs, sz x ≤ m) : szs xs ≤ xs.length * (m + 2) := by
  induction xs with
  | nil => simp
  | cons x xs ih =>
    have := ih fun y hy => h y (by simp [hy])
    have := h x (by simp)
    simp only [szs_cons, List.length_cons, Nat.add_mul, Nat.one_mul]
    omega
theorem net_fine {d : D} (h : NetOf d) : wrong d = .non ∧ Cl 6 10000 d := by
  obtain ⟨zs, fs, rfl, hne, l6, l5, ⟨r1, p1⟩, hc, ⟨r2, p2⟩, hf⟩ := h
  obtain ⟨n1, n2, n3⟩ := names_of p1
  obtain ⟨m1, m2, m3⟩ := names_of p2
  have hp := placesS_net zs _ [] 0 n1 (by simpa using n2) n3 hc
  have hff := fires_net n1 n3 n2 fs _ [] 0 m1 (by simpa using m2) m3 hf
  simp only [List.nil_append] at hp hff
  refine ⟨?_, ?_⟩
  · have he : (zs.map pairD).isEmpty = false := by cases zs <;> first | rfl | exact absurd rfl hne
    have g1 : ¬ (40 < zs.length ∨ 60 < fs.length) := by omega
    simp only [wrong, wrong2, he, Bool.false_eq_true, if_false, hp, hff, List.length_map, g1]
  · have hz : ∀ x ∈ zs.map pairD, gd x = true ∧ dp x ≤ 1 ∧ sz x ≤ 40 := fun x hx => by
      obtain ⟨q, hq, rfl⟩ := List.mem_map.mp hx
      obtain ⟨i, e, i0, i1, i2⟩ := hc q hq
      have : q.1 ∈ zs.map Prod.fst := List.mem_map_of_mem hq
      rw [n1] at this
      obtain ⟨s, hs', e'⟩ := List.mem_map.mp this
      obtain ⟨a, c⟩ := q
      simp only at e e'
      subst e e'
      exact ⟨by simp [pairD, gd, gn_wd s (n3 s hs'), i2], by simp [pairD, dp], by simp [pairD, sz]⟩
    have hfi : ∀ x ∈ fs.map fiD, gd x = true ∧ dp x ≤ 3 ∧ sz x ≤ 560 := fun x hx => by
      obtain ⟨f, hf', rfl⟩ := List.mem_map.mp hx
      obtain ⟨f1, f2, f3⟩ := hf f hf'
      have : f.n ∈ fs.map Fi.n := List.mem_map_of_mem hf'
      rw [m1] at this
      obtain ⟨s, hs', e'⟩ := List.mem_map.mp this
      obtain ⟨as, ea, a1, a2, a3, a4⟩ := parts_of n1 n3 f2
      obtain ⟨bs, eb, b1, b2, b3, b4⟩ := parts_of n1 n3 f3
      obtain ⟨l1, l2, l3, l4⟩ := lab_ok e'.symm (m3 s hs') f1
      obtain ⟨n, l, a, b⟩ := f
      simp only at ea eb e' l1 l2 l3 l4
      subst ea eb e'
      have sa := szs_bound fun x hx => (a3 x hx).2.2
      have sb := szs_bound fun x hx => (b3 x hx).2.2
      have la : as.length ≤ 6 := by simp at a4; omega
      have lb : bs.length ≤ 6 := by simp at b4; omega
      have da : dps as ≤ 1 := dps_le.mpr fun x hx => (a3 x hx).2.1
      have db : dps bs ≤ 1 := dps_le.mpr fun x hx => (b3 x hx).2.1
      have ga : gds as = true := gds_mem.mpr fun x hx => (a3 x hx).1
      have gb : gds bs = true := gds_mem.mpr fun x hx => (b3 x hx).1
      refine ⟨?_, ?_, ?_⟩
      · have gs : gd (.str s) = true := by simp [gd, gn_wd s (m3 s hs')]
        simp [fiD, gs, l2, ga, gb]
      · have ds : dp (.str s) = 0 := by simp [dp]
        simp [fiD, ds, l3]
        omega
      · have ss : sz (.str s) = 16 := by simp [sz]
        simp [fiD, ss, l4]
        omega
    have sz1 := szs_bound fun x hx => (hz x hx).2.2
    have sz2 := szs_bound fun x hx => (hfi x hx).2.2
    have d1 : dps (zs.map pairD) ≤ 1 := dps_le.mpr fun x hx => (hz x hx).2.1
    have d2 : dps (fs.map fiD) ≤ 3 := dps_le.mpr fun x hx => (hfi x hx).2.1
    have g1 : gds (zs.map pairD) = true := gds_mem.mpr fun x hx => (hz x hx).1
    have g2 : gds (fs.map fiD) = true := gds_mem.mpr fun x hx => (hfi x hx).1
    simp only [List.length_map] at sz1 sz2
    have k1 : zs.length * (40 + 2) ≤ 6 * 42 := Nat.mul_le_mul l6 (Nat.le_refl _)
    have k2 : fs.length * (560 + 2) ≤ 5 * 562 := Nat.mul_le_mul l5 (Nat.le_refl _)
    refine ⟨by simp [g1, g2], ?_, ?_⟩
    · simp; omega
    · simp; omega
end K05
set_option Elab.async false
set_option linter.all false
set_option maxRecDepth 100000
set_option maxHeartbeats 4000000
set_option autoImplicit false
namespace K05
open M
def EOk (e : D) : Prop := e.ok = true ∧ eqD e e = true
theorem netE_ok : EOk netE := ⟨by decide +kernel, by decide +kernel⟩
theorem greatE_ok : EOk greatE := ⟨by decide +kernel, by decide +kernel⟩
theorem non_ok : EOk .non := ⟨by decide +kernel, by decide +kernel⟩
theorem one_ok {s : Str} (h : PySem.PyData.strOk s = true) (k : Int) : EOk (.tup [.str s, .int k]) := by
  constructor
  · simp [D.ok, PySem.SeqAt.shaped, D.py, D.pyAll, PySem.PyData.canLay0, PySem.PyData.canLayAll0, PySem.PyData.depth, PySem.PyData.depthAll, h]
  · simp [eqD, D.py, D.pyAll, PySem.PyData.eqv, PySem.PyData.eqvAll]
theorem three_ok {s : Str} (h : PySem.PyData.strOk s = true) (k j : Int) : EOk (.tup [.str s, .int k, .int j]) := by
  constructor
  · simp [D.ok, PySem.SeqAt.shaped, D.py, D.pyAll, PySem.PyData.canLay0, PySem.PyData.canLayAll0, PySem.PyData.depth, PySem.PyData.depthAll, h]
  · simp [eqD, D.py, D.pyAll, PySem.PyData.eqv, PySem.PyData.eqvAll]
theorem fires_ok {ns : List Str} : ∀ (xs : List D) (k : Nat) (kn : List Str) (e : D), fires ns xs k kn = .inl e → EOk e
  | [], k, kn, e, h => by simp [fires] at h
  | x :: xs, k, kn, e, h => by
    unfold fires at h
    split at h
    · split at h
      · cases h; exact three_ok (by decide +kernel) _ _
      · exact fires_ok xs _ _ e h
    · cases h; exact one_ok (by decide +kernel) _
theorem wrong_ok (d : D) : EOk (wrong d) := by
  unfold wrong
  split
  · unfold wrong2
    split
    · split
      · exact netE_ok
      · split
        · exact one_ok (by decide +kernel) _
        · split
          · rename_i e h
            exact fires_ok _ _ _ _ h
          · split
            · exact greatE_ok
            · exact non_ok
    · exact netE_ok
  · exact netE_ok
theorem bend_loop {wf k : Nat} {e0 e1 e3 e4 e7 e8 : MV} : ∀ (ds : List D) (n m t : Nat) (p : List D) (d : D) (e6 : MV), Cl n m d → n + 2 * ds.length ≤ 12 → 200 ≤ m → m * 4 ^ ds.length ≤ 1000000 → Pu t p → t + 1000 * ds.length < 2 ^ 50 →
    ∃ d' p' e6', Cl 12 1000000 d' ∧ Pu (t + 1000 * ds.length) p' ∧ forLoop (forStep (run fns globs wf (k + 30)) globs wf (.nm 6) b_law_0) ds [e0, e1, .lst p, e3, e4, .dat d, e6, e7, e8] = some (.ok .nx, [e0, e1, .lst p', e3, e4, .dat d', e6', e7, e8])
  | [], n, m, t, p, d, e6, hc, hn, h2, hm, hp, ht => ⟨d, p, e6, ⟨hc.g, Nat.le_trans hc.d (by simp at hn; omega), Nat.le_trans hc.s (by simpa using hm)⟩, hp, by simp⟩
  | x :: ds, n, m, t, p, d, e6, hc, hn, h2, hm, hp, ht => by
    simp only [List.length_cons] at hn hm ht
    have h4 : 1 ≤ 4 ^ ds.length := Nat.one_le_pow _ _ (by decide)
    have hm' : 4 * m * 4 ^ ds.length ≤ 1000000 := by rw [Nat.pow_succ] at hm; rw [Nat.mul_comm 4 m, Nat.mul_assoc, Nat.mul_comm 4 (4 ^ ds.length)]; exact hm
    have hmm : m ≤ 1000000 := by
      have : m * 1 ≤ 4 * m * 4 ^ ds.length := Nat.mul_le_mul (by omega) h4
      omega
    obtain ⟨d1, r1, p1, g1, c1, hp1, q1⟩ := run_bent (wf := wf) n (k + 26 - n) t p d m hp (by omega) (by omega) hmm hc
    rw [show k + 26 - n + n + 4 = k + 30 by omega] at q1
    obtain ⟨d', p', e6', i1, i2, i3⟩ := bend_loop (wf := wf) (k := k) (e0 := e0) (e1 := e1) (e3 := e3) (e4 := e4) (e7 := e7) (e8 := e8) ds (n + 2) (4 * m) (t + 10 * n + 10) p1 d1 (.dat x) ⟨c1.g, c1.d, Nat.le_trans c1.s (by omega)⟩ (by omega) (by omega) hm' hp1 (by omega)
    refine ⟨d', p', e6', i1, i2.up (by simp only [List.length_cons]; omega), ?_⟩
    have hs : forStep (run fns globs wf (k + 30)) globs wf (.nm 6) b_law_0 x [e0, e1, .lst p, e3, e4, .dat d, e6, e7, e8] = some (.ok .nx, [e0, e1, .lst p1, e3, e4, .dat d1, .dat x, e7, e8]) := by
      rcases g1 with rfl | ⟨xs, rfl, rfl⟩
      · simp [forStep, b_law_0, q1]
      · simp [forStep, b_law_0, q1]
    rw [forLoop_cons, hs, bind_ok]
    exact i3
theorem turn_loop {wf k : Nat} {e0 e1 : MV} {w : D} (hw : Cl 6 10000 w) : ∀ (ds : List D) (t : Nat) (p : List D) (e4 e5 e6 e7 e8 : MV), Pu t p → t + 5000 * ds.length < 2 ^ 49 →
    ∃ p' e4' e5' e6' e7' e8', Pu (t + 5000 * ds.length) p' ∧ forLoop (forStep (run fns globs wf (k + 30)) globs wf (.nm 4) b_law_1) ds [e0, e1, .lst p, .dat w, e4, e5, e6, e7, e8] = some (.ok .nx, [e0, e1, .lst p', .dat w, e4', e5', e6', e7', e8'])
  | [], t, p, e4, e5, e6, e7, e8, hp, ht => ⟨p, e4, e5, e6, e7, e8, hp, by simp⟩
  | x :: ds, t, p, e4, e5, e6, e7, e8, hp, ht => by
    simp only [List.length_cons] at ht
    obtain ⟨r, p1, r0, r1, hp1, q1⟩ := take_ok (wf := wf) (k := k + 28) hp (by omega) (far := 3) (by omega) (by omega)
    obtain ⟨n, rfl⟩ := Int.eq_ofNat_of_zero_le r0
    have hlen : (range 0 (1 + n)).length = 1 + n := by simp [range]
    have h4 : (4 : Nat) ^ (1 + n) ≤ 64 := by
      have : (4 : Nat) ^ (1 + n) ≤ 4 ^ 3 := Nat.pow_le_pow_right (by decide) (by omega)
      simpa using this
    obtain ⟨d, p2, e6', c2, hp2, q2⟩ := bend_loop (wf := wf) (k := k) (e0 := e0) (e1 := e1) (e3 := .dat w) (e4 := .dat x) (e7 := e7) (e8 := e8) (range 0 (1 + n)) 6 10000 (t + 1) p1 w e6 hw (by rw [hlen]; omega) (by omega) (by rw [hlen]; omega) hp1 (by rw [hlen]; omega)
    obtain ⟨s, s1, s2⟩ := str_of c2 (by omega) (by omega)
    have cw : Cl 60 10000000 d := ⟨c2.g, Nat.le_trans c2.d (by omega), Nat.le_trans c2.s (by omega)⟩
    have cd : Cl 60 5000000 d := ⟨c2.g, Nat.le_trans c2.d (by omega), Nat.le_trans c2.s (by omega)⟩
    have w1 := run_net_wrong (wf := wf) (k := k + 26) cw
    have w2 := run_due (wf := wf) (k := k + 27) cd
    obtain ⟨o1, o2⟩ := wrong_ok d
    obtain ⟨p', e4', e5', e6'', e7', e8', i1, i2⟩ := turn_loop (wf := wf) (k := k) (e0 := e0) (e1 := e1) hw ds (t + 5000) p2 (.dat x) (.dat d) e6' (.dat (.str s)) (.dat (wrong d)) (hp2.up (by rw [hlen]; omega)) (by omega)
    refine ⟨p', e4', e5', e6'', e7', e8', i1.up (by simp only [List.length_cons]; omega), ?_⟩
    have b1 : ((1 : Int) + (n : Int)) ≤ 16777216 := by omega
    have b2 : (-16777216 : Int) ≤ ((1 : Int) + (n : Int)) := by omega
    have b3 : ((1 : Int) + (n : Int)).toNat = 1 + n := by omega
    have hs : forStep (run fns globs wf (k + 30)) globs wf (.nm 4) b_law_1 x [e0, e1, .lst p, .dat w, e4, e5, e6, e7, e8] = some (.ok .nx, [e0, e1, .lst p2, .dat w, .dat x, .dat d, e6', .dat (.str s), .dat (wrong d)]) := by
      simp [forStep, b_law_1, q1, line, b1, b2, b3, q2, s1, s2, w1, w2, o1, o2, eqD_str]
    rw [forLoop_cons, hs, bind_ok]
    exact i2
theorem main_loop {wf k : Nat} {ns : List Int} : ∀ (c j : Nat) (e1 e2 e3 e4 e5 e6 e7 e8 : MV), j + c < 2 ^ 19 →
    ∃ r', forLoop (forStep (run fns globs wf (k + 30)) globs wf (.nm 1) b_law_2) (range (j : Int) c) [.dat (.lst (ns.map .int)), e1, e2, e3, e4, e5, e6, e7, e8] = some (.ok .nx, r')
  | 0, j, e1, e2, e3, e4, e5, e6, e7, e8, h => ⟨[.dat (.lst (ns.map .int)), e1, e2, e3, e4, e5, e6, e7, e8], by simp only [range, List.range_zero, List.map_nil, forLoop_nil]⟩
  | c + 1, j, e1, e2, e3, e4, e5, e6, e7, e8, h => by
    rw [range_succ, forLoop_cons]
    obtain ⟨cell, q1⟩ := run_at (wf := wf) (k := k + 29) (ns := ns) (j := j) (by omega)
    obtain ⟨p, hp, q2⟩ := run_purse (wf := wf) (k := k + 28) cell (j := j) (by omega)
    obtain ⟨w, hw, p1, hp1, q3⟩ := run_net (wf := wf) (k := k + 24) hp (by omega)
    obtain ⟨w0, w1⟩ := net_fine hw
    have q4 := run_net_wrong (wf := wf) (k := k + 26) (x := w) ⟨w1.g, Nat.le_trans w1.d (by omega), Nat.le_trans w1.s (by omega)⟩
    rw [w0] at q4
    obtain ⟨p2, e4', e5', e6', e7', e8', hp2, q5⟩ := turn_loop (wf := wf) (k := k) (e0 := .dat (.lst (ns.map .int))) (e1 := .dat (.int j)) w1 (range 0 6) _ p1 e4 e5 e6 e7 e8 hp1 (by simp [range])
    have hs : forStep (run fns globs wf (k + 30)) globs wf (.nm 1) b_law_2 (.int j) [.dat (.lst (ns.map .int)), e1, e2, e3, e4, e5, e6, e7, e8] = some (.ok .nx, [.dat (.lst (ns.map .int)), .dat (.int j), .lst p2, .dat w, e4', e5', e6', e7', e8']) := by
      simp [forStep, b_law_2, q1, q2, q3, q4, line, q5]
    rw [hs, bind_ok]
    exact main_loop c (j + 1) _ _ _ _ _ _ _ _ (by omega)
theorem law_holds {wf k : Nat} (ns : List Int) (hn : ns.length ≤ 63) : ∃ z, run fns globs wf (k + 31) 24 [.dat (.lst (ns.map .int))] = some (.ok (.dat (.bl true)), z) := by
  obtain ⟨r', q⟩ := main_loop (wf := wf) (k := k) (ns := ns) (2 + min ns.length 4) 0 .no .no .no .no .no .no .no .no (by omega)
  refine ⟨keepOwn [.dat (.lst (ns.map .int))] r', ?_⟩
  rw [run_of (f := 24) rfl rfl (ownKeep_dat rfl)]
  have e : (2 : Int) + (if (4 : Int) < (ns.length : Int) then 4 else (ns.length : Int)) = ((2 + min ns.length 4 : Nat) : Int) := by
    split <;> omega
  have b1 : ((2 + min ns.length 4 : Nat) : Int) ≤ 16777216 := by omega
  have b2 : (-16777216 : Int) ≤ ((2 + min ns.length 4 : Nat) : Int) := by omega
  have b3 : ((2 + min ns.length 4 : Nat) : Int).toNat = 2 + min ns.length 4 := by omega
  have r0 : ((0 : Nat) : Int) = 0 := rfl
  rw [r0] at q
  have bm : bi .min2 [.dat (.int ns.length), .dat (.int 4)] = some (.dat (.int (if (4 : Int) < (ns.length : Int) then 4 else (ns.length : Int)))) := rfl
  have ev : evalI (run fns globs wf (k + 30)) globs (.rng1 (.bin .add (.con (.int 2)) (.bi .min2 (.cons (.bi .len (.cons (.var 0) .nil)) (.cons (.con (.int 4)) .nil))))) [.dat (.lst (ns.map .int)), .no, .no, .no, .no, .no, .no, .no, .no] = some (.ok (range 0 (2 + min ns.length 4)), [.dat (.lst (ns.map .int)), .no, .no, .no, .no, .no, .no, .no, .no]) := by
    rw [ei_rng1]
    have : evalE (run fns globs wf (k + 30)) globs (.bin .add (.con (.int 2)) (.bi .min2 (.cons (.bi .len (.cons (.var 0) .nil)) (.cons (.con (.int 4)) .nil)))) [.dat (.lst (ns.map .int)), .no, .no, .no, .no, .no, .no, .no, .no] = some (.ok (.dat (.int ((2 + min ns.length 4 : Nat) : Int))), [.dat (.lst (ns.map .int)), .no, .no, .no, .no, .no, .no, .no, .no]) := by
      rw [← e]
      simp [bm]
    rw [this, bind_ok]
    simp only [fz_dat, line]
    refine (if_pos ?_).trans ?_
    · show (decide (-(16777216 : Int) ≤ ((2 + min ns.length 4 : Nat) : Int)) && decide (((2 + min ns.length 4 : Nat) : Int) ≤ (16777216 : Int))) = true
      rw [decide_eq_true b1, decide_eq_true b2]; rfl
    · rw [b3]; rfl
  have ex : execs (run fns globs wf (k + 30)) globs wf c_law [.dat (.lst (ns.map .int)), .no, .no, .no, .no, .no, .no, .no, .no] = some (.ok (.ret (.dat (.bl true))), r') := by
    unfold c_law
    rw [exs_cons, ex_for, ev, bind_ok, q]
    simp
  show runEnd _ (execs _ _ _ c_law [.dat (.lst (ns.map .int)), .no, .no, .no, .no, .no, .no, .no, .no]) = _
  rw [ex]
  rfl
end K05
set_option Elab.async false
set_option linter.all false
set_option maxRecDepth 100000
set_option maxHeartbeats 0
namespace K05
open PySem PySem.Spec PyProof.Rows L2 M
def top (i : Nat) : Stmt := PySem.Challenge.pw_tokenfold_k05_what_is_no_net.main.body.getD i (.Pass ⟨0, 0, 0, 0⟩)
def T : M.Tab := ⟨[("is_count", 0), ("is_name", 1), ("are_parts", 2), ("is_place", 3), ("is_firing", 4), ("part_wrong", 5), ("net_wrong", 6), ("_law_mixed", 7), ("_law_purse", 8), ("_law_take", 9), ("_law_at", 10), ("_law_pick", 11), ("_law_names", 12), ("_law_some_names", 13), ("_law_count", 14), ("_law_parts", 15), ("_law_net", 16), ("_law_is_name", 17), ("_law_is_whole", 18), ("_law_is_tuple", 19), ("_law_are_parts", 20), ("_law_due", 21), ("_law_odd_thing", 22), ("_law_bent", 23), ("law", 24)],
  [("MOST_COUNT", 4), ("MOST_SIGNS", 3), ("WORDS", 0), ("SMALL", 1), ("FIGURES", 2), ("MOST_PLACES", 5), ("MOST_FIRINGS", 6)],
  [(6, 0, ["thing"], [0])]⟩
abbrev s0 : Stmt := top 8
abbrev s1 : Stmt := top 9
abbrev s2 : Stmt := top 10
abbrev s3 : Stmt := top 11
abbrev s4 : Stmt := top 12
abbrev s5 : Stmt := top 13
abbrev s6 : Stmt := top 14
abbrev s7 : Stmt := top 16
abbrev s8 : Stmt := top 17
abbrev s9 : Stmt := top 18
abbrev s10 : Stmt := top 19
abbrev s11 : Stmt := top 20
abbrev s12 : Stmt := top 21
abbrev s13 : Stmt := top 22
abbrev s14 : Stmt := top 23
abbrev s15 : Stmt := top 24
abbrev s16 : Stmt := top 25
abbrev s17 : Stmt := top 26
abbrev s18 : Stmt := top 27
abbrev s19 : Stmt := top 28
abbrev s20 : Stmt := top 29
abbrev s21 : Stmt := top 30
abbrev s22 : Stmt := top 31
abbrev s23 : Stmt := top 32
abbrev s24 : Stmt := top 33
def fnL : List He.DefD := [mkD "is_count" s0, mkD "is_name" s1, mkD "are_parts" s2, mkD "is_place" s3, mkD "is_firing" s4, mkD "part_wrong" s5, mkD "net_wrong" s6, mkD "_law_mixed" s7, mkD "_law_purse" s8, mkD "_law_take" s9, mkD "_law_at" s10, mkD "_law_pick" s11, mkD "_law_names" s12, mkD "_law_some_names" s13, mkD "_law_count" s14, mkD "_law_parts" s15, mkD "_law_net" s16, mkD "_law_is_name" s17, mkD "_law_is_whole" s18, mkD "_law_is_tuple" s19, mkD "_law_are_parts" s20, mkD "_law_due" s21, mkD "_law_odd_thing" s22, mkD "_law_bent" s23, mkD "law" s24]
def fa : List He.Fa := (fnL.map fun d => .glo d.at_.1) ++ bltNames.map .free
def ex (K : PySem.W.Frag) : Bool := glB' K T.gl globs
abbrev R : PySem.W.OpenRow := PySem.W.OpenLaw.row PySem.Challenge.rw_tokenfold_k05_what_is_no_net
abbrev hk : PySem.W.Hook := hookM 6 fa fnL ex
def ob (s : PySem.W.SharedT) : AlM := obsM 6 fa fnL ex (HandSHeadRun.getT s)
theorem ob_eq (s : PySem.W.SharedT) : ob s = hk.obs s.abs := obsM_eq (HandSHeadRun.getT_eq s)
def names0 : List PySem.Str := ["WORDS", "SMALL", "FIGURES", "MOST_SIGNS", "MOST_COUNT", "MOST_PLACES", "MOST_FIRINGS", "is_count", "is_name", "are_parts", "is_place", "is_firing", "part_wrong", "net_wrong", "_law_mixed", "_law_purse", "_law_take", "_law_at", "_law_pick", "_law_names", "_law_some_names", "_law_count", "_law_parts", "_law_net", "_law_is_name", "_law_is_whole", "_law_is_tuple", "_law_are_parts", "_law_due", "_law_odd_thing"]
def names1 : List PySem.Str := ["_law_bent"]
def names : List PySem.Str := names0 ++ names1
abbrev qv : Program := PySem.W.view R.prog [33]
theorem run (w : World) : HandSHeadRun.RunEq R qv hk ob 3000 names w := by
  intro os
  kernel_rfl
theorem ent0 : entB T fns s0 ["thing", "least"] ["thing", "least"] 0 = true := by kernel_rfl
theorem ent1 : entB T fns s1 ["thing", "sign"] ["thing"] 1 = true := by kernel_rfl
theorem ent2 : entB T fns s2 ["thing", "part"] ["thing"] 2 = true := by kernel_rfl
theorem ent3 : entB T fns s3 ["thing", "known"] ["thing", "known"] 3 = true := by kernel_rfl
theorem ent4 : entB T fns s4 ["thing", "known"] ["thing", "known"] 4 = true := by kernel_rfl
theorem ent5 : entB T fns s5 ["firing", "numbers", "at", "parts", "last", "name", "count"] ["firing", "numbers"] 5 = true := by kernel_rfl
theorem ent6 : entB T fns s6 ["thing", "numbers", "k", "place", "known", "firing", "at"] ["thing"] 6 = true := by kernel_rfl
theorem ent7 : entB T fns s7 ["_law_cell", "_law_k", "_law_number"] ["_law_cell", "_law_k"] 7 = true := by kernel_rfl
theorem ent8 : entB T fns s8 ["_law_cell", "_law_k"] ["_law_cell", "_law_k"] 8 = true := by kernel_rfl
theorem ent9 : entB T fns s9 ["_law_purse_here", "_law_far", "_law_got"] ["_law_purse_here", "_law_far"] 9 = true := by kernel_rfl
theorem ent10 : entB T fns s10 ["_law_script", "_law_k"] ["_law_script", "_law_k"] 10 = true := by kernel_rfl
theorem ent11 : entB T fns s11 ["_law_purse_here", "_law_some"] ["_law_purse_here", "_law_some"] 11 = true := by kernel_rfl
theorem ent12 : entB T fns s12 [] [] 12 = true := by kernel_rfl
theorem ent13 : entB T fns s13 ["_law_purse_here", "_law_many", "_law_left", "_law_k"] ["_law_purse_here", "_law_many"] 13 = true := by kernel_rfl
theorem ent14 : entB T fns s14 ["_law_purse_here", "_law_low"] ["_law_purse_here", "_law_low"] 14 = true := by kernel_rfl
theorem ent15 : entB T fns s15 ["_law_purse_here", "_law_names_here", "_law_some", "_law_name"] ["_law_purse_here", "_law_names_here"] 15 = true := by kernel_rfl
theorem ent16 : entB T fns s16 ["_law_purse_here", "_law_names_here", "_law_places", "_law_firings", "_law_name", "_law_label", "_law_takes"] ["_law_purse_here"] 16 = true := by kernel_rfl
theorem ent17 : entB T fns s17 ["_law_what"] ["_law_what"] 17 = true := by kernel_rfl
theorem ent18 : entB T fns s18 ["_law_what", "_law_low"] ["_law_what", "_law_low"] 18 = true := by kernel_rfl
theorem ent19 : entB T fns s19 ["_law_what", "_law_size"] ["_law_what", "_law_size"] 19 = true := by kernel_rfl
theorem ent20 : entB T fns s20 ["_law_what", "_law_good", "_law_part"] ["_law_what"] 20 = true := by kernel_rfl
theorem ent21 : entB T fns s21 ["_law_what", "_law_names_here", "_law_k", "_law_place", "_law_known", "_law_firing", "_law_both", "_law_j", "_law_ahead", "_law_part"] ["_law_what"] 21 = true := by kernel_rfl
theorem ent22 : entB T fns s22 ["_law_purse_here", "_law_some"] ["_law_purse_here"] 22 = true := by kernel_rfl
theorem ent23 : entB T fns s23 ["_law_purse_here", "_law_what", "_law_at_here", "_law_mode", "_law_other", "_law_found"] ["_law_purse_here", "_law_what"] 23 = true := by kernel_rfl
theorem ent24 : entB T fns s24 ["_law_script", "_law_k", "_law_purse_here", "_law_whole", "_law_turn", "_law_what", "_law_bend", "_law_held", "_law_due_here"] ["_law_script"] 24 = true := by kernel_rfl
section
variable {K : PySem.W.Frag} {h : Heap} {mg : Str → Option Value}
theorem def0 (X : K.In h) (G : h.Ns mainGlobals mg) (c : He.SaysD fa fnL K) : ∃ fd, FunD K "is_count" "is_count" (defArgs s0) (defBody s0) (defScope s0) [] [] (He.ga K "is_count") fd ∧ DefOk K mg T fns "is_count" 0 (He.ga K "is_count") fd ["thing", "least"] := by
  obtain ⟨fd, F⟩ := c.def_ 0 (d := mkD "is_count" s0) rfl
  have F : FunD K "is_count" "is_count" (defArgs s0) (defBody s0) (defScope s0) [] [] (He.ga K "is_count") fd := F
  refine ⟨fd, F, def_mk F (He.glo_ok X G (c.fact 0 (f := .glo "is_count") rfl)) ent0 (FunD.bindsN (ps := ["thing", "least"]) F fun _ _ _ _ _ _ us hl => match us, hl with | [_, _], _ => rfl) fun n ks perm hk => ?_⟩
  simp only [T, List.mem_cons, Prod.mk.injEq, List.not_mem_nil, or_false] at hk
  omega
theorem def1 (X : K.In h) (G : h.Ns mainGlobals mg) (c : He.SaysD fa fnL K) : ∃ fd, FunD K "is_name" "is_name" (defArgs s1) (defBody s1) (defScope s1) [] [] (He.ga K "is_name") fd ∧ DefOk K mg T fns "is_name" 1 (He.ga K "is_name") fd ["thing"] := by
  obtain ⟨fd, F⟩ := c.def_ 1 (d := mkD "is_name" s1) rfl
  have F : FunD K "is_name" "is_name" (defArgs s1) (defBody s1) (defScope s1) [] [] (He.ga K "is_name") fd := F
  refine ⟨fd, F, def_mk F (He.glo_ok X G (c.fact 1 (f := .glo "is_name") rfl)) ent1 (FunD.bindsN (ps := ["thing"]) F fun _ _ _ _ _ _ us hl => match us, hl with | [_], _ => rfl) fun n ks perm hk => ?_⟩
  simp only [T, List.mem_cons, Prod.mk.injEq, List.not_mem_nil, or_false] at hk
  omega
theorem def2 (X : K.In h) (G : h.Ns mainGlobals mg) (c : He.SaysD fa fnL K) : ∃ fd, FunD K "are_parts" "are_parts" (defArgs s2) (defBody s2) (defScope s2) [] [] (He.ga K "are_parts") fd ∧ DefOk K mg T fns "are_parts" 2 (He.ga K "are_parts") fd ["thing"] := by
  obtain ⟨fd, F⟩ := c.def_ 2 (d := mkD "are_parts" s2) rfl
  have F : FunD K "are_parts" "are_parts" (defArgs s2) (defBody s2) (defScope s2) [] [] (He.ga K "are_parts") fd := F
  refine ⟨fd, F, def_mk F (He.glo_ok X G (c.fact 2 (f := .glo "are_parts") rfl)) ent2 (FunD.bindsN (ps := ["thing"]) F fun _ _ _ _ _ _ us hl => match us, hl with | [_], _ => rfl) fun n ks perm hk => ?_⟩
  simp only [T, List.mem_cons, Prod.mk.injEq, List.not_mem_nil, or_false] at hk
  omega
theorem def3 (X : K.In h) (G : h.Ns mainGlobals mg) (c : He.SaysD fa fnL K) : ∃ fd, FunD K "is_place" "is_place" (defArgs s3) (defBody s3) (defScope s3) [] [] (He.ga K "is_place") fd ∧ DefOk K mg T fns "is_place" 3 (He.ga K "is_place") fd ["thing", "known"] := by
  obtain ⟨fd, F⟩ := c.def_ 3 (d := mkD "is_place" s3) rfl
  have F : FunD K "is_place" "is_place" (defArgs s3) (defBody s3) (defScope s3) [] [] (He.ga K "is_place") fd := F
  refine ⟨fd, F, def_mk F (He.glo_ok X G (c.fact 3 (f := .glo "is_place") rfl)) ent3 (FunD.bindsN (ps := ["thing", "known"]) F fun _ _ _ _ _ _ us hl => match us, hl with | [_, _], _ => rfl) fun n ks perm hk => ?_⟩
  simp only [T, List.mem_cons, Prod.mk.injEq, List.not_mem_nil, or_false] at hk
  omega
theorem def4 (X : K.In h) (G : h.Ns mainGlobals mg) (c : He.SaysD fa fnL K) : ∃ fd, FunD K "is_firing" "is_firing" (defArgs s4) (defBody s4) (defScope s4) [] [] (He.ga K "is_firing") fd ∧ DefOk K mg T fns "is_firing" 4 (He.ga K "is_firing") fd ["thing", "known"] := by
  obtain ⟨fd, F⟩ := c.def_ 4 (d := mkD "is_firing" s4) rfl
  have F : FunD K "is_firing" "is_firing" (defArgs s4) (defBody s4) (defScope s4) [] [] (He.ga K "is_firing") fd := F
  refine ⟨fd, F, def_mk F (He.glo_ok X G (c.fact 4 (f := .glo "is_firing") rfl)) ent4 (FunD.bindsN (ps := ["thing", "known"]) F fun _ _ _ _ _ _ us hl => match us, hl with | [_, _], _ => rfl) fun n ks perm hk => ?_⟩
  simp only [T, List.mem_cons, Prod.mk.injEq, List.not_mem_nil, or_false] at hk
  omega
theorem def5 (X : K.In h) (G : h.Ns mainGlobals mg) (c : He.SaysD fa fnL K) : ∃ fd, FunD K "part_wrong" "part_wrong" (defArgs s5) (defBody s5) (defScope s5) [] [] (He.ga K "part_wrong") fd ∧ DefOk K mg T fns "part_wrong" 5 (He.ga K "part_wrong") fd ["firing", "numbers"] := by
  obtain ⟨fd, F⟩ := c.def_ 5 (d := mkD "part_wrong" s5) rfl
  have F : FunD K "part_wrong" "part_wrong" (defArgs s5) (defBody s5) (defScope s5) [] [] (He.ga K "part_wrong") fd := F
  refine ⟨fd, F, def_mk F (He.glo_ok X G (c.fact 5 (f := .glo "part_wrong") rfl)) ent5 (FunD.bindsN (ps := ["firing", "numbers"]) F fun _ _ _ _ _ _ us hl => match us, hl with | [_, _], _ => rfl) fun n ks perm hk => ?_⟩
  simp only [T, List.mem_cons, Prod.mk.injEq, List.not_mem_nil, or_false] at hk
  omega
theorem def6 (X : K.In h) (G : h.Ns mainGlobals mg) (c : He.SaysD fa fnL K) : ∃ fd, FunD K "net_wrong" "net_wrong" (defArgs s6) (defBody s6) (defScope s6) [] [] (He.ga K "net_wrong") fd ∧ DefOk K mg T fns "net_wrong" 6 (He.ga K "net_wrong") fd ["thing"] := by
  obtain ⟨fd, F⟩ := c.def_ 6 (d := mkD "net_wrong" s6) rfl
  have F : FunD K "net_wrong" "net_wrong" (defArgs s6) (defBody s6) (defScope s6) [] [] (He.ga K "net_wrong") fd := F
  refine ⟨fd, F, def_mk F (He.glo_ok X G (c.fact 6 (f := .glo "net_wrong") rfl)) ent6 (FunD.bindsN (ps := ["thing"]) F fun _ _ _ _ _ _ us hl => match us, hl with | [_], _ => rfl) fun n ks perm hk => ?_⟩
  simp only [T, List.mem_cons, Prod.mk.injEq, List.not_mem_nil, or_false] at hk
  · obtain ⟨e1, e2, e3, e4⟩ := hk
    subst e2 e3 e4
    refine ⟨by decide, by decide, kw_bind F fun _ _ _ _ _ _ us ws h1 h2 => ?_⟩
    match us, ws, h1, h2 with | [], [_], _, _ => rfl
theorem def7 (X : K.In h) (G : h.Ns mainGlobals mg) (c : He.SaysD fa fnL K) : ∃ fd, FunD K "_law_mixed" "_law_mixed" (defArgs s7) (defBody s7) (defScope s7) [] [] (He.ga K "_law_mixed") fd ∧ DefOk K mg T fns "_law_mixed" 7 (He.ga K "_law_mixed") fd ["_law_cell", "_law_k"] := by
  obtain ⟨fd, F⟩ := c.def_ 7 (d := mkD "_law_mixed" s7) rfl
  have F : FunD K "_law_mixed" "_law_mixed" (defArgs s7) (defBody s7) (defScope s7) [] [] (He.ga K "_law_mixed") fd := F
  refine ⟨fd, F, def_mk F (He.glo_ok X G (c.fact 7 (f := .glo "_law_mixed") rfl)) ent7 (FunD.bindsN (ps := ["_law_cell", "_law_k"]) F fun _ _ _ _ _ _ us hl => match us, hl with | [_, _], _ => rfl) fun n ks perm hk => ?_⟩
  simp only [T, List.mem_cons, Prod.mk.injEq, List.not_mem_nil, or_false] at hk
  omega
theorem def8 (X : K.In h) (G : h.Ns mainGlobals mg) (c : He.SaysD fa fnL K) : ∃ fd, FunD K "_law_purse" "_law_purse" (defArgs s8) (defBody s8) (defScope s8) [] [] (He.ga K "_law_purse") fd ∧ DefOk K mg T fns "_law_purse" 8 (He.ga K "_law_purse") fd ["_law_cell", "_law_k"] := by
  obtain ⟨fd, F⟩ := c.def_ 8 (d := mkD "_law_purse" s8) rfl
  have F : FunD K "_law_purse" "_law_purse" (defArgs s8) (defBody s8) (defScope s8) [] [] (He.ga K "_law_purse") fd := F
  refine ⟨fd, F, def_mk F (He.glo_ok X G (c.fact 8 (f := .glo "_law_purse") rfl)) ent8 (FunD.bindsN (ps := ["_law_cell", "_law_k"]) F fun _ _ _ _ _ _ us hl => match us, hl with | [_, _], _ => rfl) fun n ks perm hk => ?_⟩
  simp only [T, List.mem_cons, Prod.mk.injEq, List.not_mem_nil, or_false] at hk
  omega
theorem def9 (X : K.In h) (G : h.Ns mainGlobals mg) (c : He.SaysD fa fnL K) : ∃ fd, FunD K "_law_take" "_law_take" (defArgs s9) (defBody s9) (defScope s9) [] [] (He.ga K "_law_take") fd ∧ DefOk K mg T fns "_law_take" 9 (He.ga K "_law_take") fd ["_law_purse_here", "_law_far"] := by
  obtain ⟨fd, F⟩ := c.def_ 9 (d := mkD "_law_take" s9) rfl
  have F : FunD K "_law_take" "_law_take" (defArgs s9) (defBody s9) (defScope s9) [] [] (He.ga K "_law_take") fd := F
  refine ⟨fd, F, def_mk F (He.glo_ok X G (c.fact 9 (f := .glo "_law_take") rfl)) ent9 (FunD.bindsN (ps := ["_law_purse_here", "_law_far"]) F fun _ _ _ _ _ _ us hl => match us, hl with | [_, _], _ => rfl) fun n ks perm hk => ?_⟩
  simp only [T, List.mem_cons, Prod.mk.injEq, List.not_mem_nil, or_false] at hk
  omega
theorem def10 (X : K.In h) (G : h.Ns mainGlobals mg) (c : He.SaysD fa fnL K) : ∃ fd, FunD K "_law_at" "_law_at" (defArgs s10) (defBody s10) (defScope s10) [] [] (He.ga K "_law_at") fd ∧ DefOk K mg T fns "_law_at" 10 (He.ga K "_law_at") fd ["_law_script", "_law_k"] := by
  obtain ⟨fd, F⟩ := c.def_ 10 (d := mkD "_law_at" s10) rfl
  have F : FunD K "_law_at" "_law_at" (defArgs s10) (defBody s10) (defScope s10) [] [] (He.ga K "_law_at") fd := F
  refine ⟨fd, F, def_mk F (He.glo_ok X G (c.fact 10 (f := .glo "_law_at") rfl)) ent10 (FunD.bindsN (ps := ["_law_script", "_law_k"]) F fun _ _ _ _ _ _ us hl => match us, hl with | [_, _], _ => rfl) fun n ks perm hk => ?_⟩
  simp only [T, List.mem_cons, Prod.mk.injEq, List.not_mem_nil, or_false] at hk
  omega
theorem def11 (X : K.In h) (G : h.Ns mainGlobals mg) (c : He.SaysD fa fnL K) : ∃ fd, FunD K "_law_pick" "_law_pick" (defArgs s11) (defBody s11) (defScope s11) [] [] (He.ga K "_law_pick") fd ∧ DefOk K mg T fns "_law_pick" 11 (He.ga K "_law_pick") fd ["_law_purse_here", "_law_some"] := by
  obtain ⟨fd, F⟩ := c.def_ 11 (d := mkD "_law_pick" s11) rfl
  have F : FunD K "_law_pick" "_law_pick" (defArgs s11) (defBody s11) (defScope s11) [] [] (He.ga K "_law_pick") fd := F
  refine ⟨fd, F, def_mk F (He.glo_ok X G (c.fact 11 (f := .glo "_law_pick") rfl)) ent11 (FunD.bindsN (ps := ["_law_purse_here", "_law_some"]) F fun _ _ _ _ _ _ us hl => match us, hl with | [_, _], _ => rfl) fun n ks perm hk => ?_⟩
  simp only [T, List.mem_cons, Prod.mk.injEq, List.not_mem_nil, or_false] at hk
  omega
theorem def12 (X : K.In h) (G : h.Ns mainGlobals mg) (c : He.SaysD fa fnL K) : ∃ fd, FunD K "_law_names" "_law_names" (defArgs s12) (defBody s12) (defScope s12) [] [] (He.ga K "_law_names") fd ∧ DefOk K mg T fns "_law_names" 12 (He.ga K "_law_names") fd [] := by
  obtain ⟨fd, F⟩ := c.def_ 12 (d := mkD "_law_names" s12) rfl
  have F : FunD K "_law_names" "_law_names" (defArgs s12) (defBody s12) (defScope s12) [] [] (He.ga K "_law_names") fd := F
  refine ⟨fd, F, def_mk F (He.glo_ok X G (c.fact 12 (f := .glo "_law_names") rfl)) ent12 (FunD.bindsN (ps := []) F fun _ _ _ _ _ _ us hl => match us, hl with | [], _ => rfl) fun n ks perm hk => ?_⟩
  simp only [T, List.mem_cons, Prod.mk.injEq, List.not_mem_nil, or_false] at hk
  omega
theorem def13 (X : K.In h) (G : h.Ns mainGlobals mg) (c : He.SaysD fa fnL K) : ∃ fd, FunD K "_law_some_names" "_law_some_names" (defArgs s13) (defBody s13) (defScope s13) [] [] (He.ga K "_law_some_names") fd ∧ DefOk K mg T fns "_law_some_names" 13 (He.ga K "_law_some_names") fd ["_law_purse_here", "_law_many"] := by
  obtain ⟨fd, F⟩ := c.def_ 13 (d := mkD "_law_some_names" s13) rfl
  have F : FunD K "_law_some_names" "_law_some_names" (defArgs s13) (defBody s13) (defScope s13) [] [] (He.ga K "_law_some_names") fd := F
  refine ⟨fd, F, def_mk F (He.glo_ok X G (c.fact 13 (f := .glo "_law_some_names") rfl)) ent13 (FunD.bindsN (ps := ["_law_purse_here", "_law_many"]) F fun _ _ _ _ _ _ us hl => match us, hl with | [_, _], _ => rfl) fun n ks perm hk => ?_⟩
  simp only [T, List.mem_cons, Prod.mk.injEq, List.not_mem_nil, or_false] at hk
  omega
theorem def14 (X : K.In h) (G : h.Ns mainGlobals mg) (c : He.SaysD fa fnL K) : ∃ fd, FunD K "_law_count" "_law_count" (defArgs s14) (defBody s14) (defScope s14) [] [] (He.ga K "_law_count") fd ∧ DefOk K mg T fns "_law_count" 14 (He.ga K "_law_count") fd ["_law_purse_here", "_law_low"] := by
  obtain ⟨fd, F⟩ := c.def_ 14 (d := mkD "_law_count" s14) rfl
  have F : FunD K "_law_count" "_law_count" (defArgs s14) (defBody s14) (defScope s14) [] [] (He.ga K "_law_count") fd := F
  refine ⟨fd, F, def_mk F (He.glo_ok X G (c.fact 14 (f := .glo "_law_count") rfl)) ent14 (FunD.bindsN (ps := ["_law_purse_here", "_law_low"]) F fun _ _ _ _ _ _ us hl => match us, hl with | [_, _], _ => rfl) fun n ks perm hk => ?_⟩
  simp only [T, List.mem_cons, Prod.mk.injEq, List.not_mem_nil, or_false] at hk
  omega
theorem def15 (X : K.In h) (G : h.Ns mainGlobals mg) (c : He.SaysD fa fnL K) : ∃ fd, FunD K "_law_parts" "_law_parts" (defArgs s15) (defBody s15) (defScope s15) [] [] (He.ga K "_law_parts") fd ∧ DefOk K mg T fns "_law_parts" 15 (He.ga K "_law_parts") fd ["_law_purse_here", "_law_names_here"] := by
  obtain ⟨fd, F⟩ := c.def_ 15 (d := mkD "_law_parts" s15) rfl
  have F : FunD K "_law_parts" "_law_parts" (defArgs s15) (defBody s15) (defScope s15) [] [] (He.ga K "_law_parts") fd := F
  refine ⟨fd, F, def_mk F (He.glo_ok X G (c.fact 15 (f := .glo "_law_parts") rfl)) ent15 (FunD.bindsN (ps := ["_law_purse_here", "_law_names_here"]) F fun _ _ _ _ _ _ us hl => match us, hl with | [_, _], _ => rfl) fun n ks perm hk => ?_⟩
  simp only [T, List.mem_cons, Prod.mk.injEq, List.not_mem_nil, or_false] at hk
  omega
theorem def16 (X : K.In h) (G : h.Ns mainGlobals mg) (c : He.SaysD fa fnL K) : ∃ fd, FunD K "_law_net" "_law_net" (defArgs s16) (defBody s16) (defScope s16) [] [] (He.ga K "_law_net") fd ∧ DefOk K mg T fns "_law_net" 16 (He.ga K "_law_net") fd ["_law_purse_here"] := by
  obtain ⟨fd, F⟩ := c.def_ 16 (d := mkD "_law_net" s16) rfl
  have F : FunD K "_law_net" "_law_net" (defArgs s16) (defBody s16) (defScope s16) [] [] (He.ga K "_law_net") fd := F
  refine ⟨fd, F, def_mk F (He.glo_ok X G (c.fact 16 (f := .glo "_law_net") rfl)) ent16 (FunD.bindsN (ps := ["_law_purse_here"]) F fun _ _ _ _ _ _ us hl => match us, hl with | [_], _ => rfl) fun n ks perm hk => ?_⟩
  simp only [T, List.mem_cons, Prod.mk.injEq, List.not_mem_nil, or_false] at hk
  omega
theorem def17 (X : K.In h) (G : h.Ns mainGlobals mg) (c : He.SaysD fa fnL K) : ∃ fd, FunD K "_law_is_name" "_law_is_name" (defArgs s17) (defBody s17) (defScope s17) [] [] (He.ga K "_law_is_name") fd ∧ DefOk K mg T fns "_law_is_name" 17 (He.ga K "_law_is_name") fd ["_law_what"] := by
  obtain ⟨fd, F⟩ := c.def_ 17 (d := mkD "_law_is_name" s17) rfl
  have F : FunD K "_law_is_name" "_law_is_name" (defArgs s17) (defBody s17) (defScope s17) [] [] (He.ga K "_law_is_name") fd := F
  refine ⟨fd, F, def_mk F (He.glo_ok X G (c.fact 17 (f := .glo "_law_is_name") rfl)) ent17 (FunD.bindsN (ps := ["_law_what"]) F fun _ _ _ _ _ _ us hl => match us, hl with | [_], _ => rfl) fun n ks perm hk => ?_⟩
  simp only [T, List.mem_cons, Prod.mk.injEq, List.not_mem_nil, or_false] at hk
  omega
theorem def18 (X : K.In h) (G : h.Ns mainGlobals mg) (c : He.SaysD fa fnL K) : ∃ fd, FunD K "_law_is_whole" "_law_is_whole" (defArgs s18) (defBody s18) (defScope s18) [] [] (He.ga K "_law_is_whole") fd ∧ DefOk K mg T fns "_law_is_whole" 18 (He.ga K "_law_is_whole") fd ["_law_what", "_law_low"] := by
  obtain ⟨fd, F⟩ := c.def_ 18 (d := mkD "_law_is_whole" s18) rfl
  have F : FunD K "_law_is_whole" "_law_is_whole" (defArgs s18) (defBody s18) (defScope s18) [] [] (He.ga K "_law_is_whole") fd := F
  refine ⟨fd, F, def_mk F (He.glo_ok X G (c.fact 18 (f := .glo "_law_is_whole") rfl)) ent18 (FunD.bindsN (ps := ["_law_what", "_law_low"]) F fun _ _ _ _ _ _ us hl => match us, hl with | [_, _], _ => rfl) fun n ks perm hk => ?_⟩
  simp only [T, List.mem_cons, Prod.mk.injEq, List.not_mem_nil, or_false] at hk
  omega
theorem def19 (X : K.In h) (G : h.Ns mainGlobals mg) (c : He.SaysD fa fnL K) : ∃ fd, FunD K "_law_is_tuple" "_law_is_tuple" (defArgs s19) (defBody s19) (defScope s19) [] [] (He.ga K "_law_is_tuple") fd ∧ DefOk K mg T fns "_law_is_tuple" 19 (He.ga K "_law_is_tuple") fd ["_law_what", "_law_size"] := by
  obtain ⟨fd, F⟩ := c.def_ 19 (d := mkD "_law_is_tuple" s19) rfl
  have F : FunD K "_law_is_tuple" "_law_is_tuple" (defArgs s19) (defBody s19) (defScope s19) [] [] (He.ga K "_law_is_tuple") fd := F
  refine ⟨fd, F, def_mk F (He.glo_ok X G (c.fact 19 (f := .glo "_law_is_tuple") rfl)) ent19 (FunD.bindsN (ps := ["_law_what", "_law_size"]) F fun _ _ _ _ _ _ us hl => match us, hl with | [_, _], _ => rfl) fun n ks perm hk => ?_⟩
  simp only [T, List.mem_cons, Prod.mk.injEq, List.not_mem_nil, or_false] at hk
  omega
theorem def20 (X : K.In h) (G : h.Ns mainGlobals mg) (c : He.SaysD fa fnL K) : ∃ fd, FunD K "_law_are_parts" "_law_are_parts" (defArgs s20) (defBody s20) (defScope s20) [] [] (He.ga K "_law_are_parts") fd ∧ DefOk K mg T fns "_law_are_parts" 20 (He.ga K "_law_are_parts") fd ["_law_what"] := by
  obtain ⟨fd, F⟩ := c.def_ 20 (d := mkD "_law_are_parts" s20) rfl
  have F : FunD K "_law_are_parts" "_law_are_parts" (defArgs s20) (defBody s20) (defScope s20) [] [] (He.ga K "_law_are_parts") fd := F
  refine ⟨fd, F, def_mk F (He.glo_ok X G (c.fact 20 (f := .glo "_law_are_parts") rfl)) ent20 (FunD.bindsN (ps := ["_law_what"]) F fun _ _ _ _ _ _ us hl => match us, hl with | [_], _ => rfl) fun n ks perm hk => ?_⟩
  simp only [T, List.mem_cons, Prod.mk.injEq, List.not_mem_nil, or_false] at hk
  omega
theorem def21 (X : K.In h) (G : h.Ns mainGlobals mg) (c : He.SaysD fa fnL K) : ∃ fd, FunD K "_law_due" "_law_due" (defArgs s21) (defBody s21) (defScope s21) [] [] (He.ga K "_law_due") fd ∧ DefOk K mg T fns "_law_due" 21 (He.ga K "_law_due") fd ["_law_what"] := by
  obtain ⟨fd, F⟩ := c.def_ 21 (d := mkD "_law_due" s21) rfl
  have F : FunD K "_law_due" "_law_due" (defArgs s21) (defBody s21) (defScope s21) [] [] (He.ga K "_law_due") fd := F
  refine ⟨fd, F, def_mk F (He.glo_ok X G (c.fact 21 (f := .glo "_law_due") rfl)) ent21 (FunD.bindsN (ps := ["_law_what"]) F fun _ _ _ _ _ _ us hl => match us, hl with | [_], _ => rfl) fun n ks perm hk => ?_⟩
  simp only [T, List.mem_cons, Prod.mk.injEq, List.not_mem_nil, or_false] at hk
  omega
theorem def22 (X : K.In h) (G : h.Ns mainGlobals mg) (c : He.SaysD fa fnL K) : ∃ fd, FunD K "_law_odd_thing" "_law_odd_thing" (defArgs s22) (defBody s22) (defScope s22) [] [] (He.ga K "_law_odd_thing") fd ∧ DefOk K mg T fns "_law_odd_thing" 22 (He.ga K "_law_odd_thing") fd ["_law_purse_here"] := by
  obtain ⟨fd, F⟩ := c.def_ 22 (d := mkD "_law_odd_thing" s22) rfl
  have F : FunD K "_law_odd_thing" "_law_odd_thing" (defArgs s22) (defBody s22) (defScope s22) [] [] (He.ga K "_law_odd_thing") fd := F
  refine ⟨fd, F, def_mk F (He.glo_ok X G (c.fact 22 (f := .glo "_law_odd_thing") rfl)) ent22 (FunD.bindsN (ps := ["_law_purse_here"]) F fun _ _ _ _ _ _ us hl => match us, hl with | [_], _ => rfl) fun n ks perm hk => ?_⟩
  simp only [T, List.mem_cons, Prod.mk.injEq, List.not_mem_nil, or_false] at hk
  omega
theorem def23 (X : K.In h) (G : h.Ns mainGlobals mg) (c : He.SaysD fa fnL K) : ∃ fd, FunD K "_law_bent" "_law_bent" (defArgs s23) (defBody s23) (defScope s23) [] [] (He.ga K "_law_bent") fd ∧ DefOk K mg T fns "_law_bent" 23 (He.ga K "_law_bent") fd ["_law_purse_here", "_law_what"] := by
  obtain ⟨fd, F⟩ := c.def_ 23 (d := mkD "_law_bent" s23) rfl
  have F : FunD K "_law_bent" "_law_bent" (defArgs s23) (defBody s23) (defScope s23) [] [] (He.ga K "_law_bent") fd := F
  refine ⟨fd, F, def_mk F (He.glo_ok X G (c.fact 23 (f := .glo "_law_bent") rfl)) ent23 (FunD.bindsN (ps := ["_law_purse_here", "_law_what"]) F fun _ _ _ _ _ _ us hl => match us, hl with | [_, _], _ => rfl) fun n ks perm hk => ?_⟩
  simp only [T, List.mem_cons, Prod.mk.injEq, List.not_mem_nil, or_false] at hk
  omega
theorem def24 (X : K.In h) (G : h.Ns mainGlobals mg) (c : He.SaysD fa fnL K) : ∃ fd, FunD K "law" "law" (defArgs s24) (defBody s24) (defScope s24) [] [] (He.ga K "law") fd ∧ DefOk K mg T fns "law" 24 (He.ga K "law") fd ["_law_script"] := by
  obtain ⟨fd, F⟩ := c.def_ 24 (d := mkD "law" s24) rfl
  have F : FunD K "law" "law" (defArgs s24) (defBody s24) (defScope s24) [] [] (He.ga K "law") fd := F
  refine ⟨fd, F, def_mk F (He.glo_ok X G (c.fact 24 (f := .glo "law") rfl)) ent24 (FunD.bindsN (ps := ["_law_script"]) F fun _ _ _ _ _ _ us hl => match us, hl with | [_], _ => rfl) fun n ks perm hk => ?_⟩
  simp only [T, List.mem_cons, Prod.mk.injEq, List.not_mem_nil, or_false] at hk
  omega
theorem all (X : K.In h) (G : h.Ns mainGlobals mg) (c : He.SaysD fa fnL K) : ∀ p ∈ T.fn, ∃ f fd ps, DefOk K mg T fns p.1 p.2 f fd ps := by
  have key : ∀ {x : Str} {i : Nat} {ps : List Str} {A : FuncData → Prop} {f : Addr}, (∃ fd, A fd ∧ DefOk K mg T fns x i f fd ps) → ∃ f fd ps, DefOk K mg T fns x i f fd ps := fun ⟨fd, _, e⟩ => ⟨_, fd, _, e⟩
  intro p hp
  simp only [T, List.mem_cons, List.not_mem_nil, or_false] at hp
  rcases hp with rfl | rfl | rfl | rfl | rfl | rfl | rfl | rfl | rfl | rfl | rfl | rfl | rfl | rfl | rfl | rfl | rfl | rfl | rfl | rfl | rfl | rfl | rfl | rfl | rfl
  · exact key (def0 X G c)
  · exact key (def1 X G c)
  · exact key (def2 X G c)
  · exact key (def3 X G c)
  · exact key (def4 X G c)
  · exact key (def5 X G c)
  · exact key (def6 X G c)
  · exact key (def7 X G c)
  · exact key (def8 X G c)
  · exact key (def9 X G c)
  · exact key (def10 X G c)
  · exact key (def11 X G c)
  · exact key (def12 X G c)
  · exact key (def13 X G c)
  · exact key (def14 X G c)
  · exact key (def15 X G c)
  · exact key (def16 X G c)
  · exact key (def17 X G c)
  · exact key (def18 X G c)
  · exact key (def19 X G c)
  · exact key (def20 X G c)
  · exact key (def21 X G c)
  · exact key (def22 X G c)
  · exact key (def23 X G c)
  · exact key (def24 X G c)
end
theorem facts {K : PySem.W.Frag} {h : Heap} {mg : Str → Option Value} {f : Addr} (X : K.In h) (G : h.Ns mainGlobals mg) (hfa : mg ("law" : Str) = some (.ref f)) (c : He.SaysD fa fnL K) (e : ex K = true) :
    ∃ fd, (∀ (s : Shared) (u : Value), BindsTo s fd ⟨[u], []⟩ [("_law_script", u)]) ∧ (∀ x fid, T.fn.lookup x = some fid → ∃ f fd ps, DefOk K mg T fns x fid f fd ps) ∧ (∀ x ∈ bltNames, mg x = none) ∧
      (∀ x g d, T.gl.lookup x = some g → globs g = some d → ∃ u v, mg x = some u ∧ RelV v u ∧ ∀ F, Rep K F d v) ∧ T.fn.lookup ("law" : PySem.Str) = some 24 ∧ DefOk K mg T fns "law" 24 f fd ["_law_script"] := by
  obtain ⟨fd, F, D0⟩ := def24 X G c
  have g := hfa.symm.trans D0.mgx
  cases g
  refine ⟨fd, fun s u => ?_, all_fn (P := fun x i => ∃ f fd ps, DefOk K mg T fns x i f fd ps) (all X G c), fun x hx => ?_, gl_ok X G e, rfl, D0⟩
  · exact FunD.bindsA (ps := ["_law_script"]) F (fun _ _ _ _ _ _ us hl => match us, hl with | [_], _ => rfl) s [u] rfl
  · exact He.free_ok X G (factsD c (f := .free x) (List.mem_append_right _ (List.mem_map_of_mem hx)))
end K05
set_option Elab.async false
set_option linter.all false
set_option maxRecDepth 100000
set_option maxHeartbeats 0
open PySem PySem.W PySem.Calls PyProof.Rows
theorem PySem.Challenge.cw_tokenfold_k05_what_is_no_net_holds : PySem.Challenge.rw_tokenfold_k05_what_is_no_net.Holds := by
  w_on; o_law
  refine HandSHeadRun.head_any (r := OpenLaw.row PySem.Challenge.rw_tokenfold_k05_what_is_no_net) (q := K05.qv) (H := K05.hk) (ob := K05.ob) (M := 3000) (loose := K05.names) (d := HandSHeadRun.topDef (OpenLaw.row PySem.Challenge.rw_tokenfold_k05_what_is_no_net).prog 33) (kwd := []) K05.ob_eq
    (by kernel_rfl) (fun s => by kernel_rfl) K05.run (by kernel_rfl) (by kernel_rfl) (by kernel_rfl) (by rfl) (by first | assumption | decide +kernel) (by decide +kernel) ⟨rfl, rfl, rfl, rfl, rfl, by decide +kernel⟩ ?hw ?hc
  case hw => w_witness2
  case hc =>
    refine M.walk_M (l := PySem.Challenge.rw_tokenfold_k05_what_is_no_net) (n := 63) (k := 31) (fid := 24) (x := "_law_script") (T := K05.T) (fns := K05.fns) (glob := K05.globs) (ER := fun _ _ _ _ _ => False) (wf := 1000) rfl (by decide) (by kernel_rfl) ⟨rfl, by decide, by decide⟩ M.ers_none ?F ?law
    case law => exact fun ns hn => K05.law_holds (k := 0) ns hn
    case F =>
      intro w mg fa h Y G hmg0
      obtain ⟨K, KX, c, e⟩ := Y
      have en : (HandSHeadRun.topDef (OpenLaw.row PySem.Challenge.rw_tokenfold_k05_what_is_no_net).prog 33).name = ("law" : PySem.Str) := by kernel_rfl
      rw [en] at hmg0 ⊢
      obtain ⟨fd, h⟩ := K05.facts KX G hmg0 c e
      exact ⟨K, fd, KX, h⟩
