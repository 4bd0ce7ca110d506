import PyProof.Rows.All
import HandS.ForMost
import HandS.Wide
import KE.DataEq
import KE.DataCmp
import KE.SortData
import HandS.ForExc
import HandS.Deep
import HandS.TupAny
import HandS.IsInst
import HandS.More
import HandS.SortInts
import KE.KIntText
import HandS.RaiseMore
import HandS.Flow
import KE.KStar
import HandS.WordsExc
import HandS.Property
import HandS.Defaults
import HandS.Zip
import HandS.DictComp
import HandS.Style
import HandS.Small
import HandS.Set
import HandS.SetFor
import HandS.Ends
import HandS.Head0
import HandS.Head1
import HandS.Head2
import HandS.HeadEnd
import HandS.HeadHook1
import HandS.HeadHook2
import PySem.Challenge.RW_surershares_k03_two_keysets
set_option Elab.async false
section
set_option linter.all false
set_option maxRecDepth 100000
/-! SvCore: data trees with cells, a small core language, its interpreter (plain Lean). -/
namespace Sv
open PySem L2

inductive T where
  | non | bl (b : Bool) | int (i : Int) | str (x : Str)
  | tup (xs : List T) | lst (xs : List T) | dic (kvs : List (Key × T)) | ins (c : Nat) (fs : List (Str × T))
  | cell (n : Nat) | scr (ns : List Int)
  deriving Inhabited

inductive Cell where
  | lst (xs : List T) | dic (kvs : List (Key × T)) | ins (c : Nat) (fs : List (Str × T)) | gone

abbrev Stor := List Cell
abbrev Slt := List (Option T)

inductive R where
  | val (t : T) | new (c : Cell)

def Cell.fz : Cell → T
  | .lst xs => .lst xs
  | .dic k => .dic k
  | .ins c f => .ins c f
  | .gone => .non
def R.fz : R → T
  | .val t => t
  | .new c => c.fz

structure Exn where
  cls : Nat
  fs : List (Str × T)

inductive Rs (α : Type) where
  | no | ok (a : α) (st : Stor) | ex (x : Exn) (st : Stor)

def Rs.bind {α β : Type} (r : Rs α) (k : α → Stor → Rs β) : Rs β :=
  match r with
  | .no => .no
  | .ok a st => k a st
  | .ex x st => .ex x st
def Rs.map {α β : Type} (f : α → β) (r : Rs α) : Rs β := r.bind fun a st => .ok (f a) st
def Rs.fz (r : Rs R) : Rs T := r.map R.fz
/-- an exception is not allowed here (a comprehension's block) -/
def Rs.calm {α : Type} (r : Rs α) : Rs α :=
  match r with
  | .ex _ _ => .no
  | r => r
def ofO {α : Type} (st : Stor) : Option α → Rs α
  | some a => .ok a st
  | none => .no

def mapO {α β : Type} (f : α → Option β) : List α → Option (List β)
  | [] => some []
  | x :: xs => match f x with
    | none => none
    | some y => match mapO f xs with
      | none => none
      | some ys => some (y :: ys)

/-- the items of a list, a tuple -/
def seqOf (st : Stor) : T → Option (List T)
  | .lst xs => some xs
  | .tup xs => some xs
  | .cell n => match st[n]? with
    | some (.lst xs) => some xs
    | _ => none
  | _ => none
def lstOf (st : Stor) : T → Option (List T)
  | .lst xs => some xs
  | .cell n => match st[n]? with
    | some (.lst xs) => some xs
    | _ => none
  | _ => none
def dicOf (st : Stor) : T → Option (List (Key × T))
  | .dic xs => some xs
  | .cell n => match st[n]? with
    | some (.dic xs) => some xs
    | _ => none
  | _ => none

/-- a value as plain data -/
def rdD (st : Stor) : Nat → T → Option PyData
  | 0, _ => none
  | _ + 1, .non => some .none
  | _ + 1, .bl b => some (.bool b)
  | _ + 1, .int i => some (.int i)
  | _ + 1, .str x => some (.str x)
  | n + 1, .tup xs => (mapO (rdD st n) xs).map .tuple
  | n + 1, .lst xs => (mapO (rdD st n) xs).map .list
  | n + 1, .cell k => match st[k]? with
    | some (.lst xs) => (mapO (rdD st n) xs).map .list
    | _ => none
  | _ + 1, _ => none
abbrev rd (st : Stor) (t : T) : Option PyData := rdD st 20 t

/-! ### the core language -/
inductive Ty where
  | int | bool | str | list | tuple | dict | own (c : Nat)
  deriving DecidableEq
inductive Bi where
  | len | tuple | list | sorted | sortedSet | lenSet | all | any | sum | str | int | abs | min | max | dict
  deriving DecidableEq
inductive Mt where
  | append | extend | pop | insert | index | join | split | items | get | reverse | remove | partition | startswith | setdefault | values
  deriving DecidableEq
inductive Tg where
  | nm (i : Nat) | tp (is : List Nat)

inductive C where
  | var (i : Nat)
  | lit (t : T)
  | glo (x : Str)
  | bin (op : Operator) (a b : C)
  | neg (a : C) | nt (a : C) | and (a b : C) | or (a b : C)
  | cmp (op : CmpOp) (a b : C) | chain (o1 o2 : CmpOp) (a b c : C)
  | ite (c a b : C)
  | tup (as : C) | lst (as : C)
  | nil | cons (a r : C) | star (a r : C)
  | lc (elt : C) (tg : Tg) (it ifs : C) (own : List Nat)
  | lc2 (elt : C) (tg : Tg) (it ifs : C) (tg1 : Tg) (it1 ifs1 : C) (own own1 : List Nat)
  | dc (k v : C) (tg : Tg) (it ifs : C) (own : List Nat)
  | dsp (as : C)
  | call (f : Nat) (as : C) | make (c f : Nat) (as : C) | callK (f n : Nat) (ks : List Str) (as : C) | makeK (c f n : Nat) (ks : List Str) (as : C) | mtK (x : Str) (n : Nat) (ks : List Str) (o as : C)
  | bi (b : Bi) (as : C) | isi (tys : List Ty) (e : C)
  | mt (x : Str) (m : Option Mt) (o as : C)
  | attr (o : C) (f : Str)
  | idx (o i : C) | slc (o lo hi : C)
  | fst (as : C)
  | rng (as : C) | enum (a : C) | zip (as : C) | itr (a : C) | tru (a : C)
  | cel (e : C)

inductive S where
  | nil | seq (s r : S)
  | asg (tg : Tg) (e : C)
  | sub (o i e : C) | fld (o : C) (f : Str) (e : C)
  | aug (i : Nat) (op : Operator) (e : C)
  | ife (c : C) (a b : S) | for_ (tg : Tg) (it : C) (b : S) | whl (c : C) (b : S)
  | ret (e : C) | retN | ex (e : C) | pass | brk | cnt
  | raise (c f : Nat) (as : C)
  | frz (i : Nat)
end Sv
end
section
set_option linter.all false
set_option maxRecDepth 100000
/-! SvEval: the interpreter of the core language. -/
namespace Sv
open PySem L2

/-- no cell within (fuel: the depth) -/
def clB : Nat → T → Bool
  | 0, _ => false
  | k + 1, t => match t with
    | .cell _ => false
    | .tup xs => xs.all (clB k)
    | .lst xs => xs.all (clB k)
    | .dic kvs => kvs.all fun p => clB k p.2
    | .ins _ fs => fs.all fun p => clB k p.2
    | .non => true
    | .bl _ => true
    | .int _ => true
    | .str _ => true
    | .scr _ => true
def pureB (t : T) : Bool := clB 30 t
def pureC : Cell → Bool
  | .lst xs => xs.all pureB
  | .dic k => k.all fun p => pureB p.2
  | .ins _ f => f.all fun p => pureB p.2
  | .gone => false
def pureR : R → Bool
  | .val t => pureB t
  | .new c => pureC c

/-- tables of the program: methods and properties of classes, constants of the module, isinstance of own classes -/
structure Tabs where
  meth : Nat → Str → Option Nat
  prop : Nat → Str → Option Nat
  glo : Str → Option T
  sub : Nat → Nat → Bool
  cls : Nat → Bool
  fld : Nat → Str → Bool
  /-- a call with keywords: f, how many values without, the names; the order of the values, the defaults -/
  kw : Nat → Nat → List Str → Option (List Nat × List T)

structure Ev where
  G : Tabs
  cal : Nat → List T → Stor → Rs R

/-! ### values -/
def mulOk (i j : Int) : Bool :=
  decide (i.natAbs < 18446744073709551616) || (decide (j.natAbs < 18446744073709551616) || decide (i.natAbs.log2 + j.natAbs.log2 < 1000000))
def divOk (j : Int) : Bool := !decide (j = 0) && (decide (j.natAbs < 1073741824) || (decide (0 < j) && decide (j.natAbs.log2 < 9000)))

def binV (op : Operator) (x y : T) (st : Stor) : Rs R :=
  match op, x, y with
  | .Add, .int i, .int j => .ok (.val (.int (i + j))) st
  | .Add, .str a, .str b => if a.length + b.length ≤ 16777216 then .ok (.val (.str (a ++ b))) st else .no
  | .Add, .tup a, .tup b => if a.length + b.length ≤ 16777216 then .ok (.val (.tup (a ++ b))) st else .no
  | .Add, .lst a, .lst b => if a.length + b.length ≤ 16777216 then .ok (.new (.lst (a ++ b))) st else .no
  | .Add, .cell m, y => match st[m]?, lstOf st y with
    | some (.lst a), some b => if a.length + b.length ≤ 16777216 then .ok (.new (.lst (a ++ b))) st else .no
    | _, _ => .no
  | .Add, .lst a, .cell m => match st[m]? with
    | some (.lst b) => if a.length + b.length ≤ 16777216 then .ok (.new (.lst (a ++ b))) st else .no
    | _ => .no
  | .Sub, .int i, .int j => .ok (.val (.int (i - j))) st
  | .Mult, .int i, .int j => if mulOk i j then .ok (.val (.int (i * j))) st else .no
  | .Mult, .lst a, .int k => if -9223372036854775808 ≤ k ∧ k < 9223372036854775808 ∧ a.length * k.toNat ≤ 16777216 then .ok (.new (.lst (List.replicate k.toNat a).flatten)) st else .no
  | .FloorDiv, .int i, .int j => if divOk j then .ok (.val (.int (i.fdiv j))) st else .no
  | .Mod, .int i, .int j => if j = 0 then .no else .ok (.val (.int (i.fmod j))) st
  | .Pow, .int i, .int j => if 0 ≤ j ∧ j ≤ 1000000 ∧ i.natAbs < 18446744073709551616 then .ok (.val (.int (i ^ j.toNat))) st else .no
  | _, _, _ => .no

/-- equality of data (no instances, no dicts) -/
def eqT (st : Stor) (x y : T) : Option Bool :=
  match x, y with
  | .int i, .int j => some (decide (i = j))
  | .str a, .str b => some (decide (a = b))
  | .bl a, .bl b => some (decide (a = b))
  | x, y => match rd st x, rd st y with
    | some d, some e => some (PyData.eqv d e)
    | _, _ => none
/-- is x among the items -/
def inT (st : Stor) (x : T) (ys : List T) : Option Bool :=
  match rd st x, mapO (rdD st 20) ys with
  | some d, some ds => some (ds.any fun y => PyData.eqv y d)
  | _, _ => none

/-- orders of data that is alike -/
def notNone : PyData → Bool
  | .none => false
  | _ => true
def ordT (f : PyData → PyData → Bool) (st : Stor) (x y : T) : Option Bool :=
  match rd st x, rd st y with
  | some d, some e => if PySem.W.alike d e && notNone d then some (f d e) else none
  | _, _ => none
def ltT (st : Stor) (x y : T) : Option Bool := ordT (fun d e => PySem.W.dataLt d e) st x y
def gtT (st : Stor) (x y : T) : Option Bool := ordT (fun d e => PySem.W.dataLt e d) st x y
def leT (st : Stor) (x y : T) : Option Bool := ordT (fun d e => !PySem.W.dataLt e d) st x y
def geT (st : Stor) (x y : T) : Option Bool := ordT (fun d e => !PySem.W.dataLt d e) st x y
def keyOf : T → Option Key
  | .int i => some (.inl i)
  | .str x => some (.inr x)
  | _ => none
def getD (kvs : List (Key × T)) (k : Key) : Option T := (kvs.find? fun kv => decide (kv.1 = k)).map (·.2)
def putD (kvs : List (Key × T)) (k : Key) (v : T) : List (Key × T) :=
  if (kvs.any fun kv => decide (kv.1 = k)) = true then kvs.map (fun kv => if kv.1 = k then (kv.1, v) else kv) else kvs ++ [(k, v)]
def getF (fs : List (Str × T)) (f : Str) : Option T := fs.lookup f
def putFT (f : Str) (v : T) : List (Str × T) → List (Str × T)
  | [] => [(f, v)]
  | (g, x) :: r => if g = f then (g, v) :: r else (g, x) :: putFT f v r
def inD (st : Stor) (x y : T) : Option Bool :=
  match y with
  | .str b => match x with
    | .str a => if a.length = 1 then some (b.cps.toList.contains (a.cps.toList.headD 0)) else none
    | _ => none
  | .dic kvs => match keyOf x with
    | some k => some (getD kvs k).isSome
    | none => none
  | .cell n => match st[n]? with
    | some (.lst xs) => inT st x xs
    | some (.dic kvs) => match keyOf x with
      | some k => some (getD kvs k).isSome
      | none => none
    | _ => none
  | .lst xs => inT st x xs
  | .tup xs => inT st x xs
  | _ => none

def strsOf : List T → Option (List Str)
  | [] => some []
  | .str x :: r => (strsOf r).map (x :: ·)
  | _ => none
def intsOf : List T → Option (List Int)
  | [] => some []
  | .int x :: r => (intsOf r).map (x :: ·)
  | _ => none
def vb (b : Bool) (st : Stor) : Rs R := .ok (.val (.bl b)) st
def ofB (st : Stor) : Option Bool → Rs R
  | some b => vb b st
  | none => .no

def cmpV (E : Ev) (op : CmpOp) (x y : T) (st : Stor) : Rs R :=
  match op, x, y with
  | .Lt, .int i, .int j => vb (decide (i < j)) st
  | .LtE, .int i, .int j => vb (decide (i ≤ j)) st
  | .Gt, .int i, .int j => vb (decide (j < i)) st
  | .GtE, .int i, .int j => vb (decide (j ≤ i)) st
  | .Lt, x, y => ofB st (ltT st x y)
  | .LtE, x, y => ofB st (leT st x y)
  | .Gt, x, y => ofB st (gtT st x y)
  | .GtE, x, y => ofB st (geT st x y)
  | .Eq, x, y => ofB st (eqT st x y)
  | .NotEq, x, y => ofB st ((eqT st x y).map (!·))
  | .In, x, y => ofB st (inD st x y)
  | .NotIn, x, y => ofB st ((inD st x y).map (!·))
  | .Is, .non, .non => vb true st
  | .Is, _, .non => vb false st
  | .IsNot, .non, .non => vb false st
  | .IsNot, _, .non => vb true st
  | _, _, _ => .no

def truV (st : Stor) : T → Option Bool
  | .bl b => some b
  | .lst xs => some (!xs.isEmpty)
  | .tup xs => some (!xs.isEmpty)
  | .cell n => match st[n]? with
    | some (.lst xs) => some (!xs.isEmpty)
    | _ => none
  | _ => none

/-- the items of a written range -/
def rangeT (lo hi : Int) : List T := (List.range (hi - lo).toNat).map fun i : Nat => T.int (lo + (i : Int))

def boolsOf : List T → Option (List Bool)
  | [] => some []
  | .bl x :: r => (boolsOf r).map (x :: ·)
  | _ => none

/-- insertion, before the first item that is greater -/
def insS (x : Str) : List Str → List Str
  | [] => [x]
  | y :: r => if Spec.ltCps x.cps.toList y.cps.toList then x :: y :: r else y :: insS x r
def sortS (xs : List Str) : List Str := xs.foldl (fun acc x => insS x acc) []
def insI (x : Int) : List Int → List Int
  | [] => [x]
  | y :: r => if decide (x < y) then x :: y :: r else y :: insI x r
def sortI (xs : List Int) : List Int := xs.foldl (fun acc x => insI x acc) []
def dedupS : List Str → List Str
  | [] => []
  | x :: r => if r.contains x then dedupS r else x :: dedupS r
def dedupI : List Int → List Int
  | [] => []
  | x :: r => if r.contains x then dedupI r else x :: dedupI r

/-- the digits of a number as signs -/
def digsF : Nat → Nat → List Nat → List Nat
  | 0, m, acc => (48 + m) :: acc
  | k + 1, m, acc => if m < 10 then (48 + m) :: acc else digsF k (m / 10) ((48 + m % 10) :: acc)
def digs (m : Nat) : List Nat := digsF (m.log2 + 1) m []
def decS (i : Int) : Str := if i < 0 then ⟨(45 :: digs i.natAbs).toArray⟩ else ⟨(digs i.natAbs).toArray⟩

def pairsOf (st : Stor) : List T → Option (List (Key × T))
  | [] => some []
  | p :: r => match p with
    | .tup [k, v] => match keyOf k, pairsOf st r with
      | some k, some l => some ((k, v) :: l)
      | _, _ => none
    | _ => none
def mergeT (kvs more : List (Key × T)) : List (Key × T) := more.foldl (fun acc kv => putD acc kv.1 kv.2) kvs

def lenV (E : Ev) (x : T) (st : Stor) : Rs R :=
  match x with
  | .str a => if a.length ≤ 16777216 then .ok (.val (.int a.length)) st else .no
  | .lst xs => .ok (.val (.int xs.length)) st
  | .tup xs => .ok (.val (.int xs.length)) st
  | .cell n => match st[n]? with
    | some (.lst xs) => .ok (.val (.int xs.length)) st
    | some (.dic xs) => .ok (.val (.int xs.length)) st
    | _ => .no
  | _ => .no

def biV (E : Ev) (b : Bi) (xs : List T) (st : Stor) : Rs R :=
  match b, xs with
  | .len, [x] => lenV E x st
  | .tuple, [.tup xs] => .ok (.val (.tup xs)) st
  | .tuple, [.lst xs] => .ok (.val (.tup xs)) st
  | .tuple, [.cell n] => match st[n]? with
    | some (.lst xs) => .ok (.val (.tup xs)) st
    | _ => .no
  | .list, [x] => match seqOf st x with
    | some xs => .ok (.new (.lst xs)) st
    | none => .no
  | .sorted, [x] => match lstOf st x with
    | some xs => match strsOf xs with
      | some zs => if zs.length < 64 then .ok (.new (.lst ((sortS zs).map T.str))) st else .no
      | none => .no
    | none => .no
  | .sortedSet, [x] => match seqOf st x with
    | some xs => match strsOf xs with
      | some zs => if zs.length < 64 then .ok (.new (.lst ((sortS (dedupS zs)).map T.str))) st else .no
      | none => match intsOf xs with
        | some zs => if zs.length < 64 then .ok (.new (.lst ((sortI (dedupI zs)).map T.int))) st else .no
        | none => .no
    | none => .no
  | .lenSet, [x] => match seqOf st x with
    | some xs => match intsOf xs with
      | some zs => if zs.length < 64 then .ok (.val (.int (dedupI zs).length)) st else .no
      | none => .no
    | none => .no
  | .all, [x] => match lstOf st x with
    | some xs => match boolsOf xs with
      | some bs => vb (bs.all id) st
      | none => .no
    | none => .no
  | .any, [x] => match lstOf st x with
    | some xs => match boolsOf xs with
      | some bs => vb (bs.any id) st
      | none => .no
    | none => .no
  | .str, [.int i] => if i.natAbs.log2 < 1920 then .ok (.val (.str (decS i))) st else .no
  | .str, [.str x] => .ok (.val (.str x)) st
  | .int, [.int i] => .ok (.val (.int i)) st
  | .int, [.bl b] => .ok (.val (.int (if b then 1 else 0))) st
  | .abs, [.int i] => .ok (.val (.int (if i < 0 then -i else i))) st
  | .dict, [x] => match lstOf st x with
    | some xs => match pairsOf st xs with
      | some kvs => .ok (.new (.dic (mergeT [] kvs))) st
      | none => .no
    | none => .no
  | _, _ => .no

def tyIs (E : Ev) (st : Stor) (x : T) : Ty → Bool
  | .int => match x with | .int _ => true | .bl _ => true | _ => false
  | .bool => match x with | .bl _ => true | _ => false
  | .str => match x with | .str _ => true | _ => false
  | .list => match x with | .lst _ => true | .cell n => (match st[n]? with | some (.lst _) => true | _ => false) | _ => false
  | .tuple => match x with | .tup _ => true | _ => false
  | .dict => match x with | .dic _ => true | .cell n => (match st[n]? with | some (.dic _) => true | _ => false) | _ => false
  | .own c => match x with | .ins d _ => E.G.sub d c | .cell n => (match st[n]? with | some (.ins d _) => E.G.sub d c | _ => false) | _ => false

/-- the type is known -/
def tyKn (E : Ev) (st : Stor) : T → Bool
  | .ins c _ => E.G.cls c
  | .cell n => match st[n]? with
    | some (.lst _) => true
    | some (.dic _) => true
    | some (.ins c _) => E.G.cls c
    | _ => false
  | .scr _ => false
  | _ => true
def tyOk (E : Ev) : Ty → Bool
  | .own c => E.G.cls c
  | _ => true
def setC (st : Stor) (n : Nat) (c : Cell) : Stor := st.set n c

/-! ### calls: a callee has the cells that are handed to it, no others -/
def takeArgs : List T → List Nat → Option (List T × List Nat)
  | [], ns => some ([], ns)
  | .cell n :: r, ns => match ns.findIdx? (fun m => decide (m = n)) with
    | some i => (takeArgs r ns).map fun p => (.cell i :: p.1, p.2)
    | none => (takeArgs r (ns ++ [n])).map fun p => (.cell ns.length :: p.1, p.2)
  | x :: r, ns => if pureB x then (takeArgs r ns).map fun p => (x :: p.1, p.2) else none
def putBack : List Nat → Stor → Stor → Stor
  | n :: ns, c :: cs, st => putBack ns cs (st.set n c)
  | _, _, st => st
/-- a value as it stands now, lists in the place of cells -/
def fzT (st : Stor) : Nat → T → Option T
  | 0, _ => none
  | k + 1, t => match t with
    | .cell n => match st[n]? with
      | some (.lst xs) => (mapO (fzT st k) xs).map T.lst
      | _ => none
    | .tup xs => (mapO (fzT st k) xs).map T.tup
    | .lst xs => (mapO (fzT st k) xs).map T.lst
    | t => if clB (k + 1) t then some t else none
def atomB : T → Bool
  | .non => true
  | .bl _ => true
  | .int _ => true
  | .str _ => true
  | _ => false
/-- lists stand still while a callee looks at them: it must answer with a plain value -/
def callF (cal : List T → Stor → Rs R) (xs : List T) (st : Stor) : Rs R :=
  match mapO (fzT st 30) xs with
  | none => .no
  | some ys => match cal ys [] with
    | .ok (.val t) [] => if atomB t then .ok (.val t) st else .no
    | _ => .no
def kwArgs (E : Ev) (f n : Nat) (ks : List Str) (xs : List T) : Option (List T) :=
  match E.G.kw f n ks with
  | some (pm, ds) => if xs.length = n + ks.length then mapO (fun j => (xs ++ ds)[j]?) pm else none
  | none => none
/-- C(..): the new object is the first value -/
def kwMake (E : Ev) (f n : Nat) (ks : List Str) (xs : List T) : Option (List T) :=
  match E.G.kw f (n + 1) ks with
  | some (0 :: pm, ds) => if xs.length = n + ks.length ∧ pm.all (fun j => decide (0 < j)) then mapO (fun j => (xs ++ ds)[j]?) (pm.map fun j => j - 1) else none
  | _ => none
def callC (cal : List T → Stor → Rs R) (xs : List T) (st : Stor) : Rs R :=
  match st with
  | [] => cal xs []
  | c0 :: st0 => match takeArgs xs [] with
    | none => callF cal xs (c0 :: st0)
    | some (ys, ns) => match mapO (fun n => (c0 :: st0)[n]?) ns with
      | none => .no
      | some cells => if cells.all pureC then match cal ys cells with
          | .no => .no
          | .ok r st1 => if st1.length = ns.length ∧ pureR r ∧ st1.all pureC then .ok r (putBack ns st1 (c0 :: st0)) else .no
          | .ex x st1 => if st1.length = ns.length ∧ (x.fs.all fun p => pureB p.2) ∧ st1.all pureC then .ex x (putBack ns st1 (c0 :: st0)) else .no
        else callF cal xs (c0 :: st0)

/-- C(..): __init__ has the new object as its one cell -/
def makeC (cal : List T → Stor → Rs R) (c : Nat) (xs : List T) (st : Stor) : Rs R :=
  if xs.all pureB then match cal (.cell 0 :: xs) [.ins c []] with
    | .ok (.val .non) [.ins d fs] => if fs.all (fun p => pureB p.2) then .ok (.new (.ins d fs)) st else .no
    | .ex x _ => if (x.fs.all fun p => pureB p.2) then .ex x st else .no
    | _ => .no
  else .no

/-- a method of a built-in type -/
def mtV (E : Ev) (m : Mt) (o : T) (as : List T) (st : Stor) : Rs R :=
  match m, o, as with
  | .append, .cell n, [x] => match st[n]? with
    | some (.lst xs) => if xs.length < 16777216 then .ok (.val .non) (st.set n (.lst (xs ++ [x]))) else .no
    | _ => .no
  | .extend, .cell n, [y] => match st[n]?, lstOf st y with
    | some (.lst xs), some ys => if xs.length + ys.length ≤ 16777216 then .ok (.val .non) (st.set n (.lst (xs ++ ys))) else .no
    | _, _ => .no
  | .pop, .cell n, [.int i] => match st[n]? with
    | some (.lst xs) => match ixN xs.length i with
      | some j => match xs[j]? with
        | some x => .ok (.val x) (st.set n (.lst (xs.eraseIdx j)))
        | none => .no
      | none => .no
    | _ => .no
  | .index, o, [x] => match lstOf st o with
    | some xs => match rd st x, mapO (rdD st 20) xs with
      | some d, some ds => match ds.findIdx? (fun z => PyData.eqv z d) with
        | some k => .ok (.val (.int k)) st
        | none => .no
      | _, _ => .no
    | none => .no
  | .join, .str z, [y] => match seqOf st y with
    | some ys => match strsOf ys with
      | some zs => if (zs.map Str.length).sum + z.length * zs.length ≤ 16777216 then .ok (.val (.str (Str.join z zs))) st else .no
      | none => .no
    | none => .no
  | .reverse, .cell n, [] => match st[n]? with
    | some (.lst xs) => .ok (.val .non) (st.set n (.lst xs.reverse))
    | _ => .no
  | _, _, _ => .no

/-- the type whose method it is -/
def mtTy (m : Mt) (o : T) (st : Stor) : Option String :=
  match m, o with
  | .join, .str _ => some "str"
  | .split, .str _ => some "str"
  | .partition, .str _ => some "str"
  | .startswith, .str _ => some "str"
  | .append, .cell n => match st[n]? with | some (.lst _) => some "list" | _ => none
  | .extend, .cell n => match st[n]? with | some (.lst _) => some "list" | _ => none
  | .pop, .cell n => match st[n]? with | some (.lst _) => some "list" | _ => none
  | .insert, .cell n => match st[n]? with | some (.lst _) => some "list" | _ => none
  | .reverse, .cell n => match st[n]? with | some (.lst _) => some "list" | _ => none
  | .remove, .cell n => match st[n]? with | some (.lst _) => some "list" | _ => none
  | .index, .cell n => match st[n]? with | some (.lst _) => some "list" | _ => none
  | .index, .lst _ => some "list"
  | _, _ => none
def recvOk (E : Ev) (x : Str) (m : Option Mt) (o : T) (st : Stor) : Bool :=
  match o with
  | .ins c fs => (getF fs x).isNone && (E.G.meth c x).isSome
  | o => match m with
    | some m => (mtTy m o st).isSome
    | none => false

def methV (E : Ev) (x : Str) (m : Option Mt) (o : T) (as : List T) (st : Stor) : Rs R :=
  match o with
  | .ins c fs => match getF fs x, E.G.meth c x with
    | none, some f => callC (E.cal f) (.ins c fs :: as) st
    | _, _ => .no
  | o => match m with
    | some m => mtV E m o as st
    | none => .no

def attrV (E : Ev) (o : T) (f : Str) (st : Stor) : Rs R :=
  match o with
  | .ins c fs => match E.G.prop c f with
    | some g => (callC (E.cal g) [.ins c fs] st).calm
    | none => match getF fs f with
      | some t => if E.G.fld c f then .ok (.val t) st else .no
      | none => .no
  | .cell n => match st[n]? with
    | some (.ins c fs) => match E.G.prop c f with
      | some g => (callC (E.cal g) [.cell n] st).calm
      | none => match getF fs f with
        | some t => if E.G.fld c f then .ok (.val t) st else .no
        | none => .no
    | _ => .no
  | _ => .no

def idxV (E : Ev) (o i : T) (st : Stor) : Rs R :=
  match seqOf st o with
  | some xs => match i with
    | .int k => match atI xs k with
      | some t => .ok (.val t) st
      | none => .no
    | _ => .no
  | none => match dicOf st o with
    | some kvs => match keyOf i with
      | some k => match getD kvs k with
        | some t => .ok (.val t) st
        | none => .no
      | none => .no
    | none => match o, i with
      | .str z, .int k => if z.length ≤ 16777216 then match atI z.cps.toList k with
          | some c => .ok (.val (.str ⟨#[c]⟩)) st
          | none => .no
        else .no
      | _, _ => .no

def cutT {α : Type} (xs : List α) (lo hi : Option Int) : List α := (xs.drop (HT.sIx xs.length 0 lo)).take (HT.sIx xs.length xs.length hi - HT.sIx xs.length 0 lo)
def partOf : T → Option (Option Int)
  | .non => some none
  | .int i => some (some i)
  | _ => none
def slcV (o : T) (lo hi : Option Int) (st : Stor) : Rs R :=
  match o with
  | .tup xs => .ok (.val (.tup (cutT xs lo hi))) st
  | .lst xs => .ok (.new (.lst (cutT xs lo hi))) st
  | .cell n => match st[n]? with
    | some (.lst xs) => .ok (.new (.lst (cutT xs lo hi))) st
    | _ => .no
  | .str z => if z.length ≤ 16777216 then .ok (.val (.str (cutS z lo hi))) st else .no
  | .scr ns => .ok (.new (.lst ((cutT ns lo hi).map T.int))) st
  | _ => .no

/-! ### what is walked -/
inductive Src where
  | fix (xs : List T) | cell (n : Nat)
def srcOf (st : Stor) : T → Option Src
  | .lst xs => some (.fix xs)
  | .tup xs => some (.fix xs)
  | .cell n => match st[n]? with
    | some (.lst _) => some (.cell n)
    | _ => none
  | .str z => some (.fix (z.cps.toList.map fun c => T.str ⟨#[c]⟩))
  | .dic kvs => some (.fix (kvs.map fun kv => match kv.1 with | .inl i => T.int i | .inr x => T.str x))
  | _ => none
def enumT : Nat → List T → List T
  | _, [] => []
  | k, x :: r => .tup [.int k, x] :: enumT (k + 1) r
def zipT : List T → List T → List T
  | x :: r, y :: s => .tup [x, y] :: zipT r s
  | _, _ => []
def zipT3 : List T → List T → List T → List T
  | x :: r, y :: s, z :: t => .tup [x, y, z] :: zipT3 r s t
  | _, _, _ => []
/-- the items of what stands still -/
def fixOf : T → Option (List T)
  | .lst xs => some xs
  | .tup xs => some xs
  | _ => none
def keyT : Key → T
  | .inl i => .int i
  | .inr x => .str x
def itemsT (kvs : List (Key × T)) : List T := kvs.map fun kv => .tup [keyT kv.1, kv.2]

def setAll : List Nat → List T → Slt → Option Slt
  | [], [], sl => some sl
  | i :: is, t :: ts, sl => setAll is ts (sl.set i (some t))
  | _, _, _ => none
def asgT (tg : Tg) (t : T) (sl : Slt) (st : Stor) : Option Slt :=
  match tg with
  | .nm i => some (sl.set i (some t))
  | .tp is => match t with
    | .tup xs => setAll is xs sl
    | _ => none
def wipeT (sl : Slt) : List Nat → Slt
  | [] => sl
  | v :: vs => (wipeT sl vs).set v none

/-! ### loops -/
def lcFix (turn : T → Stor → Rs (Option T)) : List T → List T → Stor → Rs (List T)
  | [], acc, st => .ok acc st
  | x :: xs, acc, st => (turn x st).bind fun r st => match r with
    | none => lcFix turn xs acc st
    | some y => if acc.length < 16777216 then lcFix turn xs (acc ++ [y]) st else .no
def lcCell (turn : T → Stor → Rs (Option T)) (n : Nat) : Nat → Nat → List T → Stor → Rs (List T)
  | 0, i, acc, st => match st[n]? with
    | some (.lst xs) => if xs.length ≤ i then .ok acc st else .no
    | _ => .no
  | k + 1, i, acc, st => match st[n]? with
    | some (.lst xs) => match xs[i]? with
      | none => .ok acc st
      | some x => (turn x st).bind fun r st => match r with
        | none => lcCell turn n k (i + 1) acc st
        | some y => if acc.length < 16777216 then lcCell turn n k (i + 1) (acc ++ [y]) st else .no
    | _ => .no
def lenC (st : Stor) (n : Nat) : Nat := match st[n]? with
  | some (.lst xs) => xs.length
  | _ => 0
def lcSrc (turn : T → Stor → Rs (Option T)) (s : Src) (st : Stor) : Rs (List T) :=
  match s with
  | .fix xs => lcFix turn xs [] st
  | .cell n => lcCell turn n (lenC st n) 0 [] st
/-- a block whose turn hands on the list (two fors) -/
def lcFix2 (turn : T → List T → Stor → Rs (List T)) : List T → List T → Stor → Rs (List T)
  | [], acc, st => .ok acc st
  | x :: xs, acc, st => (turn x acc st).bind fun acc st => lcFix2 turn xs acc st
def dcFix (turn : T → Stor → Rs (Option (Key × T))) : List T → List (Key × T) → Stor → Rs (List (Key × T))
  | [], acc, st => .ok acc st
  | x :: xs, acc, st => (turn x st).bind fun r st => match r with
    | none => dcFix turn xs acc st
    | some (k, y) => if acc.length < 16777216 then dcFix turn xs (putD acc k y) st else .no

inductive Fl where
  | nx | rt (r : R) | bk | ct
def forFix (body : T → Slt → Stor → Rs (Fl × Slt)) : List T → Slt → Stor → Rs (Fl × Slt)
  | [], sl, st => .ok (.nx, sl) st
  | x :: xs, sl, st => (body x sl st).bind fun r st => match r.1 with
    | .nx => forFix body xs r.2 st
    | .ct => forFix body xs r.2 st
    | .bk => .ok (.nx, r.2) st
    | .rt v => .ok (.rt v, r.2) st
def forCell (body : T → Slt → Stor → Rs (Fl × Slt)) (n : Nat) : Nat → Nat → Slt → Stor → Rs (Fl × Slt)
  | 0, i, sl, st => match st[n]? with
    | some (.lst xs) => if xs.length ≤ i then .ok (.nx, sl) st else .no
    | _ => .no
  | k + 1, i, sl, st => match st[n]? with
    | some (.lst xs) => match xs[i]? with
      | none => .ok (.nx, sl) st
      | some x => (body x sl st).bind fun r st => match r.1 with
        | .nx => forCell body n k (i + 1) r.2 st
        | .ct => forCell body n k (i + 1) r.2 st
        | .bk => .ok (.nx, r.2) st
        | .rt v => .ok (.rt v, r.2) st
    | _ => .no
def forSrc (body : T → Slt → Stor → Rs (Fl × Slt)) (s : Src) (sl : Slt) (st : Stor) : Rs (Fl × Slt) :=
  match s with
  | .fix xs => forFix body xs sl st
  | .cell n => forCell body n (lenC st n) 0 sl st
def whileN (test : Slt → Stor → Rs Bool) (body : Slt → Stor → Rs (Fl × Slt)) : Nat → Slt → Stor → Rs (Fl × Slt)
  | 0, _, _ => .no
  | k + 1, sl, st => (test sl st).bind fun b st => if b then (body sl st).bind fun r st => match r.1 with
      | .nx => whileN test body k r.2 st
      | .ct => whileN test body k r.2 st
      | .bk => .ok (.nx, r.2) st
      | .rt v => .ok (.rt v, r.2) st
    else .ok (.nx, sl) st

/-! ### expressions -/
mutual
def evE (E : Ev) : C → Slt → Stor → Rs R
  | .var i, sl, st => match sl[i]? with
    | some (some t) => .ok (.val t) st
    | _ => .no
  | .lit t, _, st => .ok (.val t) st
  | .glo x, _, st => match E.G.glo x with
    | some t => .ok (.val t) st
    | none => .no
  | .bin op a b, sl, st => (evE E a sl st).bind fun x st => match x with
    | .val x => (evE E b sl st).bind fun y st => binV op x y.fz st
    | .new c => (evE E b sl st).bind fun y st => binV op c.fz y.fz st
  | .neg a, sl, st => (evE E a sl st).bind fun x st => match x with
    | .val (.int i) => .ok (.val (.int (-i))) st
    | _ => .no
  | .nt a, sl, st => (evE E a sl st).bind fun x st => (ofO st (truV st x.fz)).bind fun b st => .ok (.val (.bl (!b))) st
  | .and a b, sl, st => (evE E a sl st).bind fun x st => match x with
    | .val (.bl c) => if c then evE E b sl st else .ok (.val (.bl false)) st
    | _ => .no
  | .or a b, sl, st => (evE E a sl st).bind fun x st => match x with
    | .val (.bl c) => if c then .ok (.val (.bl true)) st else evE E b sl st
    | .new (.lst xs) => if xs.isEmpty then evE E b sl st else .ok (.new (.lst xs)) st
    | _ => .no
  | .cmp op a b, sl, st => (evE E a sl st).bind fun x st => (evE E b sl st).bind fun y st => cmpV E op x.fz y.fz st
  | .chain o1 o2 a b c, sl, st => (evE E a sl st).bind fun x st => (evE E b sl st).bind fun y st => (cmpV E o1 x.fz y.fz st).bind fun z st => match z with
    | .val (.bl k) => if k then (evE E c sl st).bind fun w st => cmpV E o2 y.fz w.fz st else .ok (.val (.bl false)) st
    | _ => .no
  | .ite c a b, sl, st => (evT E c sl st).bind fun k st => if k then evE E a sl st else evE E b sl st
  | .tup as, sl, st => (evA E as sl st).bind fun xs st => if xs.length ≤ 16777216 then .ok (.val (.tup xs)) st else .no
  | .lst as, sl, st => (evA E as sl st).bind fun xs st => if xs.length ≤ 16777216 then .ok (.new (.lst xs)) st else .no
  | .nil, _, _ => .no
  | .cons _ _, _, _ => .no
  | .star _ _, _, _ => .no
  | .lc elt tg it ifs own, sl, st => (evI E it sl st).bind fun s st =>
      (lcSrc (fun x st => (ofO st (asgT tg x (wipeT sl own) st)).bind fun sl st => (evT E ifs sl st).calm.bind fun b st => if b then (evE E elt sl st).calm.bind fun y st => .ok (some y.fz) st else .ok none st) s st).bind fun xs st => .ok (.new (.lst xs)) st
  | .lc2 elt tg it ifs tg1 it1 ifs1 own own1, sl, st => (evI E it sl st).bind fun s st => match s with
    | .fix xs => (lcFix2 (fun x acc st => (ofO st (asgT tg x (wipeT sl own) st)).bind fun sl1 st => (evT E ifs sl1 st).calm.bind fun b st => if b then
        (evI E it1 sl1 st).calm.bind fun s1 st => match s1 with
          | .fix ys => lcFix (fun y st => (ofO st (asgT tg1 y (wipeT sl1 own1) st)).bind fun sl2 st => (evT E ifs1 sl2 st).calm.bind fun b st => if b then (evE E elt sl2 st).calm.bind fun z st => .ok (some z.fz) st else .ok none st) ys acc st
          | .cell _ => .no
        else .ok acc st) xs [] st).bind fun zs st => .ok (.new (.lst zs)) st
    | .cell _ => .no
  | .dc k v tg it ifs own, sl, st => (evI E it sl st).bind fun s st => match s with
    | .fix xs => (dcFix (fun x st => (ofO st (asgT tg x (wipeT sl own) st)).bind fun sl st => (evT E ifs sl st).calm.bind fun b st => if b then
        (evE E k sl st).calm.bind fun kx st => match keyOf kx.fz with
          | some kk => (evE E v sl st).calm.bind fun y st => .ok (some (kk, y.fz)) st
          | none => .no
        else .ok none st) xs [] st).bind fun kvs st => .ok (.new (.dic kvs)) st
    | .cell _ => .no
  | .dsp as, sl, st => (evA E as sl st).bind fun xs st => if xs.isEmpty then .ok (.new (.dic [])) st else .no
  | .call f as, sl, st => (evA E as sl st).bind fun xs st => callC (E.cal f) xs st
  | .callK f n ks as, sl, st => (evA E as sl st).bind fun xs st => match kwArgs E f n ks xs with
    | some ys => callC (E.cal f) ys st
    | none => .no
  | .makeK c f n ks as, sl, st => (evA E as sl st).bind fun xs st => match kwMake E f n ks xs with
    | some ys => makeC (E.cal f) c ys st
    | none => .no
  | .mtK x n ks o as, sl, st => (evE E o sl st).bind fun y st => match y.fz with
    | .ins c fs => match getF fs x, E.G.meth c x with
      | none, some f => (evA E as sl st).bind fun xs st => match kwArgs E f (n + 1) ks (.ins c fs :: xs) with
        | some ys => callC (E.cal f) ys st
        | none => .no
      | _, _ => .no
    | _ => .no
  | .make c f as, sl, st => (evA E as sl st).bind fun xs st => makeC (E.cal f) c xs st
  | .bi b as, sl, st => (evA E as sl st).bind fun xs st => biV E b xs st
  | .isi tys e, sl, st => (evE E e sl st).bind fun x st => if tyKn E st x.fz && tys.all (tyOk E) then .ok (.val (.bl (tys.any fun ty => tyIs E st x.fz ty))) st else .no
  | .mt x m o as, sl, st => (evE E o sl st).bind fun y st => if recvOk E x m y.fz st then (evA E as sl st).bind fun xs st => methV E x m y.fz xs st else .no
  | .attr o f, sl, st => (evE E o sl st).bind fun x st => attrV E x.fz f st
  | .idx o i, sl, st => (evE E o sl st).bind fun x st => (evE E i sl st).bind fun y st => idxV E x.fz y.fz st
  | .slc o lo hi, sl, st => (evE E o sl st).bind fun x st => (evE E lo sl st).bind fun y st => (evE E hi sl st).bind fun z st => match partOf y.fz, partOf z.fz with
    | some a, some b => slcV x.fz a b st
    | _, _ => .no
  | .fst _, _, _ => .no
  | .rng _, _, _ => .no
  | .enum _, _, _ => .no
  | .zip _, _, _ => .no
  | .itr _, _, _ => .no
  | .tru _, _, _ => .no
  | .cel e, sl, st => (evE E e sl st).bind fun x st => match x with
    | .new c => .ok (.val (.cell st.length)) (st ++ [c])
    | .val _ => .no
def evA (E : Ev) : C → Slt → Stor → Rs (List T)
  | .nil, _, st => .ok [] st
  | .cons a r, sl, st => (evE E a sl st).bind fun x st => (evA E r sl st).bind fun xs st => .ok (x.fz :: xs) st
  | .star a r, sl, st => (evE E a sl st).bind fun x st => match seqOf st x.fz with
    | some ys => (evA E r sl st).bind fun xs st => .ok (ys ++ xs) st
    | none => .no
  | _, _, _ => .no
/-- tests -/
def evT (E : Ev) : C → Slt → Stor → Rs Bool
  | .nil, _, st => .ok true st
  | .nt a, sl, st => (evT E a sl st).bind fun b st => .ok (!b) st
  | .and a b, sl, st => (evT E a sl st).bind fun k st => if k then evT E b sl st else .ok false st
  | .or a b, sl, st => (evT E a sl st).bind fun k st => if k then .ok true st else evT E b sl st
  | .tru c, sl, st => (evE E c sl st).bind fun x st => ofO st (truV st x.fz)
  | _, _, _ => .no
/-- what is walked -/
def evI (E : Ev) : C → Slt → Stor → Rs Src
  | .rng as, sl, st => (evA E as sl st).bind fun xs st => match xs with
    | [.int j] => if -4611686018427387904 ≤ j ∧ j < 4611686018427387904 then .ok (.fix (rangeT 0 j)) st else .no
    | [.int i, .int j] => if -4611686018427387904 ≤ i ∧ i < 4611686018427387904 ∧ -4611686018427387904 ≤ j ∧ j < 4611686018427387904 then .ok (.fix (rangeT i j)) st else .no
    | _ => .no
  | .enum a, sl, st => (evA E a sl st).bind fun xs st => match xs with
    | [.lst xs] => .ok (.fix (enumT 0 xs)) st
    | _ => .no
  | .zip as, sl, st => (evA E as sl st).bind fun xs st => match xs with
    | [.lst a, .lst b] => .ok (.fix (zipT a b)) st
    | [.tup a, .tup b] => .ok (.fix (zipT a b)) st
    | _ => .no
  | .itr c, sl, st => (evE E c sl st).bind fun x st => ofO st (srcOf st x.fz)
  | _, _, _ => .no
end

/-! ### statements -/
def evS (E : Ev) : S → Slt → Stor → Rs (Fl × Slt)
  | .nil, sl, st => .ok (.nx, sl) st
  | .seq s r, sl, st => (evS E s sl st).bind fun f st => match f.1 with
    | .nx => evS E r f.2 st
    | _ => .ok f st
  | .asg tg e, sl, st => (evE E e sl st).bind fun x st => (ofO st (asgT tg x.fz sl st)).bind fun sl st => .ok (.nx, sl) st
  | .sub o i e, sl, st => (evE E e sl st).bind fun x st => (evE E o sl st).bind fun y st => (evE E i sl st).bind fun z st => match y.fz with
    | .cell n => match st[n]? with
      | some (.lst xs) => match z.fz with
        | .int k => match ixN xs.length k with
          | some j => .ok (.nx, sl) (st.set n (.lst (xs.set j x.fz)))
          | none => .no
        | _ => .no
      | some (.dic kvs) => match keyOf z.fz with
        | some k => if kvs.length < 16777216 then .ok (.nx, sl) (st.set n (.dic (putD kvs k x.fz))) else .no
        | none => .no
      | _ => .no
    | _ => .no
  | .fld o f e, sl, st => (evE E e sl st).bind fun x st => (evE E o sl st).bind fun y st => match y.fz with
    | .cell n => match st[n]? with
      | some (.ins c fs) => if fs.length < 1000 ∧ E.G.fld c f then .ok (.nx, sl) (st.set n (.ins c (putFT f x.fz fs))) else .no
      | _ => .no
    | _ => .no
  | .aug i op e, sl, st => match sl[i]? with
    | some (some (.int a)) => (match op with
      | .Add => (evE E e sl st).bind fun y st => match y with
        | .val (.int b) => .ok (.nx, sl.set i (some (.int (a + b)))) st
        | _ => .no
      | .Sub => (evE E e sl st).bind fun y st => match y with
        | .val (.int b) => .ok (.nx, sl.set i (some (.int (a - b)))) st
        | _ => .no
      | _ => .no)
    | _ => .no
  | .ife c a b, sl, st => (evT E c sl st).bind fun k st => if k then evS E a sl st else evS E b sl st
  | .for_ tg it b, sl, st => (evI E it sl st).bind fun s st => forSrc (fun x sl st => (ofO st (asgT tg x sl st)).bind fun sl st => evS E b sl st) s sl st
  | .whl c b, sl, st => whileN (fun sl st => evT E c sl st) (fun sl st => evS E b sl st) 100000 sl st
  | .ret e, sl, st => (evE E e sl st).bind fun x st => .ok (.rt x, sl) st
  | .retN, sl, st => .ok (.rt (.val .non), sl) st
  | .ex e, sl, st => (evE E e sl st).bind fun _ st => .ok (.nx, sl) st
  | .pass, sl, st => .ok (.nx, sl) st
  | .brk, sl, st => .ok (.bk, sl) st
  | .cnt, sl, st => .ok (.ct, sl) st
  | .raise _ _ _, _, _ => .no
  | .frz i, sl, st => match sl[i]? with
    | some (some (.cell n)) => match st[n]? with
        | some (.lst xs) => .ok (.nx, sl.set i (some (.lst xs))) (st.set n .gone)
        | some (.dic xs) => .ok (.nx, sl.set i (some (.dic xs))) (st.set n .gone)
        | _ => .no
    | _ => .ok (.nx, sl) st

/-- leaving a def: its cells are dropped -/
def leave (L : Nat) (r : R) (st : Stor) : Rs R :=
  if st.length = L then .ok r st
  else if (st.take L).all pureC ∧ L ≤ st.length then match r with
    | .new c => if pureC c then .ok (.new c) (st.take L) else .no
    | .val t => if pureB t then .ok (.val t) (st.take L) else match t with
      | .cell n => if L ≤ n then match st[n]? with
          | some c => if pureC c then .ok (.new c) (st.take L) else .no
          | none => .no
        else .no
      | _ => .no
  else .no

/-- a def: how many names, its body -/
structure Fn where
  n : Nat
  ps : Nat
  body : S
def leaveX (L : Nat) (x : Exn) (st : Stor) : Rs R :=
  if st.length = L then .ex x st
  else if (st.take L).all pureC ∧ L ≤ st.length ∧ (x.fs.all fun p => pureB p.2) then .ex x (st.take L) else .no
def runB (E : Ev) (F : Fn) (as : List T) (st : Stor) : Rs R :=
  if as.length = F.ps then match evS E F.body (as.map some ++ List.replicate (F.n - as.length) none) st with
    | .no => .no
    | .ok f st1 => match f.1 with
      | .rt r => leave st.length r st1
      | .nx => leave st.length (.val .non) st1
      | _ => .no
    | .ex x st1 => leaveX st.length x st1
  else .no
def run (G : Tabs) (fns : Nat → Option Fn) : Nat → Nat → List T → Stor → Rs R
  | 0, _, _, _ => .no
  | k + 1, f, as, st => match fns f with
    | some F => runB ⟨G, run G fns k⟩ F as st
    | none => .no
end Sv
end
section
set_option linter.all false
set_option maxRecDepth 100000
/-! SvCmp: from the model's syntax to the core language. What is not served becomes a node that is stuck. -/
namespace Sv
open PySem L2

/-- a def as callers see it: its number, its parameters, the defaults of the last ones -/
structure Sig where
  f : Nat
  ps : List Str
  ds : List T
  deriving Inhabited
structure CT where
  N : List Str
  sc : Scope
  fns : List (Str × Sig)
  cls : List (Str × Nat × Sig)
  glo : List (Str × T)
  free : List Str
  hints : List Pos
  frz : List (Pos × List Nat)
  fn : Str → Bool

def ixOfName (N : List Str) (x : Str) : Option Nat := N.findIdx? (fun y => decide (y = x))
def CT.slot (t : CT) (x : Str) : Option Nat :=
  match t.sc.names.lookup x with
  | some .local => ixOfName t.N x
  | some .cell => ixOfName t.N x
  | some .free => ixOfName t.N x
  | _ => none
def CT.isGl (t : CT) (x : Str) : Bool := decide (t.sc.names.lookup x = some .globalImplicit)
def CT.isFree (t : CT) (x : Str) : Bool := t.isGl x && t.free.any fun y => decide (y = x)

def cst : Const → C
  | .none => .lit .non
  | .bool b => .lit (.bl b)
  | .int i => .lit (.int i)
  | .str x => .lit (.str x)
  | _ => .nil

def biOf : List (Str × Bi) := [("len", .len), ("tuple", .tuple), ("list", .list), ("sorted", .sorted), ("all", .all), ("any", .any), ("str", .str), ("int", .int), ("abs", .abs), ("dict", .dict)]
def mtOf : List (Str × Mt) := [("append", .append), ("extend", .extend), ("pop", .pop), ("index", .index), ("join", .join), ("reverse", .reverse)]
def tyOf (t : CT) (x : Str) : Option Ty :=
  if t.isFree x then (if x = "int" then some .int else if x = "bool" then some .bool else if x = "str" then some .str else if x = "list" then some .list else if x = "tuple" then some .tuple else if x = "dict" then some .dict else none)
  else if t.isGl x && !decide (x = "__debug__") then (t.cls.lookup x).map fun c => .own c.1 else none
def tysOf (t : CT) : Expr → Option (List Ty)
  | .Name x _ => (tyOf t x).map fun y => [y]
  | .Tuple es _ _ => mapO (fun e => match e with | .Name x _ => tyOf t x | _ => none) es
  | _ => none

def isStar : Expr → Bool
  | .Starred _ _ => true
  | _ => false

/-- a name that a store may go to -/
def CT.stq (t : CT) (x : Str) : Option Nat :=
  match t.sc.names.lookup x with
  | some .local => ixOfName t.N x
  | some .cell => if t.fn x then ixOfName t.N x else none
  | _ => none
def stqE (t : CT) : Expr → Option Nat
  | .Name x _ => t.stq x
  | _ => none
def tgOf (t : CT) : Expr → Option Tg
  | .Name x _ => (t.stq x).map .nm
  | .Tuple es _ _ => (mapO (stqE t) es).map .tp
  | _ => none
/-- a, b = c, d: none: stuck; some true: stored from the right -/
def swK (t : CT) (ts vs : List Expr) : Option Bool :=
  if !(ts.length == 2 || ts.length == 3) || vs.length != ts.length then some false
  else if vs.any isStar then some false
  else
    let line := (ts.head?.map (·.pos.line)).getD 0
    let names := ts.filterMap fun
      | .Name id pos => if t.sc.names.lookup id == some .local && pos.line == line then some id else none
      | _ => none
    if names.length != ts.length || names.eraseDups.length != names.length then some false
    else if vs.all (foldedForSure 8) then some false
    else if vs.all (constantsAlone 8) then none
    else some true
def isSetE : Expr → Bool
  | .Set _ _ _ => true
  | _ => false
def isComp : Expr → Bool
  | .ListComp _ _ _ _ => true
  | .SetComp _ _ _ _ => true
  | .DictComp _ _ _ _ _ => true
  | _ => false
def boolC (mk : C → C → C) (z : C) (f : Expr → C) : List Expr → C
  | [] => z
  | [e] => f e
  | e :: r => mk (f e) (boolC mk z f r)

def noStar (es : List Expr) : Bool := es.all fun e => !isStar e
/-- no super() -/
def baseOk : Expr → Bool
  | .Call (.Name _ _) [] [] _ => false
  | _ => true
def consAll : List C → C
  | [] => .nil
  | c :: r => .cons c (consAll r)
def litsC : List T → C
  | [] => .nil
  | t :: r => .cons (.lit t) (litsC r)
/-- positional arguments, then what is left of the defaults -/
def withDfl (ps : List Str) (ds : List T) (n : Nat) : Option (List T) :=
  if n ≤ ps.length ∧ ps.length ≤ n + ds.length then some (ds.drop (ds.length - (ps.length - n))) else none
/-- keywords: for each parameter the place of its value among the written ones, then the defaults -/
def kwPm (ps : List Str) (ds : List T) (n : Nat) (ks : List (Option Str)) : Option (List Nat) :=
  if ks.all (·.isSome) && ks.all (fun k => (ps.drop n).any fun p => decide (some p = k)) && decide (n ≤ ps.length) then
    mapO (fun i => if i < n then some i else match ps[i]? with
      | some p => (match ks.findIdx? (fun k => decide (k = some p)) with
        | some j => some (n + j)
        | none => if ps.length ≤ i + ds.length then some (n + ks.length + (i + ds.length - ps.length)) else none)
      | none => none) (List.range ps.length)
  else none
def apC : C → C → C
  | .cons a r, s => .cons a (apC r s)
  | .star a r, s => .star a (apC r s)
  | _, s => s

/-- the comprehension's own names and their places -/
def ownOf (N : List Str) (scope : Scope) : List (Str × Nat) :=
  scope.names.filterMap fun y => match y.2 with
    | .local => (ixOfName N y.1).map fun i => (y.1, i)
    | .cell => (ixOfName N y.1).map fun i => (y.1, i)
    | _ => none

def tgIx : Tg → List Nat
  | .nm i => [i]
  | .tp is => is
def tgIn (g : Tg) (own : List (Str × Nat)) : Bool := (tgIx g).all fun i => decide (i ∈ own.map (·.2))
def CT.blk (t : CT) (scope : Scope) : CT := { t with sc := relS scope t.sc, fn := fun x => scope.names.lookup x == some .cell }

def argsC (f : Expr → C) : List Expr → C
  | [] => .nil
  | .Starred e _ :: es => .star (f e) (argsC f es)
  | e :: es => .cons (f e) (argsC f es)
def isTup : Expr → Bool
  | .Tuple _ _ _ => true
  | _ => false
def iterC (t : CT) (f : Expr → C) (tg e : Expr) : C := match e with
  | .Set _ _ _ => .nil
  | .Call (.Name x _) args [] _ =>
    if t.isFree x && noStar args then
      if x = "range" then (match args with | [a] => .rng (.cons (f a) .nil) | [a, b] => .rng (.cons (f a) (.cons (f b) .nil)) | _ => .nil)
      else if x = "enumerate" then (match args with | [a] => if isTup tg then .enum (.cons (f a) .nil) else .nil | _ => .nil)
      else if x = "zip" then (match args with | [a, b] => if isTup tg then .zip (.cons (f a) (.cons (f b) .nil)) else .nil | _ => .nil)
      else .itr (f e)
    else .itr (f e)
  | e => .itr (f e)

def biX (f : Expr → C) (t : CT) (x : Str) (args : List Expr) : C := match biOf.lookup x with
  | some .sorted => (match args with
    | [.Call (.Name y _) [a] [] _] => if y = "set" && t.isFree y && !isStar a then .bi .sortedSet (.cons (f a) .nil) else .bi .sorted (argsC f args)
    | _ => .bi .sorted (argsC f args))
  | some .len => (match args with
    | [.Call (.Name y _) [a] [] _] => if y = "set" && t.isFree y && !isStar a then .bi .lenSet (.cons (f a) .nil) else .bi .len (argsC f args)
    | _ => .bi .len (argsC f args))
  | some b => .bi b (argsC f args)
  | none => .nil
def isiX (f : Expr → C) (t : CT) (args : List Expr) : C := match args with
  | [a, ty] => (match tysOf t ty with
    | some tys => if isStar ty || decide (1000 < tys.length) then .nil else .isi tys (f a)
    | none => .nil)
  | _ => .nil
def freeX (f : Expr → C) (t : CT) (x : Str) (args : List Expr) : C :=
  if x = "isinstance" then isiX f t args else if args.isEmpty then .nil else biX f t x args
def kwNs (kws : List Keyword) : Option (List Str) := mapO (fun k : Keyword => k.arg) kws
def kwVs (kws : List Keyword) : List Expr := kws.map fun k => k.value
/-- a call with keywords -/
def kwX (f : Expr → C) (args : List Expr) (kws : List Keyword) (mk : List Str → C → C) : C := match kwNs kws with
  | some ks => if noStar (kwVs kws) then mk ks (apC (argsC f args) (argsC f (kwVs kws))) else .nil
  | none => .nil
def callX (f : Expr → C) (t : CT) (x : Str) (args : List Expr) (kws : List Keyword) : C :=
  if t.isGl x && noStar args && !decide (x = "__debug__") then
    match t.fns.lookup x with
    | some s => (match kws with
      | [] => (match withDfl s.ps s.ds args.length with
        | some ds => .call s.f (apC (argsC f args) (litsC ds))
        | none => .nil)
      | k :: ks => kwX f args (k :: ks) fun ns c => .callK s.f args.length ns c)
    | none => match t.cls.lookup x with
      | some cs => (match kws with
        | [] => (match withDfl (cs.2.ps.drop 1) cs.2.ds args.length with
          | some ds => .make cs.1 cs.2.f (apC (argsC f args) (litsC ds))
          | none => .nil)
        | k :: ks => kwX f args (k :: ks) fun ns c => .makeK cs.1 cs.2.f args.length ns c)
      | none => (match kws with
        | [] => if t.isFree x then freeX f t x args else .nil
        | _ => .nil)
  else .nil
/-- the three comprehensions -/
def lcX (fe ft : CT → Expr → C) (t : CT) (elt tg it : Expr) (ifs : List Expr) (scope : Scope) : C :=
  if blkC t.N t.sc scope (ownOf t.N scope) then
    match tgOf (t.blk scope) tg with
    | some g => if tgIn g (ownOf t.N scope) then (match ifs with
      | [] => .lc (fe (t.blk scope) elt) g (iterC t (fe t) tg it) .nil ((ownOf t.N scope).map (·.2))
      | [c] => .lc (fe (t.blk scope) elt) g (iterC t (fe t) tg it) (ft (t.blk scope) c) ((ownOf t.N scope).map (·.2))
      | _ => .nil) else .nil
    | none => .nil
  else .nil
def lc2X (fe ft : CT → Expr → C) (t : CT) (elt tg it tg1 it1 : Expr) (ifs1 : List Expr) (scope : Scope) : C :=
  if blkC t.N t.sc scope (ownOf t.N scope) then
    match tgOf (t.blk scope) tg with
    | some g => (match tgOf (t.blk scope) tg1 with
      | some g1 => if tgIn g (ownOf t.N scope) && tgIn g1 (ownOf t.N scope) && !isSetE it1 then (match ifs1 with
        | [] => .lc2 (fe (t.blk scope) elt) g (iterC t (fe t) tg it) .nil g1 (iterC (t.blk scope) (fe (t.blk scope)) tg1 it1) .nil ((ownOf t.N scope).map (·.2)) (tgIx g1)
        | [c] => .lc2 (fe (t.blk scope) elt) g (iterC t (fe t) tg it) .nil g1 (iterC (t.blk scope) (fe (t.blk scope)) tg1 it1) (ft (t.blk scope) c) ((ownOf t.N scope).map (·.2)) (tgIx g1)
        | _ => .nil) else .nil
      | none => .nil)
    | none => .nil
  else .nil
def dcX (fe ft : CT → Expr → C) (t : CT) (k v tg it : Expr) (ifs : List Expr) (scope : Scope) : C :=
  if blkC t.N t.sc scope (ownOf t.N scope) then
    match tgOf (t.blk scope) tg with
    | some g => if tgIn g (ownOf t.N scope) then (match ifs with
      | [] => .dc (fe (t.blk scope) k) (fe (t.blk scope) v) g (iterC t (fe t) tg it) .nil ((ownOf t.N scope).map (·.2))
      | [c] => .dc (fe (t.blk scope) k) (fe (t.blk scope) v) g (iterC t (fe t) tg it) (ft (t.blk scope) c) ((ownOf t.N scope).map (·.2))
      | _ => .nil) else .nil
    | none => .nil
  else .nil
def nameX (t : CT) (x : Str) : C := if x = "__debug__" || x = "__classdict__" then .nil else match t.slot x with
  | some i => .var i
  | none => if t.isGl x then (match t.glo.lookup x with | some _ => .glo x | none => .nil) else .nil
def cmpX (fe ft : CT → Expr → C) (t : CT) (e : Expr) : C := match e with
  | .Constant c _ _ => cst c
  | .Name x _ => nameX t x
  | .BinOp a op b _ => .bin op (fe t a) (fe t b)
  | .UnaryOp .USub a _ => .neg (fe t a)
  | .UnaryOp .Not a _ => .nt (fe t a)
  | .BoolOp .And es _ => boolC .and .nil (fe t) es
  | .BoolOp .Or es _ => boolC .or .nil (fe t) es
  | .Compare a [op] [b] _ => if behindInMarks op b then .nil else .cmp op (fe t a) (fe t b)
  | .Compare a [op, op'] [b, c] _ => if behindInMarks op' c then .nil else .chain op op' (fe t a) (fe t b) (fe t c)
  | .IfExp c a b _ => .ite (ft t c) (fe t a) (fe t b)
  | .Tuple es _ _ => .tup (argsC (fe t) es)
  | .List es _ => .lst (argsC (fe t) es)
  | .Dict [] [] _ => .dsp .nil
  | .ListComp elt [⟨tg, it, ifs, 0⟩] scope _ => lcX fe ft t elt tg it ifs scope
  | .ListComp elt [⟨tg, it, [], 0⟩, ⟨tg1, it1, ifs1, 0⟩] scope _ => lc2X fe ft t elt tg it tg1 it1 ifs1 scope
  | .DictComp k v [⟨tg, it, ifs, 0⟩] scope _ => dcX fe ft t k v tg it ifs scope
  | .Call (.Name x _) args kws _ => callX (fe t) t x args kws
  | .Call (.Attribute o m apos) args kws cpos => match kws with
    | [] => if baseOk o && noStar args && decide (args.length < 29) && (apos.endLine == cpos.line) then .mt m (mtOf.lookup m) (fe t o) (argsC (fe t) args) else .nil
    | k :: ks => if baseOk o && noStar args && decide (args.length + (k :: ks).length < 28) && (apos.endLine == cpos.line) then kwX (fe t) args (k :: ks) fun ns c => .mtK m args.length ns (fe t o) c else .nil
  | .Attribute o f _ => if baseOk o then .attr (fe t o) f else .nil
  | .Subscript o (.Slice lo hi none _) _ => .slc (fe t o) (match lo with | some l => fe t l | none => .lit .non) (match hi with | some l => fe t l | none => .lit .non)
  | .Subscript o (.Slice _ _ _ _) _ => .nil
  | .Subscript o i _ => .idx (fe t o) (fe t i)
  | _ => .nil
def cmpTX (fe ft : CT → Expr → C) (t : CT) (e : Expr) : C := match e with
  | .UnaryOp .Not a _ => .nt (ft t a)
  | .BoolOp .And es _ => boolC .and (.fst .nil) (ft t) es
  | .BoolOp .Or es _ => boolC .or (.fst .nil) (ft t) es
  | .IfExp _ _ _ _ => .fst .nil
  | .Compare a [op] [b] _ => if behindInMarks op b then .fst .nil else .tru (.cmp op (fe t a) (fe t b))
  | .Compare a [op, op'] [b, c] _ => if behindInMarks op' c then .fst .nil else .tru (.chain op op' (fe t a) (fe t b) (fe t c))
  | .Compare _ _ _ _ => .fst .nil
  | e => .tru (fe t e)
def cmpP : Nat → (CT → Expr → C) × (CT → Expr → C)
  | 0 => (fun _ _ => .nil, fun _ _ => .fst .nil)
  | n + 1 => (fun t e => if t.hints.any (fun p => decide (p = e.pos)) then .cel (cmpX (cmpP n).1 (cmpP n).2 t e) else cmpX (cmpP n).1 (cmpP n).2 t e, fun t e => cmpTX (cmpP n).1 (cmpP n).2 t e)
def cmpE (n : Nat) (t : CT) (e : Expr) : C := (cmpP n).1 t e
def cmpT (n : Nat) (t : CT) (e : Expr) : C := (cmpP n).2 t e

def frzC : List Nat → S → S
  | [], s => s
  | i :: r, s => .seq (.frz i) (frzC r s)
def posS : Stmt → Pos
  | .Return _ p => p
  | .Assign _ _ p => p
  | .Expr _ p => p
  | .If _ _ _ p => p
  | .For _ _ _ _ p => p
  | _ => ⟨0, 0, 0, 0⟩
def stmtsC (t : CT) (f : Stmt → S) : List Stmt → S
  | [] => .nil
  | s :: r => frzC ((t.frz.lookup (posS s)).getD []) (.seq (f s) (stmtsC t f r))
def cmpS : Nat → CT → Stmt → S
  | 0, _, _ => .raise 0 0 .nil
  | n + 1, t, s => match s with
    | .Assign [.Subscript o i _] e _ => (match i with
      | .Slice _ _ _ _ => .raise 0 0 .nil
      | _ => .sub (cmpE n t o) (cmpE n t i) (cmpE n t e))
    | .Assign [.Attribute o f _] e _ => .fld (cmpE n t o) f (cmpE n t e)
    | .Assign [.Name x p] e _ => (match tgOf t (.Name x p) with
      | some g => .asg g (cmpE n t e)
      | none => .raise 0 0 .nil)
    | .Assign [.Tuple ts k p] (.Tuple vs k2 p2) _ => (match tgOf t (.Tuple ts k p), swK t ts vs with
      | some g, some _ => .asg g (cmpE n t (.Tuple vs k2 p2))
      | _, _ => .raise 0 0 .nil)
    | .Assign [.Tuple ts k p] e _ => (match tgOf t (.Tuple ts k p) with
      | some g => .asg g (cmpE n t e)
      | none => .raise 0 0 .nil)
    | .AugAssign (.Name x _) op e _ => (match t.stq x with
      | some i => .aug i op (cmpE n t e)
      | none => .raise 0 0 .nil)
    | .If c a b _ => .ife (cmpT n t c) (stmtsC t (cmpS n t) a) (stmtsC t (cmpS n t) b)
    | .For tg it b [] _ => (match tgOf t tg with
      | some g => .for_ g (iterC t (cmpE n t) tg it) (stmtsC t (cmpS n t) b)
      | none => .raise 0 0 .nil)
    | .While c b [] _ => .whl (cmpT n t c) (stmtsC t (cmpS n t) b)
    | .Return (some e) _ => .ret (cmpE n t e)
    | .Return none _ => .retN
    | .Expr e _ => if isComp e then .raise 0 0 .nil else .ex (cmpE n t e)
    | .Pass _ => .pass
    | .Break _ => .brk
    | .Continue _ => .cnt
    | _ => .raise 0 0 .nil

def cmpSs (n : Nat) (t : CT) (b : List Stmt) : S := stmtsC t (cmpS n t) b
end Sv
end
section
set_option linter.all false
set_option maxRecDepth 100000
set_option maxHeartbeats 4000000
/-! SvRel: how trees and cells stand in the abstract heap. -/
namespace Sv
open PySem PySem.Spec PyProof.Rows L2

mutual
inductive Dn (K : PySem.W.Frag) (cl : Nat → Addr) (F : Hp) (cs : List Addr) : T → V → Prop
  | non : Dn K cl F cs .non .non
  | bl (b : Bool) : Dn K cl F cs (.bl b) (.bl b)
  | int (i : Int) : Dn K cl F cs (.int i) (.int i)
  | str (x : Str) : Dn K cl F cs (.str x) (.str x)
  | tup {a : Addr} {vs : List V} {xs : List T} : SqT K F a vs → DnL K cl F cs xs vs → Dn K cl F cs (.tup xs) (.ref a)
  | lst {a : Addr} {vs : List V} {xs : List T} : F a = some (.lst vs) → DnL K cl F cs xs vs → Dn K cl F cs (.lst xs) (.ref a)
  | dic {a : Addr} {gs : List (Key × V)} {kvs : List (Key × T)} : Rd F a (.dK gs) → kvs.map (·.1) = gs.map (·.1) → DnL K cl F cs (kvs.map (·.2)) (gs.map (·.2)) → Dn K cl F cs (.dic kvs) (.ref a)
  | ins {a dx : Addr} {c : Nat} {gs : List (Str × V)} {fs : List (Str × T)} : F a = some (.ins (cl c) dx gs) → fs.map (·.1) = gs.map (·.1) → DnL K cl F cs (fs.map (·.2)) (gs.map (·.2)) → Dn K cl F cs (.ins c fs) (.ref a)
  | cell {n : Nat} {a : Addr} : cs[n]? = some a → Dn K cl F cs (.cell n) (.ref a)
  | scr {a : Addr} (ns : List Int) : SqL K F a (ns.map V.int) → Dn K cl F cs (.scr ns) (.ref a)
inductive DnL (K : PySem.W.Frag) (cl : Nat → Addr) (F : Hp) (cs : List Addr) : List T → List V → Prop
  | nil : DnL K cl F cs [] []
  | cons {t : T} {ts : List T} {v : V} {vs : List V} : Dn K cl F cs t v → DnL K cl F cs ts vs → DnL K cl F cs (t :: ts) (v :: vs)
end

section
variable {K : PySem.W.Frag} {cl : Nat → Addr} {F F' H H' : Hp} {cs cs' : List Addr}

/-- frozen things stay; a dict may be locked for good -/
def UpF (F F' : Hp) : Prop := ∀ a o, F a = some o → F' a = some o ∨ ∃ gs ob, o = .dK gs ∧ F' a = some (.frz ob o)
theorem UpF.refl : UpF F F := fun _ _ h => .inl h
theorem UpF.of (h : ∀ a o, F a = some o → F' a = some o) : UpF F F' := fun a o e => .inl (h a o e)
theorem UpF.trans {F1 : Hp} (a : UpF F F1) (b : UpF F1 F') : UpF F F' := fun x o h => by
  rcases a x o h with h1 | ⟨gs, ob, rfl, h1⟩
  · exact b x o h1
  · rcases b x _ h1 with h2 | ⟨gs', ob', e, _⟩
    · exact .inr ⟨gs, ob, rfl, h2⟩
    · cases e
theorem UpF.has {a : Addr} {o : HO} (u : UpF F F') (h : F a = some o) : ∃ o', F' a = some o' := by
  rcases u a o h with h1 | ⟨_, _, _, h1⟩
  · exact ⟨_, h1⟩
  · exact ⟨_, h1⟩
theorem UpF.rd {a : Addr} {o : HO} (u : UpF F F') (h : Rd F a o) : Rd F' a o := by
  rcases h with h | ⟨ob, h⟩
  · rcases u a o h with h1 | ⟨_, ob, _, h1⟩
    · exact .inl h1
    · exact .inr ⟨ob, h1⟩
  · rcases u a _ h with h1 | ⟨_, _, e, _⟩
    · exact .inr ⟨ob, h1⟩
    · cases e
theorem UpF.lst {a : Addr} {vs : List V} (u : UpF F F') (h : F a = some (.lst vs)) : F' a = some (.lst vs) := by
  rcases u a _ h with h1 | ⟨_, _, e, _⟩
  · exact h1
  · cases e
theorem UpF.ins {a C dx : Addr} {gs : List (Str × V)} (u : UpF F F') (h : F a = some (.ins C dx gs)) : F' a = some (.ins C dx gs) := by
  rcases u a _ h with h1 | ⟨_, _, e, _⟩
  · exact h1
  · cases e
theorem UpF.xd {a : Addr} {gs : List (Str × V)} (u : UpF F F') (h : F a = some (.xd gs)) : F' a = some (.xd gs) := by
  rcases u a _ h with h1 | ⟨_, _, e, _⟩
  · exact h1
  · cases e
theorem SqT.upF {a : Addr} {vs : List V} (u : UpF F F') (x : SqT K F a vs) : SqT K F' a vs := x.imp u.rd id
theorem SqL.upF {a : Addr} {vs : List V} (u : UpF F F') (x : SqL K F a vs) : SqL K F' a vs := x.imp u.rd id
theorem SqT.up {a : Addr} {vs : List V} (h : ∀ a o, F a = some o → F' a = some o) (x : SqT K F a vs) : SqT K F' a vs := by
  rcases x with (x | ⟨o, x⟩) | x
  · exact .inl (.inl (h _ _ x))
  · exact .inl (.inr ⟨o, h _ _ x⟩)
  · exact .inr x
theorem SqL.up {a : Addr} {vs : List V} (h : ∀ a o, F a = some o → F' a = some o) (x : SqL K F a vs) : SqL K F' a vs := by
  rcases x with (x | ⟨o, x⟩) | x
  · exact .inl (.inl (h _ _ x))
  · exact .inl (.inr ⟨o, h _ _ x⟩)
  · exact .inr x

mutual
theorem Dn.up (hf : UpF F F') (hc : ∀ (n : Nat) (a : Addr), cs[n]? = some a → cs'[n]? = some a) : ∀ {t : T} {v : V}, Dn K cl F cs t v → Dn K cl F' cs' t v
  | _, _, .non => .non
  | _, _, .bl b => .bl b
  | _, _, .int i => .int i
  | _, _, .str x => .str x
  | _, _, .tup h l => .tup (SqT.upF hf h) (DnL.up hf hc l)
  | _, _, .lst h l => .lst (hf.lst h) (DnL.up hf hc l)
  | _, _, .scr ns h => .scr ns (SqL.upF hf h)
  | _, _, .dic h e l => .dic (hf.rd h) e (DnL.up hf hc l)
  | _, _, .ins h e l => .ins (hf.ins h) e (DnL.up hf hc l)
  | _, _, .cell h => .cell (hc _ _ h)
theorem DnL.up (hf : UpF F F') (hc : ∀ (n : Nat) (a : Addr), cs[n]? = some a → cs'[n]? = some a) : ∀ {t : List T} {v : List V}, DnL K cl F cs t v → DnL K cl F' cs' t v
  | _, _, .nil => .nil
  | _, _, .cons h l => .cons (Dn.up hf hc h) (DnL.up hf hc l)
end

theorem DnL.length : ∀ {ts : List T} {vs : List V}, DnL K cl F cs ts vs → ts.length = vs.length
  | _, _, .nil => rfl
  | _, _, .cons _ l => by simp only [List.length_cons, DnL.length l]
theorem DnL.get : ∀ {ts : List T} {vs : List V} {i : Nat} {t : T}, DnL K cl F cs ts vs → ts[i]? = some t → ∃ v, vs[i]? = some v ∧ Dn K cl F cs t v
  | _, _, _, _, .nil, e => by simp at e
  | _, _, 0, _, .cons h _, e => by simp at e; subst e; exact ⟨_, rfl, h⟩
  | _, _, i + 1, _, .cons _ l, e => by
    obtain ⟨v, e1, e2⟩ := DnL.get (i := i) l (by simpa using e)
    exact ⟨v, by simpa using e1, e2⟩
theorem DnL.getV : ∀ {ts : List T} {vs : List V} {i : Nat} {v : V}, DnL K cl F cs ts vs → vs[i]? = some v → ∃ t, ts[i]? = some t ∧ Dn K cl F cs t v
  | _, _, _, _, .nil, e => by simp at e
  | _, _, 0, _, .cons h _, e => by simp at e; subst e; exact ⟨_, rfl, h⟩
  | _, _, i + 1, _, .cons _ l, e => by
    obtain ⟨v, e1, e2⟩ := DnL.getV (i := i) l (by simpa using e)
    exact ⟨v, by simpa using e1, e2⟩
theorem DnL.append : ∀ {ts us : List T} {vs ws : List V}, DnL K cl F cs ts vs → DnL K cl F cs us ws → DnL K cl F cs (ts ++ us) (vs ++ ws)
  | _, _, _, _, .nil, r => r
  | _, _, _, _, .cons h l, r => .cons h (DnL.append l r)
theorem DnL.one {t : T} {v : V} (h : Dn K cl F cs t v) : DnL K cl F cs [t] [v] := .cons h .nil
theorem DnL.set {t : T} {v : V} (h : Dn K cl F cs t v) : ∀ {ts : List T} {vs : List V} (i : Nat), DnL K cl F cs ts vs → DnL K cl F cs (ts.set i t) (vs.set i v)
  | _, _, _, .nil => .nil
  | _, _, 0, .cons _ l => .cons h l
  | _, _, i + 1, .cons q l => .cons q (DnL.set h i l)
theorem DnL.take : ∀ {ts : List T} {vs : List V} (n : Nat), DnL K cl F cs ts vs → DnL K cl F cs (ts.take n) (vs.take n)
  | _, _, 0, _ => by simp; exact .nil
  | _, _, n + 1, .nil => by simp; exact .nil
  | _, _, n + 1, .cons h l => .cons h (DnL.take n l)
theorem DnL.drop : ∀ {ts : List T} {vs : List V} (n : Nat), DnL K cl F cs ts vs → DnL K cl F cs (ts.drop n) (vs.drop n)
  | _, _, 0, r => r
  | _, _, n + 1, .nil => by simp; exact .nil
  | _, _, n + 1, .cons h l => DnL.drop n l
theorem DnL.reverse : ∀ {ts : List T} {vs : List V}, DnL K cl F cs ts vs → DnL K cl F cs ts.reverse vs.reverse
  | _, _, .nil => .nil
  | _, _, .cons h l => by
    rw [List.reverse_cons, List.reverse_cons]
    exact DnL.append (DnL.reverse l) (DnL.one h)
theorem DnL.eraseIdx : ∀ {ts : List T} {vs : List V} (i : Nat), DnL K cl F cs ts vs → DnL K cl F cs (ts.eraseIdx i) (vs.eraseIdx i)
  | _, _, _, .nil => .nil
  | _, _, 0, .cons _ l => l
  | _, _, i + 1, .cons q l => .cons q (DnL.eraseIdx i l)
theorem DnL.strs (zs : List Str) : DnL K cl F cs (zs.map T.str) (zs.map V.str) := by
  induction zs with
  | nil => exact .nil
  | cons z r ih => exact .cons (.str z) ih
theorem DnL.ints (zs : List Int) : DnL K cl F cs (zs.map T.int) (zs.map V.int) := by
  induction zs with
  | nil => exact .nil
  | cons z r ih => exact .cons (.int z) ih

/-! ### cells, the store -/
def CellAt (K : PySem.W.Frag) (cl : Nat → Addr) (F H : Hp) (cs : List Addr) (a : Addr) : Cell → Prop
  | .lst xs => F a = none ∧ ∃ vs, H a = some (.lst vs) ∧ DnL K cl F cs xs vs
  | .dic kvs => F a = none ∧ ∃ gs, H a = some (.dK gs) ∧ kvs.map (·.1) = gs.map (·.1) ∧ DnL K cl F cs (kvs.map (·.2)) (gs.map (·.2))
  | .ins c fs => F a = none ∧ ∃ dx gs, H a = some (.ins (cl c) dx gs) ∧ fs.map (·.1) = gs.map (·.1) ∧ DnL K cl F cs (fs.map (·.2)) (gs.map (·.2))
  | .gone => ∃ o, H a = some o
theorem CellAt.has {a : Addr} {c : Cell} (h : CellAt K cl F H cs a c) : ∃ o, H a = some o := by
  cases c with
  | lst xs => obtain ⟨_, vs, e, _⟩ := h; exact ⟨_, e⟩
  | dic xs => obtain ⟨_, vs, e, _⟩ := h; exact ⟨_, e⟩
  | ins c xs => obtain ⟨_, vs, _, e, _⟩ := h; exact ⟨_, e⟩
  | gone => exact h
theorem CellAt.up {a : Addr} {c : Cell} (hf : UpF F F') (hc : ∀ (n : Nat) (a : Addr), cs[n]? = some a → cs'[n]? = some a) (hH : H' a = H a) (hF : F a = none → F' a = none) (h : CellAt K cl F H cs a c) : CellAt K cl F' H' cs' a c := by
  cases c with
  | lst xs => obtain ⟨n, vs, e, d⟩ := h; exact ⟨hF n, vs, by rw [hH]; exact e, DnL.up hf hc d⟩
  | dic xs => obtain ⟨n, vs, e, k, d⟩ := h; exact ⟨hF n, vs, by rw [hH]; exact e, k, DnL.up hf hc d⟩
  | ins c xs => obtain ⟨n, dx, vs, e, k, d⟩ := h; exact ⟨hF n, dx, vs, by rw [hH]; exact e, k, DnL.up hf hc d⟩
  | gone => obtain ⟨o, e⟩ := h; exact ⟨o, by rw [hH]; exact e⟩

structure RelH (K : PySem.W.Frag) (cl : Nat → Addr) (F H : Hp) (cs : List Addr) (st : Stor) : Prop where
  fz : ∀ a o, F a = some o → H a = some o
  len : cs.length = st.length
  nd : cs.Nodup
  cell : ∀ (n : Nat) c a, st[n]? = some c → cs[n]? = some a → CellAt K cl F H cs a c

structure Ext (F H : Hp) (cs : List Addr) (F' H' : Hp) (cs' : List Addr) : Prop where
  fz : UpF F F'
  cx : ∀ (n : Nat) (a : Addr), cs[n]? = some a → cs'[n]? = some a
  kp : ∀ b o, H b = some o → F b = none → b ∉ cs → H' b = some o ∧ F' b = none ∧ b ∉ cs'
  dom : ∀ a, H' a = none → H a = none
theorem Ext.refl : Ext F H cs F H cs := ⟨.refl, fun _ _ h => h, fun _ _ h1 h2 h3 => ⟨h1, h2, h3⟩, fun _ h => h⟩
theorem Ext.trans {F1 H1 : Hp} {cs1 : List Addr} (a : Ext F H cs F1 H1 cs1) (b : Ext F1 H1 cs1 F' H' cs') : Ext F H cs F' H' cs' :=
  ⟨a.fz.trans b.fz, fun n x h => b.cx n x (a.cx n x h), fun x o h1 h2 h3 => let ⟨q1, q2, q3⟩ := a.kp x o h1 h2 h3; b.kp x o q1 q2 q3, fun x h => a.dom x (b.dom x h)⟩
theorem Dn.ext {t : T} {v : V} (e : Ext F H cs F' H' cs') (h : Dn K cl F cs t v) : Dn K cl F' cs' t v := h.up e.fz e.cx
theorem DnL.ext {t : List T} {v : List V} (e : Ext F H cs F' H' cs') (h : DnL K cl F cs t v) : DnL K cl F' cs' t v := h.up e.fz e.cx

theorem mem_get {α : Type} : ∀ {l : List α} {a : α}, a ∈ l → ∃ n : Nat, l[n]? = some a := fun h => List.getElem?_of_mem h

theorem RelH.at {st : Stor} {n : Nat} {c : Cell} (r : RelH K cl F H cs st) (h : st[n]? = some c) : ∃ a, cs[n]? = some a ∧ CellAt K cl F H cs a c := by
  have hl : n < st.length := (List.getElem?_eq_some_iff.mp h).1
  have : n < cs.length := by rw [r.len]; exact hl
  exact ⟨cs[n], List.getElem?_eq_getElem this, r.cell n c _ h (List.getElem?_eq_getElem this)⟩
theorem RelH.csIn {st : Stor} {a : Addr} (r : RelH K cl F H cs st) (h : a ∈ cs) : ∃ o, H a = some o := by
  obtain ⟨n, e⟩ := mem_get h
  have hl : n < cs.length := (List.getElem?_eq_some_iff.mp e).1
  have h2 : n < st.length := by rw [← r.len]; exact hl
  exact (r.cell n _ a (List.getElem?_eq_getElem h2) e).has
/-- a new object -/
theorem RelH.fresh {st : Stor} {p : Addr} (r : RelH K cl F H cs st) (hp : H p = none) : F p = none ∧ p ∉ cs := by
  refine ⟨?_, fun h => ?_⟩
  · cases e : F p with
    | none => rfl
    | some o => rw [r.fz p o e] at hp; cases hp
  · obtain ⟨o, e⟩ := r.csIn h
    rw [e] at hp; cases hp
theorem RelH.alloc {st : Stor} {p : Addr} {o : HO} (r : RelH K cl F H cs st) (hp : H p = none) : RelH K cl F (upd H p o) cs st where
  fz := fun a u h => by
    rw [upd_ne (fun e => by rw [e] at h; rw [(r.fresh hp).1] at h; cases h)]; exact r.fz a u h
  len := r.len
  nd := r.nd
  cell := fun n c a h1 h2 => (r.cell n c a h1 h2).up .refl (fun _ _ h => h) (upd_ne fun e => (r.fresh hp).2 (e ▸ List.mem_of_getElem? h2)) (fun h => h)
theorem RelH.allocE {st : Stor} {p : Addr} {o : HO} (r : RelH K cl F H cs st) (hp : H p = none) : Ext F H cs F (upd H p o) cs :=
  ⟨.refl, fun _ _ h => h, fun b u h1 h2 h3 => ⟨by rw [upd_ne (fun e => by rw [e, hp] at h1; cases h1)]; exact h1, h2, h3⟩, fun a h => by
    by_cases e : a = p
    · rw [e]; exact hp
    · rw [upd_ne e] at h; exact h⟩
/-- an object that is new since H₀ is frozen -/
theorem RelH.freeze {st : Stor} {a : Addr} {o : HO} (r : RelH K cl F H cs st) (ha : H a = some o) (hc : a ∉ cs) : RelH K cl (upd F a o) H cs st where
  fz := fun b u h => by
    by_cases e : b = a
    · subst e; rw [upd_same] at h; cases h; exact ha
    · rw [upd_ne e] at h; exact r.fz b u h
  len := r.len
  nd := r.nd
  cell := fun n c b h1 h2 => by
    have nb : b ≠ a := fun e => hc (e ▸ List.mem_of_getElem? h2)
    have hup : ∀ x o', F x = some o' → upd F a o x = some o' := fun x o' h => by
      by_cases e : x = a
      · subst e
        have := r.fz x o' h
        rw [ha] at this; cases this
        exact upd_same
      · rw [upd_ne e]; exact h
    exact (r.cell n c b h1 h2).up (.of hup) (fun _ _ h => h) rfl (fun h => by rw [upd_ne nb]; exact h)
theorem Ext.freeze {H1 : Hp} {F1 : Hp} {cs1 : List Addr} {a : Addr} {o : HO} (e : Ext F H cs F1 H1 cs1) (h0 : H a = none) (hn : F1 a = none) : Ext F H cs (upd F1 a o) H1 cs1 :=
  ⟨e.fz.trans (.of fun x u h => by rw [upd_ne (fun z => by rw [z, hn] at h; cases h)]; exact h), e.cx, fun b u h1 h2 h3 => by
      obtain ⟨q1, q2, q3⟩ := e.kp b u h1 h2 h3
      refine ⟨q1, ?_, q3⟩
      rw [upd_ne (fun z => by rw [z, h0] at h1; cases h1)]; exact q2, e.dom⟩
theorem upd_up {a : Addr} {o : HO} (hn : F a = none) : UpF F (upd F a o) := .of fun x u h => by
  rw [upd_ne (fun z => by rw [z, hn] at h; cases h)]; exact h
end

/-! ### results -/
/-- a value that was made: new since H₀ -/
def DnR (K : PySem.W.Frag) (cl : Nat → Addr) (H₀ : Hp) (r : R) (F H : Hp) (cs : List Addr) (v : V) : Prop :=
  match r with
  | .val t => Dn K cl F cs t v
  | .new c => c ≠ .gone ∧ ∃ a, v = .ref a ∧ H₀ a = none ∧ a ∉ cs ∧ CellAt K cl F H cs a c
structure Dk (α β : Type) where
  D : Hp → α → Hp → Hp → List Addr → β → Prop
  rb : ∀ {H H1 : Hp} {a : α} {F' H' : Hp} {cs' : List Addr} {b : β}, (∀ p, H1 p = none → H p = none) → D H1 a F' H' cs' b → D H a F' H' cs' b
def kR (K : PySem.W.Frag) (cl : Nat → Addr) : Dk R V := ⟨DnR K cl, fun {H H1 a F' H' cs' b} hd h => by
  cases a with
  | val t => exact h
  | new c => obtain ⟨g, a, e, h0, h1, h2⟩ := h; exact ⟨g, a, e, hd a h0, h1, h2⟩⟩
def kT (K : PySem.W.Frag) (cl : Nat → Addr) : Dk T V := ⟨fun _ t F _ cs v => Dn K cl F cs t v, fun _ h => h⟩
def kL (K : PySem.W.Frag) (cl : Nat → Addr) : Dk (List T) (List V) := ⟨fun _ t F _ cs v => DnL K cl F cs t v, fun _ h => h⟩
def kB : Dk Bool Bool := ⟨fun _ t _ _ _ v => t = v, fun _ h => h⟩

/-- how an exception stands: its class, its own dict -/
def DnX (K : PySem.W.Frag) (cl : Nat → Addr) (F H : Hp) (cs : List Addr) (x : Exn) (c : Value) (d : Option Addr) : Prop :=
  c = .ref (cl x.cls) ∧ ∃ a gs, d = some a ∧ H a = some (.xd gs) ∧ F a = some (.xd gs) ∧ x.fs.map (·.1) = gs.map (·.1) ∧ DnL K cl F cs (x.fs.map (·.2)) (gs.map (·.2))

def okG {α β : Type} (K : PySem.W.Frag) (cl : Nat → Addr) (Wx : XK) (F H : Hp) (cs : List Addr) (k : Dk α β) (r : Rs α) (Q : β → Hp → Prop) : Prop :=
  match r with
  | .no => False
  | .ok a st => ∀ v F' H' cs', Ext F H cs F' H' cs' → RelH K cl F' H' cs' st → k.D H a F' H' cs' v → Q v H'
  | .ex x st => ∀ c d F' H' cs', Ext F H cs F' H' cs' → RelH K cl F' H' cs' st → DnX K cl F' H' cs' x c d → Wx c d H'

section
variable {K : PySem.W.Frag} {cl : Nat → Addr} {Wx : XK} {F F' H H' F1 H1 : Hp} {cs cs' cs1 : List Addr} {α β γ δ : Type}
theorem okG.rebase {k : Dk α β} {r : Rs α} {Q : β → Hp → Prop} (e : Ext F H cs F1 H1 cs1) (h : okG K cl Wx F H cs k r Q) : okG K cl Wx F1 H1 cs1 k r Q := by
  cases r with
  | no => exact h
  | ok a st => exact fun v F' H' cs' e' r' d => h v F' H' cs' (e.trans e') r' (k.rb e.dom d)
  | ex x st => exact fun c d F' H' cs' e' r' dx => h c d F' H' cs' (e.trans e') r' dx
theorem okG.bind {k1 : Dk α β} {k2 : Dk γ δ} {m : Rs α} {f : α → Stor → Rs γ} {Q : δ → Hp → Prop} {Q1 : β → Hp → Prop} (h : okG K cl Wx F H cs k2 (m.bind f) Q)
    (hk : ∀ a st v F1 H1 cs1, Ext F H cs F1 H1 cs1 → RelH K cl F1 H1 cs1 st → k1.D H a F1 H1 cs1 v → okG K cl Wx F1 H1 cs1 k2 (f a st) Q → Q1 v H1) : okG K cl Wx F H cs k1 m Q1 := by
  cases m with
  | no => exact h
  | ok a st => exact fun v F' H' cs' e r d => hk a st v F' H' cs' e r d (okG.rebase e h)
  | ex x st => exact h
theorem okG.bind0 {k1 : Dk α β} {k2 : Dk γ δ} {m : Rs α} {f : α → Stor → Rs γ} {Q : δ → Hp → Prop} {Q1 : β → Hp → Prop} (h : okG K cl Wx F H cs k2 (m.bind f) Q)
    (hk : ∀ a st v F1 H1 cs1, Ext F H cs F1 H1 cs1 → RelH K cl F1 H1 cs1 st → k1.D H a F1 H1 cs1 v → okG K cl Wx F H cs k2 (f a st) Q → Q1 v H1) : okG K cl Wx F H cs k1 m Q1 := by
  cases m with
  | no => exact h
  | ok a st => exact fun v F' H' cs' e r d => hk a st v F' H' cs' e r d h
  | ex x st => exact h
/-- what is made is frozen -/
theorem okG.bindF {k2 : Dk γ δ} {m : Rs R} {f : R → Stor → Rs γ} {Q : δ → Hp → Prop} {Q1 : V → Hp → Prop} (h : okG K cl Wx F H cs k2 (m.bind f) Q)
    (hk : ∀ a st v F1 H1 cs1, Ext F H cs F1 H1 cs1 → RelH K cl F1 H1 cs1 st → Dn K cl F1 cs1 a.fz v → okG K cl Wx F1 H1 cs1 k2 (f a st) Q → Q1 v H1) : okG K cl Wx F H cs (kR K cl) m Q1 := by
  cases m with
  | no => exact h
  | ex x st => exact h
  | ok a st =>
    intro v F' H' cs' e r d
    cases a with
    | val t => exact hk (.val t) st v F' H' cs' e r d (okG.rebase e h)
    | new c =>
      obtain ⟨ng, a, rfl, h0, hc, ca⟩ := d
      cases c with
      | gone => exact absurd rfl ng
      | lst xs =>
        obtain ⟨hn, vs, ha, dl⟩ := ca
        have e2 := e.freeze (o := .lst vs) h0 hn
        exact hk (.new (.lst xs)) st _ _ H' cs' e2 (r.freeze ha hc) (.lst upd_same (dl.up (upd_up hn) fun _ _ h => h)) (okG.rebase e2 h)
      | dic xs =>
        obtain ⟨hn, vs, ha, ek, dl⟩ := ca
        have e2 := e.freeze (o := .dK vs) h0 hn
        exact hk (.new (.dic xs)) st _ _ H' cs' e2 (r.freeze ha hc) (.dic (.inl upd_same) ek (dl.up (upd_up hn) fun _ _ h => h)) (okG.rebase e2 h)
      | ins cc xs =>
        obtain ⟨hn, dx, vs, ha, ek, dl⟩ := ca
        have e2 := e.freeze (o := .ins (cl cc) dx vs) h0 hn
        exact hk (.new (.ins cc xs)) st _ _ H' cs' e2 (r.freeze ha hc) (.ins upd_same ek (dl.up (upd_up hn) fun _ _ h => h)) (okG.rebase e2 h)
theorem okG.mono {k : Dk α β} {r : Rs α} {Q Q' : β → Hp → Prop} (h : okG K cl Wx F H cs k r Q) (q : ∀ v H, Q v H → Q' v H) : okG K cl Wx F H cs k r Q' := by
  cases r with
  | no => exact h
  | ok a st => exact fun v F' H' cs' e r d => q _ _ (h v F' H' cs' e r d)
  | ex x st => exact h
/-- an answer that is there -/
theorem okG.val {t : T} {v : V} {st : Stor} {Q : V → Hp → Prop} (h : okG K cl Wx F H cs (kR K cl) (.ok (.val t) st) Q) (r : RelH K cl F H cs st) (d : Dn K cl F cs t v) : Q v H := h v F H cs .refl r d
/-- a new list, a new dict -/
theorem okG.newL {xs : List T} {vs : List V} {st : Stor} {Q : V → Hp → Prop} (h : okG K cl Wx F H cs (kR K cl) (.ok (.new (.lst xs)) st) Q) (r : RelH K cl F H cs st) (d : DnL K cl F cs xs vs) :
    ∀ p, H p = none → Q (.ref p) (upd H p (.lst vs)) := fun p hp =>
  h _ F _ cs (r.allocE hp) (r.alloc hp) ⟨(fun z => nomatch z), p, rfl, hp, (r.fresh hp).2, (r.fresh hp).1, vs, upd_same, d⟩
theorem okG.newD {xs : List (Key × T)} {vs : List (Key × V)} {st : Stor} {Q : V → Hp → Prop} (h : okG K cl Wx F H cs (kR K cl) (.ok (.new (.dic xs)) st) Q) (r : RelH K cl F H cs st) (ek : xs.map (·.1) = vs.map (·.1)) (d : DnL K cl F cs (xs.map (·.2)) (vs.map (·.2))) :
    ∀ p, H p = none → Q (.ref p) (upd H p (.dK vs)) := fun p hp =>
  h _ F _ cs (r.allocE hp) (r.alloc hp) ⟨(fun z => nomatch z), p, rfl, hp, (r.fresh hp).2, (r.fresh hp).1, vs, upd_same, ek, d⟩
theorem okG.newT {xs : List T} {vs : List V} {st : Stor} {Q : V → Hp → Prop} (h : okG K cl Wx F H cs (kR K cl) (.ok (.val (.tup xs)) st) Q) (r : RelH K cl F H cs st) (d : DnL K cl F cs xs vs) :
    ∀ p, H p = none → Q (.ref p) (upd H p (.tup vs)) := fun p hp => by
  have hn := (r.fresh hp).1
  exact h _ (upd F p (.tup vs)) _ cs ((r.allocE hp).freeze hp hn) ((r.alloc hp).freeze upd_same (r.fresh hp).2) (.tup (.inl (.inl upd_same)) (d.up (upd_up hn) fun _ _ h => h))
end

/-- slots -/
def SlOk (K : PySem.W.Frag) (cl : Nat → Addr) (F : Hp) (cs : List Addr) (sl : Slt) (σ : L2.St) : Prop := sl.length = σ.length ∧ ∀ (i : Nat) t, sl[i]? = some (some t) → ∃ v, σ[i]? = some (some v) ∧ Dn K cl F cs t v
section
variable {K : PySem.W.Frag} {cl : Nat → Addr} {F F' H H' : Hp} {cs cs' : List Addr} {sl : Slt} {σ : L2.St}
theorem SlOk.ext (e : Ext F H cs F' H' cs') (h : SlOk K cl F cs sl σ) : SlOk K cl F' cs' sl σ := ⟨h.1, fun i t q => let ⟨v, h1, h2⟩ := h.2 i t q; ⟨v, h1, h2.ext e⟩⟩
theorem SlOk.set {t : T} {v : V} (h : SlOk K cl F cs sl σ) (i : Nat) (d : Dn K cl F cs t v) : SlOk K cl F cs (sl.set i (some t)) (σ.set i (some v)) := by
  refine ⟨by simp [h.1], fun j u q => ?_⟩
  by_cases e : i = j
  · subst e
    by_cases hi : i < sl.length
    · rw [List.getElem?_set_self hi] at q
      cases q
      exact ⟨v, by rw [List.getElem?_set_self (by rw [← h.1]; exact hi)], d⟩
    · rw [List.getElem?_eq_none (by simpa using hi)] at q; cases q
  · rw [List.getElem?_set_ne e] at q
    obtain ⟨w, h1, h2⟩ := h.2 j u q
    exact ⟨w, by rw [List.getElem?_set_ne e]; exact h1, h2⟩
theorem SlOk.wipe (h : SlOk K cl F cs sl σ) : ∀ vs : List Nat, SlOk K cl F cs (wipeT sl vs) (L2.wipe σ vs)
  | [] => h
  | v :: vs => by
    have ih := SlOk.wipe h vs
    refine ⟨by simp [wipeT, L2.wipe, ih.1], fun j u q => ?_⟩
    unfold wipeT at q
    unfold L2.wipe
    by_cases e : v = j
    · subst e
      by_cases hi : v < (wipeT sl vs).length
      · rw [List.getElem?_set_self hi] at q; cases q
      · rw [List.getElem?_eq_none (by simpa using hi)] at q; cases q
    · rw [List.getElem?_set_ne e] at q ⊢
      exact ih.2 j u q
end
end Sv
end
section
set_option linter.all false
set_option maxRecDepth 100000
set_option maxHeartbeats 4000000
/-! SvOps1: operators and comparisons by values. -/
namespace Sv
open PySem PySem.Spec PyProof.Rows L2

/-- an operation on two values, at fixed slots -/
def opW (X : Cx) (σ : L2.St) (f : Value → Value → Sem Value) (x y : V) (H : Hp) (Q : VK) : Prop :=
  ∀ (pins : List (Addr × Obj)) (s : Shared) (v u : Value), Inv X pins σ H s → RelV x v → RelV y u → wpAny (model X.prog X.w) X.A (f v u) (EP X pins σ Q) X.xe s
def calW (X : Cx) (σ : L2.St) (f : Value) (xs : List V) (H : Hp) (Q : VK) : Prop :=
  ∀ (pins : List (Addr × Obj)) (s : Shared) (us : List Value), Inv X pins σ H s → Vals xs us → wpAny (model X.prog X.w) X.A (call f us) (EP X pins σ Q) X.xe s
section
variable {X : Cx} {σ : L2.St} {cl : Nat → Addr} {Wx : XK} {F H : Hp} {cs : List Addr} {st : Stor} {Q : VK}
theorem opW_of {f : Value → Value → Sem Value} {r : R2} {x y : V} (h : OpR X f r) (q : r x y H Q) : opW X σ f x y H Q := fun pins s v u I rx ry => h pins s σ H x y v u Q I rx ry q
theorem calW_of {f : Value} {r : List V → Hp → VK → Prop} {xs : List V} (h : CallR X f r) (q : r xs H Q) : calW X σ f xs H Q := fun pins s us I rx => h pins s σ H xs us Q I rx q

theorem Dn.int_inv {i : Int} {v : V} (h : Dn X.K cl F cs (.int i) v) : v = .int i := by cases h; rfl
theorem Dn.str_inv {i : Str} {v : V} (h : Dn X.K cl F cs (.str i) v) : v = .str i := by cases h; rfl
theorem Dn.bl_inv {i : Bool} {v : V} (h : Dn X.K cl F cs (.bl i) v) : v = .bl i := by cases h; rfl

theorem lstOf_ok {x : T} {v : V} {xs : List T} (r : RelH X.K cl F H cs st) (d : Dn X.K cl F cs x v) (h : lstOf st x = some xs) : ∃ a vs, v = .ref a ∧ H a = some (.lst vs) ∧ DnL X.K cl F cs xs vs := by
  cases x with
  | lst ys =>
    simp only [lstOf, Option.some.injEq] at h
    subst h
    cases d with
    | lst e l => exact ⟨_, _, rfl, r.fz _ _ e, l⟩
  | cell n =>
    cases d with
    | cell e =>
    simp only [lstOf] at h
    split at h
    · rename_i ys hn
      cases h
      obtain ⟨a, ea, ca⟩ := r.at hn
      rw [e] at ea; cases ea
      obtain ⟨_, vs, h1, h2⟩ := ca
      exact ⟨_, vs, rfl, h1, h2⟩
    · cases h
  | _ => cases h
theorem seqOf_ok {x : T} {v : V} {xs : List T} (r : RelH X.K cl F H cs st) (d : Dn X.K cl F cs x v) (h : seqOf st x = some xs) : ∃ a vs, v = .ref a ∧ (H a = some (.lst vs) ∨ SqT X.K H a vs) ∧ DnL X.K cl F cs xs vs := by
  cases x with
  | tup ys =>
    simp only [seqOf, Option.some.injEq] at h
    subst h
    cases d with
    | tup e l => exact ⟨_, _, rfl, .inr (SqT.up r.fz e), l⟩
  | lst ys =>
    obtain ⟨a, vs, h1, h2, h3⟩ := lstOf_ok (xs := xs) r d (by simpa [seqOf, lstOf] using h)
    exact ⟨a, vs, h1, .inl h2, h3⟩
  | cell n =>
    obtain ⟨a, vs, h1, h2, h3⟩ := lstOf_ok (xs := xs) r d (by simpa [seqOf, lstOf] using h)
    exact ⟨a, vs, h1, .inl h2, h3⟩
  | _ => cases h

theorem cat_ok {x y : T} {xv yv : V} {a b : List T} (r : RelH X.K cl F H cs st) (dx : Dn X.K cl F cs x xv) (dy : Dn X.K cl F cs y yv) (ha : lstOf st x = some a) (hb : lstOf st y = some b) (hl : a.length + b.length ≤ 16777216)
    (h : okG X.K cl Wx F H cs (kR X.K cl) (.ok (.new (.lst (a ++ b))) st) Q) : opW X σ (binaryOp .Add) xv yv H Q := by
  obtain ⟨p, vs, rfl, h1, d1⟩ := lstOf_ok r dx ha
  obtain ⟨q, ws, rfl, h2, d2⟩ := lstOf_ok r dy hb
  exact opW_of op_cat ⟨p, q, vs, ws, rfl, rfl, h1, h2, by rw [← d1.length, ← d2.length]; exact hl, okG.newL h r (d1.append d2)⟩

theorem DnL.rep {xs : List T} {vs : List V} : ∀ k : Nat, DnL X.K cl F cs xs vs → DnL X.K cl F cs (List.replicate k xs).flatten (List.replicate k vs).flatten
  | 0, _ => .nil
  | k + 1, h => by
    rw [List.replicate_succ, List.replicate_succ, List.flatten_cons, List.flatten_cons]
    exact h.append (DnL.rep k h)
theorem mulOk_ok {i j : Int} (h : mulOk i j = true) : IntMulOk i j := by
  simp only [mulOk, Bool.or_eq_true, decide_eq_true_eq] at h
  rcases h with h | h | h
  · exact CMul.ok (.inl ⟨by omega, by omega⟩)
  · exact CMul.ok (.inr ⟨by omega, by omega⟩)
  · exact CMulW.ok h
theorem divOk_ok {i j : Int} {A : Around} (h : divOk j = true) : j ≠ 0 ∧ (j.natAbs < 1073741824 ∨ (0 < j ∧ j.natAbs.log2 < 9000)) := by
  simp only [divOk, Bool.and_eq_true, Bool.not_eq_true', decide_eq_false_iff_not, Bool.or_eq_true, decide_eq_true_eq] at h
  exact h

theorem binV_ok {op : Operator} {x y : T} {xv yv : V} (r : RelH X.K cl F H cs st) (dx : Dn X.K cl F cs x xv) (dy : Dn X.K cl F cs y yv)
    (h : okG X.K cl Wx F H cs (kR X.K cl) (binV op x y st) Q) : opW X σ (binaryOp op) xv yv H Q := by
  unfold binV at h
  split at h
  · cases dx; cases dy
    exact opW_of op_add ⟨_, _, rfl, rfl, okG.val h r (.int _)⟩
  · cases dx; cases dy
    split at h
    · rename_i hl
      exact opW_of op_add_str ⟨_, _, rfl, rfl, hl, okG.val h r (.str _)⟩
    · exact h.elim
  · rename_i a b
    split at h
    · rename_i hl
      cases dx with
      | tup e1 l1 =>
      cases dy with
      | tup e2 l2 =>
      refine opW_of op_catA ⟨_, _, _, _, rfl, rfl, SqT.up r.fz e1, SqT.up r.fz e2, by rw [← l1.length, ← l2.length]; exact hl, fun hz => ?_, fun _ hz => ?_, fun _ _ => okG.newT h r (l1.append l2)⟩
      · subst hz
        cases l1
        exact okG.val h r (.tup e2 l2)
      · subst hz
        cases l2
        rw [List.append_nil] at h
        exact okG.val h r (.tup e1 l1)
    · exact h.elim
  · split at h
    · rename_i hl
      exact cat_ok r dx dy rfl rfl hl h
    · exact h.elim
  · rename_i m
    split at h
    · rename_i a b ha hb
      split at h
      · rename_i hl
        exact cat_ok r dx dy (by simp only [lstOf, ha]) hb hl h
      · exact h.elim
    · exact h.elim
  · split at h
    · rename_i b hb
      split at h
      · rename_i hl
        exact cat_ok r dx dy rfl (by simp only [lstOf, hb]) hl h
      · exact h.elim
    · exact h.elim
  · cases dx; cases dy
    exact opW_of op_sub ⟨_, _, rfl, rfl, okG.val h r (.int _)⟩
  · cases dx; cases dy
    split at h
    · rename_i hm
      intro pins s v u I rx ry
      obtain ⟨t, rfl⟩ := rx
      obtain ⟨t', rfl⟩ := ry
      exact mul_int ⟨.int _, H, I.tok _, ⟨_, rfl⟩, okG.val h r (.int _)⟩ (mulOk_ok hm)
    · exact h.elim
  · rename_i a k
    split at h
    · rename_i hm
      cases dy
      obtain ⟨p, vs, rfl, h1, d1⟩ := lstOf_ok (xs := a) r dx rfl
      refine opW_of op_rep ⟨p, k, vs, rfl, rfl, h1, hm.1, hm.2.1, by rw [← d1.length]; exact hm.2.2, okG.newL h r (DnL.rep k.toNat d1)⟩
    · exact h.elim
  · cases dx; cases dy
    rename_i i j
    split at h
    · rename_i hm
      have q := okG.val h r (.int _)
      obtain ⟨j0, hj⟩ := divOk_ok (i := i) (A := X.A) hm
      rcases hj with hj | hj
      · exact opW_of op_fdivN ⟨_, _, rfl, rfl, ⟨j0, hj⟩, q⟩
      · refine opW_of op_fdivW ⟨_, _, rfl, rfl, hj, ?_⟩
        rw [Int.fdiv_eq_ediv_of_nonneg _ (by omega)] at q
        exact q
    · exact h.elim
  · cases dx; cases dy
    split at h
    · exact h.elim
    · rename_i hj
      exact opW_of op_modN ⟨_, _, rfl, rfl, hj, okG.val h r (.int _)⟩
  · cases dx; cases dy
    split at h
    · rename_i hm
      exact opW_of op_pow ⟨_, _, rfl, rfl, ⟨hm.1, hm.2.1, hm.2.2⟩, okG.val h r (.int _)⟩
    · exact h.elim
  · exact h.elim

/-! ### data -/
mutual
theorem rdD_ok (r : RelH X.K cl F H cs st) : ∀ (n : Nat) {t : T} {v : V} {d : PyData}, Dn X.K cl F cs t v → rdD st n t = some d → Dp X.K H v d
  | 0, _, _, _, _, h => by cases h
  | n + 1, .non, _, _, d, h => by cases d; cases h; exact .non
  | n + 1, .bl b, _, _, d, h => by cases d; cases h; exact .bl b
  | n + 1, .int b, _, _, d, h => by cases d; cases h; exact .int b
  | n + 1, .str b, _, _, d, h => by cases d; cases h; exact .str b
  | n + 1, .tup xs, _, _, d, h => by
    cases d with
    | tup e l =>
    simp only [rdD] at h
    cases hm : mapO (rdD st n) xs with
    | none => rw [hm] at h; cases h
    | some ds =>
      rw [hm] at h; cases h
      exact .tup (SqT.up r.fz e) (rdL_ok r n l hm)
  | n + 1, .lst xs, _, _, d, h => by
    cases d with
    | lst e l =>
    simp only [rdD] at h
    cases hm : mapO (rdD st n) xs with
    | none => rw [hm] at h; cases h
    | some ds =>
      rw [hm] at h; cases h
      exact .lst (SqL.of (r.fz _ _ e)) (rdL_ok r n l hm)
  | n + 1, .cell k, _, _, d, h => by
    cases d with
    | cell e =>
    simp only [rdD] at h
    split at h
    · rename_i xs hk
      obtain ⟨a, ea, ca⟩ := r.at hk
      rw [e] at ea; cases ea
      obtain ⟨_, vs, h1, h2⟩ := ca
      cases hm : mapO (rdD st n) xs with
      | none => rw [hm] at h; cases h
      | some ds =>
        rw [hm] at h; cases h
        exact .lst (SqL.of h1) (rdL_ok r n h2 hm)
    · cases h
  | n + 1, .dic _, _, _, _, h => by cases h
  | n + 1, .ins _ _, _, _, _, h => by cases h
  | n + 1, .scr _, _, _, _, h => by cases h
theorem rdL_ok (r : RelH X.K cl F H cs st) : ∀ (n : Nat) {ts : List T} {vs : List V} {ds : List PyData}, DnL X.K cl F cs ts vs → mapO (rdD st n) ts = some ds → DpAll X.K H vs ds
  | n, [], _, _, d, h => by cases d; cases h; exact .nil
  | n, t :: ts, _, _, d, h => by
    cases d with
    | cons d1 d2 =>
    simp only [mapO] at h
    split at h
    · cases h
    · rename_i y hy
      split at h
      · cases h
      · rename_i ys hys
        cases h
        exact .cons (rdD_ok r n d1 hy) (rdL_ok r n d2 hys)
end

mutual
theorem rdD_plain : ∀ (n : Nat) {t : T} {d : PyData}, rdD st n t = some d → d.plain = true ∧ d.depth ≤ n
  | 0, _, _, h => by cases h
  | n + 1, .non, _, h => by cases h; exact ⟨rfl, Nat.zero_le _⟩
  | n + 1, .bl b, _, h => by cases h; exact ⟨rfl, Nat.zero_le _⟩
  | n + 1, .int b, _, h => by cases h; exact ⟨rfl, Nat.zero_le _⟩
  | n + 1, .str b, _, h => by cases h; exact ⟨rfl, Nat.zero_le _⟩
  | n + 1, .tup xs, _, h => by
    simp only [rdD] at h
    cases hm : mapO (rdD st n) xs with
    | none => rw [hm] at h; cases h
    | some ds =>
      rw [hm] at h; cases h
      obtain ⟨h1, h2⟩ := rdL_plain n hm
      exact ⟨h1, by simp only [PyData.depth]; exact Nat.succ_le_succ h2⟩
  | n + 1, .lst xs, _, h => by
    simp only [rdD] at h
    cases hm : mapO (rdD st n) xs with
    | none => rw [hm] at h; cases h
    | some ds =>
      rw [hm] at h; cases h
      obtain ⟨h1, h2⟩ := rdL_plain n hm
      exact ⟨h1, by simp only [PyData.depth]; exact Nat.succ_le_succ h2⟩
  | n + 1, .cell k, _, h => by
    simp only [rdD] at h
    split at h
    · rename_i xs hk
      cases hm : mapO (rdD st n) xs with
      | none => rw [hm] at h; cases h
      | some ds =>
        rw [hm] at h; cases h
        obtain ⟨h1, h2⟩ := rdL_plain n hm
        exact ⟨h1, by simp only [PyData.depth]; exact Nat.succ_le_succ h2⟩
    · cases h
  | n + 1, .dic _, _, h => by cases h
  | n + 1, .ins _ _, _, h => by cases h
  | n + 1, .scr _, _, h => by cases h
theorem rdL_plain : ∀ (n : Nat) {ts : List T} {ds : List PyData}, mapO (rdD st n) ts = some ds → PyData.plainAll ds = true ∧ PyData.depthAll ds ≤ n
  | n, [], _, h => by cases h; exact ⟨rfl, Nat.zero_le _⟩
  | n, t :: ts, _, h => by
    simp only [mapO] at h
    split at h
    · cases h
    · rename_i y hy
      split at h
      · cases h
      · rename_i ys hys
        cases h
        obtain ⟨a1, a2⟩ := rdD_plain n hy
        obtain ⟨b1, b2⟩ := rdL_plain n hys
        refine ⟨by simp only [PyData.plainAll, a1, b1]; rfl, ?_⟩
        exact Nat.max_le.mpr ⟨a2, b2⟩
end

theorem eqT_ok {x y : T} {xv yv : V} {b : Bool} (hu : X.A.units + 64 < cLine) (r : RelH X.K cl F H cs st) (dx : Dn X.K cl F cs x xv) (dy : Dn X.K cl F cs y yv) (h : eqT st x y = some b) (q : Q (.bl b) H) : opW X σ (compareOp .Eq) xv yv H Q := by
  unfold eqT at h
  split at h
  · cases dx; cases dy; cases h
    exact opW_of op_eq ⟨rfl, by simpa using q⟩
  · cases dx; cases dy; cases h
    exact opW_of op_eq ⟨rfl, by simpa using q⟩
  · cases dx; cases dy; cases h
    exact opW_of op_eq ⟨rfl, by simpa using q⟩
  · split at h
    · rename_i d e hd he
      cases h
      intro pins s v u I rx ry
      obtain ⟨as, r1⟩ := Dp.reads I d xv v (rdD_ok r _ dx hd) rx
      obtain ⟨bs, r2⟩ := Dp.reads I e yv u (rdD_ok r _ dy he) ry
      obtain ⟨p1, z1⟩ := rdD_plain _ hd
      obtain ⟨p2, z2⟩ := rdD_plain _ he
      exact PySem.SeqAt.eq_plain r1 r2 p1 p2 (by omega) ⟨.bl _, H, I, rfl, q⟩
    · cases h
theorem neT_ok {x y : T} {xv yv : V} {b : Bool} (hu : X.A.units + 64 < cLine) (r : RelH X.K cl F H cs st) (dx : Dn X.K cl F cs x xv) (dy : Dn X.K cl F cs y yv) (h : eqT st x y = some b) (q : Q (.bl (!b)) H) : opW X σ (compareOp .NotEq) xv yv H Q := by
  unfold eqT at h
  split at h
  · cases dx; cases dy; cases h
    exact opW_of op_ne ⟨rfl, by simpa using q⟩
  · cases dx; cases dy; cases h
    exact opW_of op_ne ⟨rfl, by simpa using q⟩
  · cases dx; cases dy; cases h
    exact opW_of op_ne ⟨rfl, by simpa using q⟩
  · split at h
    · rename_i d e hd he
      cases h
      intro pins s v u I rx ry
      obtain ⟨as, r1⟩ := Dp.reads I d xv v (rdD_ok r _ dx hd) rx
      obtain ⟨bs, r2⟩ := Dp.reads I e yv u (rdD_ok r _ dy he) ry
      obtain ⟨p1, z1⟩ := rdD_plain _ hd
      obtain ⟨p2, z2⟩ := rdD_plain _ he
      exact PySem.SeqAt.ne_plain r1 r2 p1 p2 (by omega) ⟨.bl _, H, I, rfl, q⟩
    · cases h
theorem ordT_ok {f : PyData → PyData → Bool} {op : CmpOp} {x y : T} {xv yv : V} {b : Bool} (hu : X.A.units + 64 < cLine) (r : RelH X.K cl F H cs st) (dx : Dn X.K cl F cs x xv) (dy : Dn X.K cl F cs y yv) (h : ordT f st x y = some b) (q : Q (.bl b) H)
    (rule : ∀ {E : Value → Shared → Prop} {s : Shared} {a c : Value} {da db : PyData} {as bs : List Addr} {Q : Value → Shared → Prop}, Reads s.heap a da as → Reads s.heap c db bs → PySem.W.alike da db = true → da ≠ .none → X.A.units + min da.depth db.depth < cLine → Q (.bool (f da db)) s →
      wpAny (model X.prog X.w) X.A (compareOp op a c) Q E s) : opW X σ (compareOp op) xv yv H Q := by
  unfold ordT at h
  split at h
  · rename_i d e hd he
    split at h
    · rename_i hs
      rw [Bool.and_eq_true] at hs
      cases h
      intro pins s v u I rx ry
      obtain ⟨as, r1⟩ := Dp.reads I d xv v (rdD_ok r _ dx hd) rx
      obtain ⟨bs, r2⟩ := Dp.reads I e yv u (rdD_ok r _ dy he) ry
      obtain ⟨p1, z1⟩ := rdD_plain _ hd
      refine rule r1 r2 hs.1 (fun z => ?_) (by omega) ⟨.bl _, H, I, rfl, q⟩
      rw [z] at hs
      exact absurd hs.2 (by decide)
    · cases h
  · cases h

/-! ### in -/
theorem inT_ok {x y : T} {xv yv : V} {ys : List T} {b : Bool} (hu : X.A.units + 64 < cLine) (r : RelH X.K cl F H cs st) (dx : Dn X.K cl F cs x xv) (dy : Dn X.K cl F cs y yv) (hs : seqOf st y = some ys) (h : inT st x ys = some b) (q : Q (.bl b) H) : opW X σ (compareOp .In) xv yv H Q := by
  obtain ⟨a, vs, rfl, hq, dl⟩ := seqOf_ok r dy hs
  unfold inT at h
  split at h
  · rename_i d ds hd hds
    cases h
    intro pins s v u I rx ry
    obtain ⟨as, r1⟩ := Dp.reads I d xv v (rdD_ok r _ dx hd) rx
    obtain ⟨p1, z1⟩ := rdD_plain _ hd
    obtain ⟨p2, z2⟩ := rdL_plain _ hds
    rcases hq with hq | hq
    · obtain ⟨bs, r2⟩ := Dp.reads I (.list ds) (.ref a) u (.lst (SqL.of hq) (rdL_ok r _ dl hds)) ry
      exact PySem.SeqAt.in_list_data r2 r1 p2 p1 (by omega) ⟨.bl _, H, I, rfl, q⟩
    · obtain ⟨bs, r2⟩ := Dp.reads I (.tuple ds) (.ref a) u (.tup hq (rdL_ok r _ dl hds)) ry
      exact PySem.SeqAt.in_tuple_data r2 r1 p2 p1 (by omega) ⟨.bl _, H, I, rfl, q⟩
  · cases h
theorem notInT_ok {x y : T} {xv yv : V} {ys : List T} {b : Bool} (hu : X.A.units + 64 < cLine) (r : RelH X.K cl F H cs st) (dx : Dn X.K cl F cs x xv) (dy : Dn X.K cl F cs y yv) (hs : seqOf st y = some ys) (h : inT st x ys = some b) (q : Q (.bl (!b)) H) : opW X σ (compareOp .NotIn) xv yv H Q := by
  obtain ⟨a, vs, rfl, hq, dl⟩ := seqOf_ok r dy hs
  unfold inT at h
  split at h
  · rename_i d ds hd hds
    cases h
    intro pins s v u I rx ry
    obtain ⟨as, r1⟩ := Dp.reads I d xv v (rdD_ok r _ dx hd) rx
    obtain ⟨p1, z1⟩ := rdD_plain _ hd
    obtain ⟨p2, z2⟩ := rdL_plain _ hds
    rcases hq with hq | hq
    · obtain ⟨bs, r2⟩ := Dp.reads I (.list ds) (.ref a) u (.lst (SqL.of hq) (rdL_ok r _ dl hds)) ry
      exact PySem.SeqAt.notIn_list_data r2 r1 p2 p1 (by omega) ⟨.bl _, H, I, rfl, q⟩
    · obtain ⟨bs, r2⟩ := Dp.reads I (.tuple ds) (.ref a) u (.tup hq (rdL_ok r _ dl hds)) ry
      exact PySem.SeqAt.notIn_tuple_data r2 r1 p2 p1 (by omega) ⟨.bl _, H, I, rfl, q⟩
  · cases h
end
end Sv
end
section
set_option linter.all false
set_option maxRecDepth 100000
set_option maxHeartbeats 4000000
/-! SvOps2: dicts, truth, items, slices, built-in calls by values. -/
namespace Sv
open PySem PySem.Spec PyProof.Rows L2

section
variable {X : Cx} {σ : L2.St} {cl : Nat → Addr} {Wx : XK} {F H : Hp} {cs : List Addr} {st : Stor} {Q : VK}

/-! ### keyed values -/
def DnKV {κ : Type} (K : PySem.W.Frag) (cl : Nat → Addr) (F : Hp) (cs : List Addr) (kvs : List (κ × T)) (gs : List (κ × V)) : Prop := kvs.map (·.1) = gs.map (·.1) ∧ DnL K cl F cs (kvs.map (·.2)) (gs.map (·.2))
theorem DnKV.nil {κ : Type} : DnKV (κ := κ) X.K cl F cs [] [] := ⟨rfl, .nil⟩
theorem DnKV.cases {κ : Type} {k : κ} {t : T} {r : List (κ × T)} {gs : List (κ × V)} (h : DnKV X.K cl F cs ((k, t) :: r) gs) : ∃ v gr, gs = (k, v) :: gr ∧ Dn X.K cl F cs t v ∧ DnKV X.K cl F cs r gr := by
  obtain ⟨h1, h2⟩ := h
  cases gs with
  | nil => simp at h1
  | cons g gr =>
    obtain ⟨k', v⟩ := g
    simp only [List.map_cons, List.cons.injEq] at h1 h2
    obtain ⟨rfl, h1⟩ := h1
    cases h2 with
    | cons d l => exact ⟨v, gr, rfl, d, h1, l⟩
theorem DnKV.cons {κ : Type} {k : κ} {t : T} {v : V} {r : List (κ × T)} {gr : List (κ × V)} (d : Dn X.K cl F cs t v) (h : DnKV X.K cl F cs r gr) : DnKV X.K cl F cs ((k, t) :: r) ((k, v) :: gr) := ⟨by simp [h.1], .cons d h.2⟩
theorem DnKV.length {κ : Type} {kvs : List (κ × T)} {gs : List (κ × V)} (h : DnKV X.K cl F cs kvs gs) : kvs.length = gs.length := by
  have := congrArg List.length h.1
  simpa using this
theorem DnKV.get {κ : Type} [DecidableEq κ] {k : κ} : ∀ {kvs : List (κ × T)} {gs : List (κ × V)}, DnKV X.K cl F cs kvs gs →
    (∀ t, (kvs.find? fun kv => decide (kv.1 = k)).map (·.2) = some t → ∃ v, valV gs k = some v ∧ Dn X.K cl F cs t v) ∧ ((kvs.find? fun kv => decide (kv.1 = k)).map (·.2) = none → valV gs k = none)
  | [], gs, h => by
    cases gs with
    | nil => exact ⟨fun t e => by simp at e, fun _ => rfl⟩
    | cons g r => have := h.1; simp at this
  | (k', t') :: r, gs, h => by
    obtain ⟨v, gr, rfl, d, h'⟩ := h.cases
    have ih := DnKV.get (k := k) h'
    by_cases e : k' = k
    · subst e
      refine ⟨fun t et => ?_, fun et => ?_⟩
      · simp [List.find?_cons] at et
        subst et
        exact ⟨v, valV_pos rfl, d⟩
      · simp [List.find?_cons] at et
    · rw [List.find?_cons_of_neg (by simpa using e), valV_neg e]
      exact ih
theorem DnKV.any {κ : Type} [DecidableEq κ] {k : κ} {kvs : List (κ × T)} {gs : List (κ × V)} (h : DnKV X.K cl F cs kvs gs) : (kvs.any fun kv => decide (kv.1 = k)) = gs.any fun kv => decide (kv.1 = k) := by
  have e1 : (kvs.any fun kv => decide (kv.1 = k)) = (kvs.map (·.1)).any fun x => decide (x = k) := by rw [List.any_map]; rfl
  have e2 : (gs.any fun kv => decide (kv.1 = k)) = (gs.map (·.1)).any fun x => decide (x = k) := by rw [List.any_map]; rfl
  rw [e1, e2, h.1]
theorem DnKV.mapPut {κ : Type} [DecidableEq κ] {k : κ} {t : T} {v : V} (d : Dn X.K cl F cs t v) : ∀ {kvs : List (κ × T)} {gs : List (κ × V)}, DnKV X.K cl F cs kvs gs →
    DnKV X.K cl F cs (kvs.map (fun kv => if kv.1 = k then (kv.1, t) else kv)) (gs.map (fun kv => if kv.1 = k then (kv.1, v) else kv))
  | [], gs, h => by
    cases gs with
    | nil => exact .nil
    | cons g r => have := h.1; simp at this
  | (k', t') :: r, gs, h => by
    obtain ⟨v', gr, rfl, d', h'⟩ := h.cases
    have ih := DnKV.mapPut (k := k) d h'
    simp only [List.map_cons]
    by_cases e : k' = k
    · simp only [e, if_true]
      exact .cons d (by simpa using ih)
    · simp only [e, if_false]
      exact .cons d' ih
theorem DnKV.append {κ : Type} : ∀ {kvs kvs' : List (κ × T)} {gs gs' : List (κ × V)}, DnKV X.K cl F cs kvs gs → DnKV X.K cl F cs kvs' gs' → DnKV X.K cl F cs (kvs ++ kvs') (gs ++ gs') := fun h h' => ⟨by simp [h.1, h'.1], by simpa using h.2.append h'.2⟩
theorem DnKV.put {k : Key} {t : T} {v : V} {kvs : List (Key × T)} {gs : List (Key × V)} (h : DnKV X.K cl F cs kvs gs) (d : Dn X.K cl F cs t v) : DnKV X.K cl F cs (putD kvs k t) (putK gs k v) := by
  unfold putD putK
  rw [h.any (k := k)]
  split
  · exact h.mapPut d
  · exact h.append (.cons d .nil)
theorem DnKV.up {κ : Type} {F' : Hp} {cs' : List Addr} {kvs : List (κ × T)} {gs : List (κ × V)} (hf : UpF F F') (hc : ∀ (n : Nat) (a : Addr), cs[n]? = some a → cs'[n]? = some a) (h : DnKV X.K cl F cs kvs gs) : DnKV X.K cl F' cs' kvs gs := ⟨h.1, h.2.up hf hc⟩
theorem keyOf_ok {x : T} {v : V} {k : Key} (d : Dn X.K cl F cs x v) (h : keyOf x = some k) : v = kV k := by
  cases x <;> simp only [keyOf] at h <;> first | (cases h; cases d; rfl) | (cases h)
theorem dicOf_ok {x : T} {v : V} {kvs : List (Key × T)} (r : RelH X.K cl F H cs st) (d : Dn X.K cl F cs x v) (h : dicOf st x = some kvs) : ∃ a gs, v = .ref a ∧ Rd H a (.dK gs) ∧ DnKV X.K cl F cs kvs gs := by
  cases x with
  | dic ys =>
    simp only [dicOf, Option.some.injEq] at h
    subst h
    cases d with
    | dic e k l => exact ⟨_, _, rfl, UpF.rd (.of r.fz) e, k, l⟩
  | cell n =>
    cases d with
    | cell e =>
    simp only [dicOf] at h
    split at h
    · rename_i ys hn
      cases h
      obtain ⟨a, ea, ca⟩ := r.at hn
      rw [e] at ea; cases ea
      obtain ⟨_, gs, h1, h2, h3⟩ := ca
      exact ⟨_, gs, rfl, .inl h1, h2, h3⟩
    · cases h
  | _ => cases h

theorem inDic_ok {x y : T} {xv yv : V} {kvs : List (Key × T)} {k : Key} (hu : X.A.units + 64 < cLine) (r : RelH X.K cl F H cs st) (dx : Dn X.K cl F cs x xv) (dy : Dn X.K cl F cs y yv) (hd : dicOf st y = some kvs) (hk : keyOf x = some k) (q : Q (.bl (getD kvs k).isSome) H) :
    opW X σ (compareOp .In) xv yv H Q := by
  obtain ⟨a, gs, rfl, ha, kv⟩ := dicOf_ok r dy hd
  have ek := keyOf_ok dx hk
  subst ek
  intro pins s v u I rx ry
  obtain rfl : u = Value.ref a := ry
  have g : DGet H a (kV k) (valV gs k) := .inl ⟨gs, k, ha, rfl, rfl⟩
  have e : (getD kvs k).isSome = (valV gs k).isSome := by
    have := kv.get (k := k)
    cases hg : getD kvs k with
    | none => rw [this.2 hg]; rfl
    | some t => obtain ⟨v', e1, _⟩ := this.1 t hg; rw [e1]; rfl
  rw [e] at q
  exact d_in (by omega) I g rx fun s3 I3 => ⟨.bl _, H, I3, rfl, q⟩
theorem notInDic_ok {x y : T} {xv yv : V} {kvs : List (Key × T)} {k : Key} (hu : X.A.units + 64 < cLine) (r : RelH X.K cl F H cs st) (dx : Dn X.K cl F cs x xv) (dy : Dn X.K cl F cs y yv) (hd : dicOf st y = some kvs) (hk : keyOf x = some k) (q : Q (.bl (!(getD kvs k).isSome)) H) :
    opW X σ (compareOp .NotIn) xv yv H Q := by
  obtain ⟨a, gs, rfl, ha, kv⟩ := dicOf_ok r dy hd
  have ek := keyOf_ok dx hk
  subst ek
  intro pins s v u I rx ry
  obtain rfl : u = Value.ref a := ry
  have g : DGet H a (kV k) (valV gs k) := .inl ⟨gs, k, ha, rfl, rfl⟩
  have e : (getD kvs k).isSome = (valV gs k).isSome := by
    have := kv.get (k := k)
    cases hg : getD kvs k with
    | none => rw [this.2 hg]; rfl
    | some t => obtain ⟨v', e1, _⟩ := this.1 t hg; rw [e1]; rfl
  rw [e] at q
  exact d_notIn (by omega) I g rx fun s3 I3 => ⟨.bl _, H, I3, rfl, q⟩
theorem sign_of {a : Str} (h : a.length = 1) : a = ⟨#[a.cps.toList.headD 0]⟩ := by
  obtain ⟨c⟩ := a
  obtain ⟨l⟩ := c
  have : l.length = 1 := h
  match l, this with
  | [x], _ => rfl
theorem inStr_ok {a b : Str} (h : a.length = 1) (q : Q (.bl (b.cps.toList.contains (a.cps.toList.headD 0))) H) : opW X σ (compareOp .In) (.str a) (.str b) H Q := by
  rw [sign_of h]
  refine opW_of op_in_sign ⟨_, b, rfl, rfl, ?_⟩
  rw [List.contains_eq_mem] at q
  exact q
theorem notInStr_ok {a b : Str} (h : a.length = 1) (q : Q (.bl (!(b.cps.toList.contains (a.cps.toList.headD 0)))) H) : opW X σ (compareOp .NotIn) (.str a) (.str b) H Q := by
  rw [sign_of h]
  refine opW_of op_notIn_sign ⟨_, b, rfl, rfl, ?_⟩
  rw [List.contains_eq_mem] at q
  exact q

theorem inD_ok {x y : T} {xv yv : V} {b : Bool} (hu : X.A.units + 64 < cLine) (r : RelH X.K cl F H cs st) (dx : Dn X.K cl F cs x xv) (dy : Dn X.K cl F cs y yv) (h : inD st x y = some b) (q : Q (.bl b) H) : opW X σ (compareOp .In) xv yv H Q := by
  unfold inD at h
  split at h
  · split at h
    · split at h
      · rename_i hl
        cases h; cases dx; cases dy
        exact inStr_ok hl q
      · cases h
    · cases h
  · split at h
    · rename_i k hk
      cases h
      exact inDic_ok hu r dx dy rfl hk q
    · cases h
  · rename_i n
    split at h
    · rename_i xs hn
      exact inT_ok hu r dx dy (by simp only [seqOf, hn]) h q
    · rename_i kvs hn
      split at h
      · rename_i k hk
        cases h
        exact inDic_ok hu r dx dy (by simp only [dicOf, hn]) hk q
      · cases h
    · cases h
  · exact inT_ok hu r dx dy rfl h q
  · exact inT_ok hu r dx dy rfl h q
  · cases h
theorem notInD_ok {x y : T} {xv yv : V} {b : Bool} (hu : X.A.units + 64 < cLine) (r : RelH X.K cl F H cs st) (dx : Dn X.K cl F cs x xv) (dy : Dn X.K cl F cs y yv) (h : inD st x y = some b) (q : Q (.bl (!b)) H) : opW X σ (compareOp .NotIn) xv yv H Q := by
  unfold inD at h
  split at h
  · split at h
    · split at h
      · rename_i hl
        cases h; cases dx; cases dy
        exact notInStr_ok hl q
      · cases h
    · cases h
  · split at h
    · rename_i k hk
      cases h
      exact notInDic_ok hu r dx dy rfl hk q
    · cases h
  · rename_i n
    split at h
    · rename_i xs hn
      exact notInT_ok hu r dx dy (by simp only [seqOf, hn]) h q
    · rename_i kvs hn
      split at h
      · rename_i k hk
        cases h
        exact notInDic_ok hu r dx dy (by simp only [dicOf, hn]) hk q
      · cases h
    · cases h
  · exact notInT_ok hu r dx dy rfl h q
  · exact notInT_ok hu r dx dy rfl h q
  · cases h

/-! ### truth -/
theorem truV_ok {x : T} {xv : V} {b : Bool} (r : RelH X.K cl F H cs st) (d : Dn X.K cl F cs x xv) (h : truV st x = some b) : TruV X.K xv H b := by
  cases x with
  | bl k => cases d; cases h; rfl
  | lst xs =>
    cases h
    obtain ⟨a, vs, rfl, h1, d1⟩ := lstOf_ok (xs := xs) r d rfl
    refine .inl ⟨vs, SqL.of h1, ?_⟩
    cases d1 <;> rfl
  | tup xs =>
    cases h
    cases d with
    | tup e l =>
      refine .inr (.inl ⟨_, SqT.up r.fz e, ?_⟩)
      cases l <;> rfl
  | cell n =>
    simp only [truV] at h
    split at h
    · rename_i xs hn
      cases h
      obtain ⟨a, vs, rfl, h1, d1⟩ := lstOf_ok (xs := xs) r d (by simp only [lstOf, hn])
      refine .inl ⟨vs, SqL.of h1, ?_⟩
      cases d1 <;> rfl
    · cases h
  | _ => cases h

/-! ### items -/
def ixW (X : Cx) (σ : L2.St) (x y : V) (H : Hp) (Q : VK) : Prop :=
  ∀ (value slice : Expr) (pins : List (Addr × Obj)) (s : Shared) (v u : Value), Inv X pins σ H s → RelV x v → RelV y u →
    subscripted slice false v u = operate [v, u] (getItem v u) → wpAny (model X.prog X.w) X.A (subscriptTail value slice v u) (EP X pins σ Q) X.xe s
theorem ixW_of {r : R2} {x y : V} (h : IxR X r) (q : r x y H Q) : ixW X σ x y H Q := fun value slice pins s v u I rx ry hs => h value slice pins s σ H x y v u Q I rx ry q hs
theorem atI_ok {xs : List T} {vs : List V} {i : Int} {t : T} (d : DnL X.K cl F cs xs vs) (h : atI xs i = some t) : ∃ v, atI vs i = some v ∧ Dn X.K cl F cs t v := by
  unfold atI at h ⊢
  rw [← d.length]
  cases e : ixN xs.length i with
  | none => rw [e] at h; cases h
  | some j =>
    rw [e] at h
    exact d.get h
theorem idxSeq_ok {o : T} {ov : V} {xs : List T} {k : Int} {t : T} (r : RelH X.K cl F H cs st) (d : Dn X.K cl F cs o ov) (hs : seqOf st o = some xs) (ha : atI xs k = some t) (q : ∀ v, Dn X.K cl F cs t v → Q v H) : ixW X σ ov (.int k) H Q := by
  obtain ⟨a, vs, rfl, h1, d1⟩ := seqOf_ok r d hs
  obtain ⟨v, e, dv⟩ := atI_ok d1 ha
  rcases h1 with h1 | h1
  · exact ixW_of ix_list ⟨a, vs, k, v, rfl, rfl, SqL.of h1, e, q v dv⟩
  · exact ixW_of ix_tup ⟨a, vs, k, v, rfl, rfl, h1, e, q v dv⟩
theorem idxDic_ok {o i : T} {ov iv : V} {kvs : List (Key × T)} {k : Key} {t : T} (hu : X.A.units + 64 < cLine) (r : RelH X.K cl F H cs st) (d : Dn X.K cl F cs o ov) (di : Dn X.K cl F cs i iv) (hs : dicOf st o = some kvs) (hk : keyOf i = some k) (ha : getD kvs k = some t) (q : ∀ v, Dn X.K cl F cs t v → Q v H) : ixW X σ ov iv H Q := by
  obtain ⟨a, gs, rfl, h1, kv⟩ := dicOf_ok r d hs
  have ek := keyOf_ok di hk
  subst ek
  obtain ⟨v, ev, dv⟩ := (kv.get (k := k)).1 t ha
  intro value slice pins s u w I rx ry hs'
  obtain rfl : u = Value.ref a := rx
  have g : DGet H a (kV k) (some v) := .inl ⟨gs, k, h1, rfl, ev.symm⟩
  exact tail_any (dict_typeIs I g) PySem.F.slot_dict_getitem.lookup (d_getItem (by omega) I g ry fun w' s' I' rw' => ⟨v, H, I', rw', q v dv⟩) hs'
theorem idxStr_ok {z : Str} {k : Int} {c : Nat} (hl : z.length ≤ 16777216) (ha : atI z.cps.toList k = some c) (q : Q (.str ⟨#[c]⟩) H) : ixW X σ (.str z) (.int k) H Q := ixW_of ix_str ⟨z, k, c, rfl, rfl, hl, ha, q⟩

/-! ### slices -/
theorem cutT_ok {xs : List T} {vs : List V} {lo hi : Option Int} (d : DnL X.K cl F cs xs vs) : DnL X.K cl F cs (cutT xs lo hi) (cutV vs lo hi) := by
  unfold cutT cutV
  rw [← d.length]
  exact (d.drop _).take _
theorem cutT_map {α β : Type} (f : α → β) (xs : List α) (lo hi : Option Int) : cutT (xs.map f) lo hi = (cutT xs lo hi).map f := by
  unfold cutT
  rw [List.length_map, ← List.map_drop, ← List.map_take]
def slW (X : Cx) (σ : L2.St) (x : V) (lo hi : Option Int) (H : Hp) (Q : VK) : Prop :=
  ∀ (pins : List (Addr × Obj)) (s : Shared) (v vl vu : Value) (sl : Addr), Inv X pins σ H s → RelV x v → s.heap.IsSliceOf sl vl vu .none → IsPart vl lo → IsPart vu hi →
    ∃ T id, typeLookup (.type T) "__getitem__" = pure (some (.builtin id)) ∧ s.TypeIs v T ∧ wpAny (model X.prog X.w) X.A (getItem v (.ref sl)) (EP X pins σ Q) X.xe s
theorem slW_of {r : V → Option Int → Option Int → Hp → VK → Prop} {x : V} {lo hi : Option Int} (h : SlR X r) (q : r x lo hi H Q) : slW X σ x lo hi H Q := fun pins s v vl vu sl I rx hs pl pu => h pins s σ H x v vl vu lo hi sl Q I rx hs pl pu q
theorem slcV_ok {o : T} {ov : V} {lo hi : Option Int} (r : RelH X.K cl F H cs st) (d : Dn X.K cl F cs o ov) (h : okG X.K cl Wx F H cs (kR X.K cl) (slcV o lo hi st) Q) : slW X σ ov lo hi H Q := by
  unfold slcV at h
  split at h
  · rename_i xs
    cases d with
    | tup e l =>
    refine slW_of sl_tupA ⟨_, _, rfl, SqT.up r.fz e, fun hz => ?_, fun _ => okG.newT h r (cutT_ok l)⟩
    have : cutT xs lo hi = xs := by
      unfold cutT
      rw [l.length, hz.1, hz.2]
      simp [l.length]
      rw [← l.length, List.take_length]
    rw [this] at h
    exact okG.val h r (.tup e l)
  · obtain ⟨a, vs, rfl, h1, d1⟩ := lstOf_ok (xs := _) r d rfl
    exact slW_of sl_list ⟨a, vs, rfl, SqL.of h1, okG.newL h r (cutT_ok d1)⟩
  · rename_i n
    split at h
    · rename_i xs hn
      obtain ⟨a, vs, rfl, h1, d1⟩ := lstOf_ok (xs := xs) r d (by simp only [lstOf, hn])
      exact slW_of sl_list ⟨a, vs, rfl, SqL.of h1, okG.newL h r (cutT_ok d1)⟩
    · exact h.elim
  · split at h
    · rename_i hl
      cases d
      exact slW_of sl_str ⟨_, rfl, hl, okG.val h r (.str _)⟩
    · exact h.elim
  · rename_i ns
    cases d with
    | scr _ e =>
    refine slW_of sl_list ⟨_, _, rfl, SqL.up r.fz e, ?_⟩
    have := okG.newL (vs := cutV (ns.map V.int) lo hi) h r (by
      have e1 : cutV (ns.map V.int) lo hi = (cutT ns lo hi).map V.int := cutT_map V.int ns lo hi
      rw [e1]
      exact DnL.ints _)
    exact this
  · exact h.elim

/-! ### built-in calls -/
theorem strsOf_ok : ∀ {xs : List T} {vs : List V} {zs : List Str}, DnL X.K cl F cs xs vs → strsOf xs = some zs → vs = zs.map V.str
  | [], _, _, d, h => by cases d; cases h; rfl
  | t :: r, _, zs, d, h => by
    cases d with
    | cons d1 d2 =>
    cases t <;> simp only [strsOf] at h <;> try (cases h; done)
    rename_i x
    cases hr : strsOf r with
    | none => rw [hr] at h; cases h
    | some l =>
      rw [hr] at h
      cases h
      cases d1
      rw [List.map_cons, strsOf_ok d2 hr]
theorem intsOf_ok : ∀ {xs : List T} {vs : List V} {zs : List Int}, DnL X.K cl F cs xs vs → intsOf xs = some zs → vs = zs.map V.int
  | [], _, _, d, h => by cases d; cases h; rfl
  | t :: r, _, zs, d, h => by
    cases d with
    | cons d1 d2 =>
    cases t <;> simp only [intsOf] at h <;> try (cases h; done)
    rename_i x
    cases hr : intsOf r with
    | none => rw [hr] at h; cases h
    | some l =>
      rw [hr] at h
      cases h
      cases d1
      rw [List.map_cons, intsOf_ok d2 hr]
theorem boolsOf_ok : ∀ {xs : List T} {vs : List V} {zs : List Bool}, DnL X.K cl F cs xs vs → boolsOf xs = some zs → vs = zs.map V.bl
  | [], _, _, d, h => by cases d; cases h; rfl
  | t :: r, _, zs, d, h => by
    cases d with
    | cons d1 d2 =>
    cases t <;> simp only [boolsOf] at h <;> try (cases h; done)
    rename_i x
    cases hr : boolsOf r with
    | none => rw [hr] at h; cases h
    | some l =>
      rw [hr] at h
      cases h
      cases d1
      rw [List.map_cons, boolsOf_ok d2 hr]
end
end Sv
end
section
set_option linter.all false
set_option maxRecDepth 100000
/-! SvSort: sorting by insertion; a sorted list is one. Plain Lean. -/
namespace Sv
open PySem PySem.Spec

theorem ltC_irrefl : ∀ a : List Nat, ltCps a a = false
  | [] => rfl
  | x :: r => by simp [ltCps, ltC_irrefl r]
theorem ltC_trans : ∀ {a b c : List Nat}, ltCps a b = true → ltCps b c = true → ltCps a c = true
  | [], [], _, h, _ => by simp [ltCps] at h
  | [], _ :: _, [], _, h => by simp [ltCps] at h
  | [], _ :: _, _ :: _, _, _ => rfl
  | _ :: _, [], _, h, _ => by simp [ltCps] at h
  | _ :: _, _ :: _, [], _, h => by simp [ltCps] at h
  | x :: a, y :: b, z :: c, h, h' => by
    simp only [ltCps, Bool.or_eq_true, decide_eq_true_eq, Bool.and_eq_true, beq_iff_eq] at h h' ⊢
    rcases h with h | ⟨h, h1⟩ <;> rcases h' with h' | ⟨h', h2⟩
    · exact .inl (by omega)
    · exact .inl (by omega)
    · exact .inl (by omega)
    · exact .inr ⟨by omega, ltC_trans h1 h2⟩
theorem ltC_tri : ∀ (a b : List Nat), ltCps a b = false → ltCps b a = false → a = b
  | [], [], _, _ => rfl
  | [], _ :: _, h, _ => by simp [ltCps] at h
  | _ :: _, [], _, h => by simp [ltCps] at h
  | x :: a, y :: b, h, h' => by
    simp only [ltCps, Bool.or_eq_false_iff, decide_eq_false_iff_not, Bool.and_eq_false_iff, beq_eq_false_iff_ne] at h h'
    have e : x = y := by omega
    subst e
    have h1 : ltCps a b = false := by rcases h.2 with z | z; exact absurd rfl z; exact z
    have h2 : ltCps b a = false := by rcases h'.2 with z | z; exact absurd rfl z; exact z
    rw [ltC_tri a b h1 h2]
abbrev ltS (a b : Str) : Bool := ltCps a.cps.toList b.cps.toList
theorem str_ext {a b : Str} (h : a.cps.toList = b.cps.toList) : a = b := by
  cases a; cases b
  simp only [Str.mk.injEq]
  exact Array.toList_inj.mp h
theorem ltS_irrefl (a : Str) : ltS a a = false := ltC_irrefl _
theorem ltS_trans {a b c : Str} : ltS a b = true → ltS b c = true → ltS a c = true := ltC_trans
theorem ltS_tri {a b : Str} (h : ltS a b = false) (h' : ltS b a = false) : a = b := str_ext (ltC_tri _ _ h h')
theorem ltS_asymm {a b : Str} (h : ltS a b = true) : ltS b a = false := by
  cases e : ltS b a with
  | false => rfl
  | true => have := ltS_trans h e; rw [ltS_irrefl] at this; cases this
/-- not greater -/
theorem leS_trans {a b c : Str} (h : ltS b a = false) (h' : ltS c b = false) : ltS c a = false := by
  cases e : ltS c a with
  | false => rfl
  | true =>
    cases e2 : ltS a b with
    | true => have := ltS_trans e e2; rw [h'] at this; cases this
    | false => have := ltS_tri e2 h; subst this; rw [h'] at e; cases e

theorem insS_perm (x : Str) : ∀ l : List Str, (insS x l).Perm (x :: l)
  | [] => .refl _
  | y :: r => by
    unfold insS
    split
    · exact .refl _
    · exact ((insS_perm x r).cons y).trans (.swap x y r)
theorem insS_sorted (x : Str) : ∀ {l : List Str}, l.Pairwise (fun a b => ltS b a = false) → (insS x l).Pairwise (fun a b => ltS b a = false)
  | [], _ => by unfold insS; simp
  | y :: r, h => by
    unfold insS
    obtain ⟨h1, h2⟩ := List.pairwise_cons.mp h
    split
    · rename_i hl
      refine List.pairwise_cons.mpr ⟨fun b hb => ?_, h⟩
      rcases List.mem_cons.mp hb with rfl | hb
      · exact ltS_asymm hl
      · exact leS_trans (ltS_asymm hl) (h1 b hb)
    · rename_i hl
      refine List.pairwise_cons.mpr ⟨fun b hb => ?_, insS_sorted x h2⟩
      rcases List.mem_cons.mp ((insS_perm x r).mem_iff.mp hb) with rfl | hb
      · simpa using hl
      · exact h1 b hb
theorem foldIns (xs acc : List Str) (h : acc.Pairwise (fun a b => ltS b a = false)) : (xs.foldl (fun acc x => insS x acc) acc).Perm (xs ++ acc) ∧ (xs.foldl (fun acc x => insS x acc) acc).Pairwise (fun a b => ltS b a = false) := by
  induction xs generalizing acc with
  | nil => exact ⟨.refl _, h⟩
  | cons x r ih =>
    obtain ⟨p, s⟩ := ih (insS x acc) (insS_sorted x h)
    refine ⟨p.trans ?_, s⟩
    exact ((insS_perm x acc).append_left r).trans List.perm_middle
theorem sortS_perm (xs : List Str) : (sortS xs).Perm xs := by
  have := (foldIns xs [] .nil).1
  rw [List.append_nil] at this
  exact this
theorem sortS_sorted (xs : List Str) : (sortS xs).Pairwise (fun a b => ltS b a = false) := (foldIns xs [] .nil).2
theorem sorted_one : ∀ {l l' : List Str}, l.Perm l' → l.Pairwise (fun a b => ltS b a = false) → l'.Pairwise (fun a b => ltS b a = false) → l = l'
  | [], l', p, _, _ => (List.nil_perm.mp p).symm
  | x :: r, [], p, _, _ => absurd (List.perm_nil.mp p) (by simp)
  | x :: r, y :: t, p, h, h' => by
    obtain ⟨h1, h2⟩ := List.pairwise_cons.mp h
    obtain ⟨h3, h4⟩ := List.pairwise_cons.mp h'
    have e : x = y := by
      have a1 : ltS y x = false := by
        rcases List.mem_cons.mp (p.symm.mem_iff.mp (List.mem_cons_self (a := y) (l := t))) with e | e
        · rw [e]; exact ltS_irrefl _
        · exact h1 _ e
      have a2 : ltS x y = false := by
        rcases List.mem_cons.mp (p.mem_iff.mp (List.mem_cons_self (a := x) (l := r))) with e | e
        · rw [e]; exact ltS_irrefl _
        · exact h3 _ e
      exact ltS_tri a2 a1
    subst e
    rw [sorted_one (List.perm_cons x |>.mp p) h2 h4]
theorem risingS_pw : ∀ (l : List Str) (p : Str), PyProof.Rows.risingS p l = true → (p :: l).Pairwise (fun a b => ltS b a = false)
  | [], p, _ => by simp
  | x :: r, p, h => by
    have h' : (!ltCps x.cps.toList p.cps.toList && PyProof.Rows.risingS x r) = true := h
    rw [Bool.and_eq_true, Bool.not_eq_true'] at h'
    have ih := risingS_pw r x h'.2
    refine List.pairwise_cons.mpr ⟨fun b hb => ?_, ih⟩
    rcases List.mem_cons.mp hb with rfl | hb
    · exact h'.1
    · exact leS_trans h'.1 ((List.pairwise_cons.mp ih).1 b hb)
theorem sortedS_pw : ∀ l : List Str, PyProof.Rows.sortedS l = true → l.Pairwise (fun a b => ltS b a = false)
  | [], _ => .nil
  | x :: r, h => risingS_pw r x h
/-- the one sorted list -/
theorem sortS_of {ys xs : List Str} (p : ys.Perm xs) (s : PyProof.Rows.sortedS ys = true) : ys = sortS xs := sorted_one (p.trans (sortS_perm xs).symm) (sortedS_pw ys s) (sortS_sorted xs)
theorem sortS_id {xs : List Str} (s : xs.Pairwise (fun a b => ltS b a = false)) : sortS xs = xs := sorted_one (sortS_perm xs) (sortS_sorted xs) s

theorem dedupS_mem : ∀ {xs : List Str} {x : Str}, x ∈ dedupS xs ↔ x ∈ xs
  | [], x => Iff.rfl
  | y :: r, x => by
    unfold dedupS
    split
    · rename_i h
      rw [dedupS_mem, List.mem_cons]
      constructor
      · exact fun h => .inr h
      · rintro (rfl | h')
        · exact List.contains_iff_mem.mp h
        · exact h'
    · rw [List.mem_cons, List.mem_cons, dedupS_mem]
theorem dedupS_nodup : ∀ xs : List Str, (dedupS xs).Nodup
  | [] => .nil
  | y :: r => by
    unfold dedupS
    split
    · exact dedupS_nodup r
    · rename_i h
      refine List.nodup_cons.mpr ⟨fun hm => h ?_, dedupS_nodup r⟩
      exact List.contains_iff_mem.mpr (dedupS_mem.mp hm)
/-- rising lists with the same members are one -/
theorem perm_of_mem {l l' : List Str} (h : l.Nodup) (h' : l'.Nodup) (m : ∀ x, x ∈ l ↔ x ∈ l') : l.Perm l' := (List.perm_ext_iff_of_nodup h h').mpr m
theorem sortSet_of {ys xs : List Str} (nd : ys.Nodup) (s : ys.Pairwise (fun a b => ltS b a = false)) (m : ∀ x, x ∈ ys ↔ x ∈ xs) : ys = sortS (dedupS xs) :=
  sorted_one ((perm_of_mem nd (dedupS_nodup xs) fun x => (m x).trans dedupS_mem.symm).trans (sortS_perm _).symm) s (sortS_sorted _)
end Sv
end
section
set_option linter.all false
set_option maxRecDepth 100000
set_option maxHeartbeats 4000000
/-! SvOps3: built-in calls and methods by values. -/
namespace Sv
open PySem PySem.Spec PyProof.Rows L2

/-! ### digits -/
theorem digsF_ok : ∀ (k m : Nat) (acc : List Nat), m < 2 ^ (k + 1) ∨ m < 10 → digsF k m acc = (Nat.toDigits 10 m).map Char.toNat ++ acc := by
  intro k
  induction k with
  | zero =>
    intro m acc h
    have hm : m < 10 := by omega
    show (48 + m) :: acc = _
    rw [Nat.toDigits_of_lt_base hm]
    have : ∀ j, j < 10 → (48 + j) :: acc = [Nat.digitChar j].map Char.toNat ++ acc := by
      intro j hj
      match j, hj with
      | 0, _ => rfl | 1, _ => rfl | 2, _ => rfl | 3, _ => rfl | 4, _ => rfl | 5, _ => rfl | 6, _ => rfl | 7, _ => rfl | 8, _ => rfl | 9, _ => rfl
    exact this m hm
  | succ k ih =>
    intro m acc h
    have dg : ∀ j, j < 10 → [48 + j] = [Nat.digitChar j].map Char.toNat := by
      intro j hj
      match j, hj with
      | 0, _ => rfl | 1, _ => rfl | 2, _ => rfl | 3, _ => rfl | 4, _ => rfl | 5, _ => rfl | 6, _ => rfl | 7, _ => rfl | 8, _ => rfl | 9, _ => rfl
    unfold digsF
    by_cases hm : m < 10
    · rw [if_pos hm, Nat.toDigits_of_lt_base hm, ← dg m hm]; rfl
    · rw [if_neg hm, ih (m / 10) _ (by
        left
        rcases h with h | h
        · have : 2 ^ (k + 1 + 1) = 2 * 2 ^ (k + 1) := by rw [Nat.pow_succ]; omega
          omega
        · omega)]
      rw [Nat.toDigits_of_base_le (by decide) (by omega : 10 ≤ m), List.map_append, List.append_assoc, ← dg (m % 10) (Nat.mod_lt _ (by decide))]
      rfl
theorem digs_ok (m : Nat) : digs m = (Nat.toDigits 10 m).map Char.toNat := by
  unfold digs
  rw [digsF_ok, List.append_nil]
  left
  have := Nat.lt_log2_self (n := m)
  calc m < 2 ^ (m.log2 + 1) := this
    _ ≤ 2 ^ (m.log2 + 1 + 1) := Nat.pow_le_pow_right (by decide) (by omega)
theorem decS_ok (i : Int) : decS i = Str.ofString (toString i) := by
  apply str_ext
  unfold decS
  cases i with
  | ofNat m =>
    have : ¬ ((Int.ofNat m) < 0) := by simp
    rw [if_neg this]
    show (digs m) = _
    rw [digs_ok]
    exact (PySem.W.KIN.signs_num m).symm
  | negSucc m =>
    rw [if_pos (Int.negSucc_lt_zero m)]
    show 45 :: digs (m + 1) = _
    rw [digs_ok, PyProof.Rows.signs_ofString]
    show _ = ("-" ++ Nat.repr (m + 1)).toList.map Char.toNat
    rw [String.toList_append, List.map_append, Nat.toList_repr]
    rfl

section
variable {X : Cx} {σ : L2.St} {cl : Nat → Addr} {Wx : XK} {F H : Hp} {cs : List Addr} {st : Stor} {Q : VK} {E : Ev}

def biVal : Bi → Value
  | .len => .builtin "len"
  | .tuple => .type "tuple"
  | .list => .type "list"
  | .sorted => .builtin "sorted"
  | .all => .builtin "all"
  | .any => .builtin "any"
  | .str => .type "str"
  | .int => .type "int"
  | .abs => .builtin "abs"
  | .dict => .type "dict"
  | _ => .none
/-- the built-ins that are served by values alone -/
def plainBi : Bi → List T → Bool
  | .sortedSet, _ => false
  | .lenSet, _ => false
  | .sum, _ => false
  | .min, _ => false
  | .max, _ => false
  | _, _ => true

theorem pairsOf_ok (r : RelH X.K cl F H cs st) : ∀ {xs : List T} {vs : List V} {kvs : List (Key × T)}, DnL X.K cl F cs xs vs → pairsOf st xs = some kvs → ∃ (ps : List Addr) (gs : List (Key × V)), vs = ps.map V.ref ∧ Paired (fun p kv => SqT X.K H p [kV kv.1, kv.2]) ps gs ∧ DnKV X.K cl F cs kvs gs
  | [], _, _, d, h => by cases d; cases h; exact ⟨[], [], rfl, .nil, .nil⟩
  | t :: ts, _, kvs, d, h => by
    cases d with
    | cons d1 d2 =>
    simp only [pairsOf] at h
    split at h
    · rename_i k v
      split at h
      · rename_i kk l hk hl
        cases h
        obtain ⟨ps, gs, e1, e2, e3⟩ := pairsOf_ok r d2 hl
        cases d1 with
        | tup e l2 =>
        cases l2 with
        | cons dk l3 =>
        cases l3 with
        | cons dv l4 =>
        cases l4
        have ek := keyOf_ok dk hk
        subst ek
        exact ⟨_ :: ps, (kk, _) :: gs, by rw [List.map_cons, e1], .cons (SqT.up r.fz e) e2, .cons dv e3⟩
      · cases h
    · cases h
theorem DnKV.merge : ∀ {more : List (Key × T)} {gm : List (Key × V)} {kvs : List (Key × T)} {gs : List (Key × V)}, DnKV X.K cl F cs more gm → DnKV X.K cl F cs kvs gs → DnKV X.K cl F cs (mergeT kvs more) (mergeK gs gm)
  | [], gm, kvs, gs, h, h' => by
    cases gm with
    | nil => exact h'
    | cons g r => have := h.1; simp at this
  | (k, t) :: r, gm, kvs, gs, h, h' => by
    obtain ⟨v, gr, rfl, d, hr⟩ := h.cases
    show DnKV X.K cl F cs (mergeT (putD kvs k t) r) (mergeK (putK gs k v) gr)
    exact DnKV.merge hr (h'.put d)

theorem biV_ok {b : Bi} {xs : List T} {vs : List V} (hc : X.calm = true) (r : RelH X.K cl F H cs st) (d : DnL X.K cl F cs xs vs) (hp : plainBi b xs = true)
    (h : okG X.K cl Wx F H cs (kR X.K cl) (biV E b xs st) Q) : calW X σ (biVal b) vs H Q := by
  unfold biV at h
  split at h
  · rename_i x
    cases d with
    | cons d1 d2 =>
    cases d2
    unfold lenV at h
    split at h
    · split at h
      · rename_i hl
        cases d1
        exact calW_of call_len ⟨_, _, rfl, ⟨hl, rfl⟩, okG.val h r (.int _)⟩
      · exact h.elim
    · obtain ⟨a, ws, rfl, h1, dl⟩ := lstOf_ok (xs := _) r d1 rfl
      exact calW_of call_len_seq ⟨a, ws, rfl, .inl (SqL.of h1), by rw [← dl.length]; exact okG.val h r (.int _)⟩
    · cases d1 with
      | tup e l => exact calW_of call_len_seq ⟨_, _, rfl, .inr (SqT.up r.fz e), by rw [← l.length]; exact okG.val h r (.int _)⟩
    · rename_i n
      split at h
      · rename_i ys hn
        obtain ⟨a, ws, rfl, h1, dl⟩ := lstOf_ok (xs := ys) r d1 (by simp only [lstOf, hn])
        exact calW_of call_len_seq ⟨a, ws, rfl, .inl (SqL.of h1), by rw [← dl.length]; exact okG.val h r (.int _)⟩
      · rename_i ys hn
        cases d1 with
        | cell e =>
        obtain ⟨a, ea, ca⟩ := r.at hn
        rw [e] at ea; cases ea
        obtain ⟨_, gs, h1, k, l⟩ := ca
        have kv : DnKV X.K cl F cs ys gs := ⟨k, l⟩
        exact calW_of call_lenD ⟨_, gs, rfl, h1, by rw [← kv.length]; exact okG.val h r (.int _)⟩
      · exact h.elim
    · exact h.elim
  · cases d with
    | cons d1 d2 =>
    cases d2
    cases d1 with
    | tup e l => exact calW_of call_tuple_of ⟨_, _, rfl, .inr ⟨SqT.up r.fz e, okG.val h r (.tup e l)⟩⟩
  · cases d with
    | cons d1 d2 =>
    cases d2
    obtain ⟨a, ws, rfl, h1, dl⟩ := lstOf_ok (xs := _) r d1 rfl
    exact calW_of call_tuple_of ⟨a, ws, rfl, .inl ⟨SqL.of h1, okG.newT h r dl⟩⟩
  · rename_i n
    cases d with
    | cons d1 d2 =>
    cases d2
    split at h
    · rename_i ys hn
      obtain ⟨a, ws, rfl, h1, dl⟩ := lstOf_ok (xs := ys) r d1 (by simp only [lstOf, hn])
      exact calW_of call_tuple_of ⟨a, ws, rfl, .inl ⟨SqL.of h1, okG.newT h r dl⟩⟩
    · exact h.elim
  · rename_i x
    cases d with
    | cons d1 d2 =>
    cases d2
    split at h
    · rename_i ys hs
      obtain ⟨a, ws, rfl, h1, dl⟩ := seqOf_ok r d1 hs
      exact calW_of call_list_of ⟨a, ws, rfl, h1.imp SqL.of id, okG.newL h r dl⟩
    · exact h.elim
  · rename_i x
    cases d with
    | cons d1 d2 =>
    cases d2
    split at h
    · rename_i ys hs
      split at h
      · rename_i zs hz
        split at h
        · rename_i hl
          obtain ⟨a, ws, rfl, h1, dl⟩ := lstOf_ok r d1 hs
          have e := strsOf_ok dl hz
          subst e
          refine calW_of cr_sortedS ⟨a, zs, rfl, SqL.of h1, hl, fun ys' p pm so hp' => ?_⟩
          have e2 := sortS_of pm so
          subst e2
          exact okG.newL h r (DnL.strs _) p hp'
        · exact h.elim
      · exact h.elim
    · exact h.elim
  · exact absurd hp (by simp [plainBi])
  · exact absurd hp (by simp [plainBi])
  · rename_i x
    cases d with
    | cons d1 d2 =>
    cases d2
    split at h
    · rename_i ys hs
      split at h
      · rename_i zs hz
        obtain ⟨a, ws, rfl, h1, dl⟩ := lstOf_ok r d1 hs
        have e := boolsOf_ok dl hz
        subst e
        exact calW_of (cr_all hc) ⟨a, zs, rfl, SqL.of h1, okG.val h r (.bl _)⟩
      · exact h.elim
    · exact h.elim
  · rename_i x
    cases d with
    | cons d1 d2 =>
    cases d2
    split at h
    · rename_i ys hs
      split at h
      · rename_i zs hz
        obtain ⟨a, ws, rfl, h1, dl⟩ := lstOf_ok r d1 hs
        have e := boolsOf_ok dl hz
        subst e
        exact calW_of (cr_any hc) ⟨a, zs, rfl, SqL.of h1, okG.val h r (.bl _)⟩
      · exact h.elim
    · exact h.elim
  · cases d with
    | cons d1 d2 =>
    cases d2; cases d1
    split at h
    · rename_i hl
      rw [decS_ok] at h
      exact calW_of call_str_int ⟨_, rfl, hl, okG.val h r (.str _)⟩
    · exact h.elim
  · cases d with
    | cons d1 d2 =>
    cases d2; cases d1
    exact calW_of SkE.call_str_str ⟨_, rfl, okG.val h r (.str _)⟩
  · cases d with
    | cons d1 d2 =>
    cases d2; cases d1
    exact calW_of call_int1 (.inl ⟨_, rfl, okG.val h r (.int _)⟩)
  · cases d with
    | cons d1 d2 =>
    cases d2; cases d1
    exact calW_of call_int1 (.inr ⟨_, rfl, okG.val h r (.int _)⟩)
  · cases d with
    | cons d1 d2 =>
    cases d2; cases d1
    exact calW_of call_abs ⟨_, rfl, okG.val h r (.int _)⟩
  · rename_i x
    cases d with
    | cons d1 d2 =>
    cases d2
    split at h
    · rename_i ys hs
      split at h
      · rename_i kvs hk
        obtain ⟨a, ws, rfl, h1, dl⟩ := lstOf_ok r d1 hs
        obtain ⟨ps, gs, e1, e2, e3⟩ := pairsOf_ok r dl hk
        subst e1
        have kv : DnKV X.K cl F cs (mergeT [] kvs) (mergeK [] gs) := DnKV.merge e3 .nil
        exact calW_of (call_dictP hc) ⟨a, ps, gs, rfl, SqL.of h1, e2, okG.newD h r kv.1 kv.2⟩
      · exact h.elim
    · exact h.elim
  · exact h.elim

/-! ### methods of built-in types -/
def mtId : Mt → String
  | .append => "list.append"
  | .extend => "list.extend"
  | .pop => "list.pop"
  | .reverse => "list.reverse"
  | .index => "list.index"
  | .join => "str.join"
  | _ => ""
/-- a store into a cell -/
theorem RelH.put {n : Nat} {c c' : Cell} {a : Addr} {o : HO} (r : RelH X.K cl F H cs st) (hn : st[n]? = some c) (ha : cs[n]? = some a) (hF : F a = none) (hc : CellAt X.K cl F (upd H a o) cs a c') : RelH X.K cl F (upd H a o) cs (st.set n c') where
  fz := fun b u h => by rw [upd_ne (fun e => by rw [e, hF] at h; cases h)]; exact r.fz b u h
  len := by rw [List.length_set]; exact r.len
  nd := r.nd
  cell := fun m c2 b h1 h2 => by
    by_cases e : n = m
    · subst e
      have hl : n < st.length := (List.getElem?_eq_some_iff.mp hn).1
      rw [List.getElem?_set_self hl] at h1
      cases h1
      rw [ha] at h2; cases h2
      exact hc
    · rw [List.getElem?_set_ne e] at h1
      have nb : b ≠ a := fun z => by
        subst z
        have e1 := (List.getElem?_eq_some_iff.mp ha)
        have e2 := (List.getElem?_eq_some_iff.mp h2)
        exact e ((List.getElem_inj r.nd).mp (e1.2.trans e2.2.symm))
      exact (r.cell m c2 b h1 h2).up .refl (fun _ _ h => h) (upd_ne nb) (fun h => h)
theorem RelH.putE {n : Nat} {a : Addr} {o : HO} (r : RelH X.K cl F H cs st) (ha : cs[n]? = some a) : Ext F H cs F (upd H a o) cs :=
  ⟨.refl, fun _ _ h => h, fun b u h1 h2 h3 => ⟨by rw [upd_ne (fun e => h3 (by rw [e]; exact List.mem_of_getElem? ha))]; exact h1, h2, h3⟩, fun b h => by
    by_cases e : b = a
    · subst e; rw [upd_same] at h; cases h
    · rw [upd_ne e] at h; exact h⟩
theorem okG.put {n : Nat} {c c' : Cell} {a : Addr} {o : HO} {t : T} {v : V} (h : okG X.K cl Wx F H cs (kR X.K cl) (.ok (.val t) (st.set n c')) Q) (r : RelH X.K cl F H cs st) (hn : st[n]? = some c) (ha : cs[n]? = some a) (hF : F a = none)
    (hc : CellAt X.K cl F (upd H a o) cs a c') (d : Dn X.K cl F cs t v) : Q v (upd H a o) := h v F _ cs (r.putE ha) (r.put hn ha hF hc) d

theorem atCell {n : Nat} {xs : List T} {v : V} (r : RelH X.K cl F H cs st) (d : Dn X.K cl F cs (.cell n) v) (hn : st[n]? = some (.lst xs)) : ∃ a vs, v = .ref a ∧ cs[n]? = some a ∧ F a = none ∧ H a = some (.lst vs) ∧ DnL X.K cl F cs xs vs := by
  cases d with
  | cell e =>
  obtain ⟨a, ea, ca⟩ := r.at hn
  rw [e] at ea; cases ea
  obtain ⟨hF, vs, h1, h2⟩ := ca
  exact ⟨_, vs, rfl, e, hF, h1, h2⟩

theorem index_ok {a : Addr} {ws : List V} {y : V} {d : PyData} {ds : List PyData} {j : Nat} (hu : X.A.units + 64 < cLine) (h1 : H a = some (.lst ws)) (hl : DpAll X.K H ws ds) (hy : Dp X.K H y d)
    (p1 : PyData.plainAll ds = true ∧ PyData.depthAll ds ≤ 20) (p2 : d.plain = true ∧ d.depth ≤ 20) (hk : ds.findIdx? (fun z => PyData.eqv z d) = some j) (q : Q (.int (j : Nat)) H) : calW X σ (.builtin "list.index") [.ref a, y] H Q := by
  intro pins s us I rx
  obtain ⟨u0, uy, rfl, r0, ry⟩ := vals2 rx
  obtain rfl : u0 = Value.ref a := r0
  obtain ⟨bs, rr⟩ := Dp.reads I d y uy hy ry
  obtain ⟨its, rv, ⟨⟨cls, dd, data, sls⟩, n, ho, hc, hdn, hdt⟩, hlen⟩ := I.list (SqL.of h1)
  simp only at hc hdt
  subst hc hdt
  obtain ⟨as, h4⟩ := Dp.readsAll I ds _ its hl rv
  have hn : its.length = ds.length := SeqAt.ReadsAll.length ds its as h4
  have hmap : its.map (SeqAt.readOf s.heap) = ds := SeqAt.readsAll_map_plain ds its as p1.1 h4
  have hvl := rv.length
  have hsl := sizeLine_eq
  obtain ⟨hjd, hjh, hjn⟩ := List.findIdx?_eq_some_iff_getElem.mp hk
  have hjl : j < its.length := by omega
  have hj : j < its.toArray.size := by simpa using hjl
  have at_ : ∀ (m : Nat) (hm : m < its.toArray.size) (z' : PyData), ds[m]? = some z' → SeqAt.readOf s.heap its.toArray[m] = z' := by
    intro m hm z' hz'
    have hml : m < its.length := by simpa using hm
    rw [← hmap, List.getElem?_map, List.getElem?_eq_getElem hml] at hz'
    have e1 : SeqAt.readOf s.heap its[m] = z' := Option.some.inj (show some (SeqAt.readOf s.heap its[m]) = some z' from hz')
    simpa using e1
  refine call_meets PySem.F.slot_list_index ⟨_, ho, rfl⟩ PySem.F.entry_list_index (PySem.F.args_list_index_2 _ _)
    (SeqAt.list_indexAt a its.toArray n dd sls uy (fun u => PyData.eqv (SeqAt.readOf s.heap u) d) j hj (by omega) ?_ ?_) ⟨ho, SeqAt.items_plain (vs := its.toArray) (show ReadsAll s.heap its.toArray.toList ds as from h4) rr p1.1 p2.1 (by omega), ?_⟩
  · show PyData.eqv (SeqAt.readOf s.heap its.toArray[j]) d = true
    rw [at_ j hj _ (List.getElem?_eq_getElem hjd)]
    exact hjh
  · intro m hm hmj
    have hmd : m < ds.length := by omega
    show PyData.eqv (SeqAt.readOf s.heap its.toArray[m]) d = false
    rw [at_ m hm _ (List.getElem?_eq_getElem hmd)]
    simpa using hjn m hmj
  · exact ⟨.int (j : Nat), H, I.tok _, ⟨_, rfl⟩, q⟩

theorem mtV_ok {m : Mt} {o : T} {ov : V} {xs : List T} {vs : List V} (hu : X.A.units + 64 < cLine) (r : RelH X.K cl F H cs st) (do_ : Dn X.K cl F cs o ov) (d : DnL X.K cl F cs xs vs)
    (h : okG X.K cl Wx F H cs (kR X.K cl) (mtV E m o xs st) Q) : calW X σ (.builtin (mtId m)) (ov :: vs) H Q := by
  unfold mtV at h
  split at h
  · rename_i n x
    cases d with
    | cons d1 d2 =>
    cases d2
    split at h
    · rename_i ys hn
      split at h
      · rename_i hl
        obtain ⟨a, ws, rfl, ha, hF, h1, dl⟩ := atCell r do_ hn
        intro pins s us I rx
        cases rx with
        | cons r1 r2 =>
        refine mt_append pins s σ H _ _ _ _ Q I r1 r2 ⟨a, ws, _, rfl, rfl, h1, by rw [← dl.length]; exact hl, ?_⟩
        exact okG.put h r hn ha hF ⟨hF, _, upd_same, dl.append (.one d1)⟩ .non
      · exact h.elim
    · exact h.elim
  · rename_i n y
    cases d with
    | cons d1 d2 =>
    cases d2
    split at h
    · rename_i ys zs hn hz
      split at h
      · rename_i hl
        obtain ⟨a, ws, rfl, ha, hF, h1, dl⟩ := atCell r do_ hn
        obtain ⟨b, us', rfl, h2, dl2⟩ := lstOf_ok r d1 hz
        intro pins s us I rx
        cases rx with
        | cons r1 r2 =>
        refine mt_extend pins s σ H _ _ _ _ Q I r1 r2 ⟨a, b, ws, us', rfl, rfl, h1, h2, by rw [← dl.length, ← dl2.length]; exact hl, ?_⟩
        exact okG.put h r hn ha hF ⟨hF, _, upd_same, dl.append dl2⟩ .non
      · exact h.elim
    · exact h.elim
  · rename_i n i
    cases d with
    | cons d1 d2 =>
    cases d2; cases d1
    split at h
    · rename_i ys hn
      split at h
      · rename_i j hj
        split at h
        · rename_i x hx
          obtain ⟨a, ws, rfl, ha, hF, h1, dl⟩ := atCell r do_ hn
          rw [dl.length] at hj
          obtain ⟨q1, q2, q3, q4⟩ := ixN_seq hj
          obtain ⟨w, ew, dw⟩ := dl.get hx
          have hz : ws.length ≤ sizeLine → (ws.length : Int) < 2 ^ 63 := fun z => by have := line63; omega
          intro pins s us I rx
          have hs : ws.length ≤ sizeLine := (I.hok a _ h1).1
          have := hz hs
          cases rx with
          | cons r1 r2 =>
          refine mt_popAt pins s σ H _ _ _ _ Q I r1 r2 ⟨a, ws, i, j, w, rfl, rfl, h1, by omega, by omega, q1, ew, ?_⟩
          exact okG.put h r hn ha hF ⟨hF, _, upd_same, dl.eraseIdx j⟩ dw
        · exact h.elim
      · exact h.elim
    · exact h.elim
  · rename_i x
    cases d with
    | cons d1 d2 =>
    cases d2
    split at h
    · rename_i ys hs
      split at h
      · rename_i dd ds hd hds
        split at h
        · rename_i k hk
          obtain ⟨a, ws, rfl, h1, dl⟩ := lstOf_ok r do_ hs
          exact index_ok hu h1 (rdL_ok r _ dl hds) (rdD_ok r _ d1 hd) (rdL_plain _ hds) (rdD_plain _ hd) hk (okG.val h r (.int _))
        · exact h.elim
      · exact h.elim
    · exact h.elim
  · rename_i z y
    cases d with
    | cons d1 d2 =>
    cases d2; cases do_
    split at h
    · rename_i ys hs
      split at h
      · rename_i zs hz
        split at h
        · rename_i hl
          obtain ⟨a, ws, rfl, h1, dl⟩ := seqOf_ok r d1 hs
          have e := strsOf_ok dl hz
          subst e
          intro pins s us I rx
          cases rx with
          | cons r1 r2 =>
          refine mt_join pins s σ H _ _ _ _ Q I r1 r2 ⟨z, a, zs, rfl, rfl, h1.imp SqL.of id, by rw [Nat.mul_comm]; exact hl, ?_⟩
          have e2 : Txt.join z zs = Str.join z zs := StrLaws.glued_eq_join _ _
          rw [e2]
          exact okG.val h r (.str _)
        · exact h.elim
      · exact h.elim
    · exact h.elim
  · rename_i n
    cases d
    split at h
    · rename_i ys hn
      obtain ⟨a, ws, rfl, ha, hF, h1, dl⟩ := atCell r do_ hn
      intro pins s us I rx
      cases rx with
      | cons r1 r2 =>
      refine mt_reverse pins s σ H _ _ _ _ Q I r1 r2 ⟨a, ws, rfl, rfl, h1, ?_⟩
      exact okG.put h r hn ha hF ⟨hF, _, upd_same, dl.reverse⟩ .non
    · exact h.elim
  · exact h.elim
end
end Sv
end
section
set_option linter.all false
set_option maxRecDepth 100000
set_option maxHeartbeats 4000000
/-! SvSim: expressions do what the interpreter says. -/
namespace Sv
open PySem PySem.Spec PyProof.Rows L2

/-! ### the weakest readings -/
def tW (X : Cx) (e : Expr) : TE := fun σ H Q => ∀ (pins : List (Addr × Obj)) (s : Shared), Inv X pins σ H s → wpAny (model X.prog X.w) X.A (eval e X.env) (EP X pins σ Q) X.xe s
def tWT (X : Cx) (e : Expr) : TT := fun σ H Q => ∀ (pins : List (Addr × Obj)) (s : Shared), Inv X pins σ H s → wpAny (model X.prog X.w) X.A (isTrue e X.env (eval e X.env)) (TP X pins σ Q) X.xe s
def tWA (X : Cx) (es : List Expr) : TA := fun σ H Q => ∀ (pos : Pos) (pins : List (Addr × Obj)) (s : Shared), Inv X pins σ H s → wpAny (model X.prog X.w) X.A (spliced (backTo pos (starEach es X.env))) (AP X pins σ Q) X.xe s
theorem peW {X : Cx} {e : Expr} : PE X e (tW X e) := ⟨fun pins s σ H Q I h => h pins s I⟩
theorem ptW {X : Cx} {e : Expr} : PT X e (tWT X e) := ⟨fun pins s σ H Q I h => h pins s I⟩
theorem paW {X : Cx} {e : List Expr} : PA X e (tWA X e) := ⟨fun pos pins s σ H Q I h => h pos pins s I⟩
theorem tW_of {X : Cx} {e : Expr} {t : TE} {σ : L2.St} {H : Hp} {Q : VK} (h : PE X e t) (q : t σ H Q) : tW X e σ H Q := fun pins s I => h.run pins s σ H Q I q
theorem tWT_of {X : Cx} {e : Expr} {t : TT} {σ : L2.St} {H : Hp} {Q : Bool → Hp → Prop} (h : PT X e t) (q : t σ H Q) : tWT X e σ H Q := fun pins s I => h.run pins s σ H Q I q
theorem tWA_of {X : Cx} {e : List Expr} {t : TA} {σ : L2.St} {H : Hp} {Q : List V → Hp → Prop} (h : PA X e t) (q : t σ H Q) : tWA X e σ H Q := fun pos pins s I => h.run pos pins s σ H Q I q

/-- what a core expression promises of an expression -/
def SimE (X : Cx) (cl : Nat → Addr) (W : WX) (E : Ev) (c : C) (e : Expr) : Prop := ∀ (σ : L2.St) (H F : Hp) (cs : List Addr) (sl : Slt) (st : Stor) (Q : VK), RelH X.K cl F H cs st → SlOk X.K cl F cs sl σ →
  okG X.K cl (fun c d H' => W c d σ H') F H cs (kR X.K cl) (evE E c sl st) Q → tW X e σ H Q
def SimT (X : Cx) (cl : Nat → Addr) (W : WX) (E : Ev) (c : C) (e : Expr) : Prop := ∀ (σ : L2.St) (H F : Hp) (cs : List Addr) (sl : Slt) (st : Stor) (Q : Bool → Hp → Prop), RelH X.K cl F H cs st → SlOk X.K cl F cs sl σ →
  okG X.K cl (fun c d H' => W c d σ H') F H cs kB (evT E c sl st) Q → tWT X e σ H Q
def SimA (X : Cx) (cl : Nat → Addr) (W : WX) (E : Ev) (c : C) (e : List Expr) : Prop := ∀ (σ : L2.St) (H F : Hp) (cs : List Addr) (sl : Slt) (st : Stor) (Q : List V → Hp → Prop), RelH X.K cl F H cs st → SlOk X.K cl F cs sl σ →
  okG X.K cl (fun c d H' => W c d σ H') F H cs (kL X.K cl) (evA E c sl st) Q → tWA X e σ H Q

section
variable {X : Cx} {cl : Nat → Addr} {W : WX} {E : Ev}

theorem sim_no {c : C} {e : Expr} (h : ∀ sl st, evE E c sl st = .no) : SimE X cl W E c e := fun σ H F cs sl st Q r so ok => by rw [h] at ok; exact ok.elim

theorem sim_var {i : Nat} {x : Str} {pos : Pos} (hN : X.N[i]? = some x) (hv : Vis X.env.scope x) (hd : (x == ("__debug__" : Str)) = false) (hcd : (x == ("__classdict__" : Str)) = false) : SimE X cl W E (.var i) (.Name x pos) := fun σ H F cs sl st Q r so ok => by
  simp only [evE] at ok
  split at ok
  · rename_i t ht
    obtain ⟨v, h1, h2⟩ := so.2 i t ht
    exact tW_of (pe_var hN hv hd hcd) ⟨v, h1, okG.val ok r h2⟩
  · exact ok.elim
theorem sim_lit {c : Const} {k : Nat} {pos : Pos} : SimE X cl W E (cst c) (.Constant c k pos) := by
  intro σ H F cs sl st Q r so ok
  cases c with
  | none => exact tW_of pe_non (okG.val ok r .non)
  | bool b => exact tW_of pe_bl (okG.val ok r (.bl b))
  | int b => exact tW_of pe_int (okG.val ok r (.int b))
  | str b => exact tW_of pe_str (okG.val ok r (.str b))
  | _ => exact ok.elim
theorem sim_glo {x : Str} {v : V} {u : Value} {t : T} {pos : Pos} (hg : Gl X x) (hm : X.mg x = some u) (rv : RelV v u) (hd : (x == ("__debug__" : Str)) = false) (ht : E.G.glo x = some t) (d : ∀ F cs, Dn X.K cl F cs t v) : SimE X cl W E (.glo x) (.Name x pos) := fun σ H F cs sl st Q r so ok => by
  simp only [evE, ht] at ok
  exact tW_of (pe_glob hg hm rv hd) (okG.val ok r (d F cs))

theorem tW_bin {a b : Expr} {op : Operator} {pos : Pos} {σ : L2.St} {H : Hp} {Q : VK} (h : tW X a σ H fun x H1 => tW X b σ H1 fun y H2 => opW X σ (binaryOp op) x y H2 Q) : tW X (.BinOp a op b pos) σ H Q := fun pins s I =>
  wpAny_BinOp (binT peW peW I h fun v u s2 x y H2 I2 rx ry q => q pins s2 v u I2 rx ry)
theorem sim_bin {a b : Expr} {ca cb : C} {op : Operator} {pos : Pos} (ha : SimE X cl W E ca a) (hb : SimE X cl W E cb b) : SimE X cl W E (.bin op ca cb) (.BinOp a op b pos) := fun σ H F cs sl st Q r so ok => by
  have ok : okG X.K cl (fun c d H' => W c d σ H') F H cs (kR X.K cl) ((evE E ca sl st).bind fun x st => (evE E cb sl st).bind fun y st => binV op x.fz y.fz st) Q := by
    have e : evE E (.bin op ca cb) sl st = (evE E ca sl st).bind fun x st => (evE E cb sl st).bind fun y st => binV op x.fz y.fz st := by
      simp only [evE]
      congr 1
      funext x st
      cases x <;> rfl
    rw [e] at ok
    exact ok
  refine tW_bin (ha σ H F cs sl st _ r so (ok.bindF fun x st1 xv F1 H1 cs1 e1 r1 d1 ok1 => ?_))
  refine hb σ H1 F1 cs1 sl st1 _ r1 (so.ext e1) (ok1.bindF fun y st2 yv F2 H2 cs2 e2 r2 d2 ok2 => ?_)
  exact binV_ok r2 (d1.ext e2) d2 ok2
theorem sim_neg {a : Expr} {ca : C} {pos : Pos} (ha : SimE X cl W E ca a) : SimE X cl W E (.neg ca) (.UnaryOp .USub a pos) := fun σ H F cs sl st Q r so ok => by
  simp only [evE] at ok
  refine tW_of (pe_un un_neg peW) (ha σ H F cs sl st _ r so (ok.bind (k1 := kR X.K cl) fun x st1 xv F1 H1 cs1 e1 r1 d1 ok1 => ?_))
  split at ok1
  · cases d1
    exact ⟨_, rfl, okG.val ok1 r1 (.int _)⟩
  · exact ok1.elim

/-! ### tests -/
theorem simT_tru {e : Expr} {c : C} (h : SimE X cl W E c e) (he : ∀ whole, isTrue e X.env whole = (do let v ← whole; standAt e.pos; holding [v] (truthy v))) : SimT X cl W E (.tru c) e := fun σ H F cs sl st Q r so ok => by
  simp only [evT] at ok
  refine tWT_of (pt_truth peW he) (h σ H F cs sl st _ r so (ok.bindF fun x st1 xv F1 H1 cs1 e1 r1 d1 ok1 => ?_))
  cases ht : truV st1 x.fz with
  | none => rw [ht] at ok1; exact ok1.elim
  | some b =>
    rw [ht] at ok1
    exact ⟨b, truV_ok r1 d1 ht, ok1 b F1 H1 cs1 .refl r1 rfl⟩
theorem simT_not {a : Expr} {c : C} {pos : Pos} (h : SimT X cl W E c a) : SimT X cl W E (.nt c) (.UnaryOp .Not a pos) := fun σ H F cs sl st Q r so ok => by
  simp only [evT] at ok
  refine tWT_of (pt_not ptW) (h σ H F cs sl st _ r so (ok.bind (k1 := kB) fun b st1 b' F1 H1 cs1 e1 r1 d1 ok1 => ?_))
  cases (show b = b' from d1)
  exact ok1 (!b) F1 H1 cs1 .refl r1 rfl
theorem pwW {e : Expr} {t : TT} (h : ∀ (σ : L2.St) (H : Hp) (Q : Bool → Hp → Prop), t σ H Q → t σ H Q) : True := trivial
/-- and, or as tests: whatever the whole is -/
def tWW (X : Cx) (e : Expr) : TT := fun σ H Q => ∀ (whole : Sem Value) (pins : List (Addr × Obj)) (s : Shared), Inv X pins σ H s → wpAny (model X.prog X.w) X.A (isTrue e X.env whole) (TP X pins σ Q) X.xe s
theorem pwW' {e : Expr} : PW X e (tWW X e) := ⟨fun whole pins s σ H Q I h => h whole pins s I⟩
def SimW (X : Cx) (cl : Nat → Addr) (W : WX) (E : Ev) (c : C) (e : Expr) : Prop := ∀ (σ : L2.St) (H F : Hp) (cs : List Addr) (sl : Slt) (st : Stor) (Q : Bool → Hp → Prop), RelH X.K cl F H cs st → SlOk X.K cl F cs sl σ →
  okG X.K cl (fun c d H' => W c d σ H') F H cs kB (evT E c sl st) Q → tWW X e σ H Q
theorem tWW_of {e : Expr} {t : TT} {σ : L2.St} {H : Hp} {Q : Bool → Hp → Prop} (h : PW X e t) (q : t σ H Q) : tWW X e σ H Q := fun whole pins s I => h.run whole pins s σ H Q I q
theorem SimW.t {c : C} {e : Expr} (h : SimW X cl W E c e) : SimT X cl W E c e := fun σ H F cs sl st Q r so ok pins s I => h σ H F cs sl st Q r so ok _ pins s I
theorem simW_and1 {a : Expr} {c : C} {pos : Pos} (h : SimT X cl W E c a) : SimW X cl W E c (.BoolOp .And [a] pos) := fun σ H F cs sl st Q r so ok => tWW_of (pw_and1 ptW) (h σ H F cs sl st Q r so ok)
theorem simW_or1 {a : Expr} {c : C} {pos : Pos} (h : SimT X cl W E c a) : SimW X cl W E c (.BoolOp .Or [a] pos) := fun σ H F cs sl st Q r so ok => tWW_of (pw_or1 ptW) (h σ H F cs sl st Q r so ok)
theorem simW_and {a b : Expr} {ca cb : C} {rest : List Expr} {pos : Pos} (ha : SimT X cl W E ca a) (hb : SimW X cl W E cb (.BoolOp .And (b :: rest) pos)) : SimW X cl W E (.and ca cb) (.BoolOp .And (a :: b :: rest) pos) := fun σ H F cs sl st Q r so ok => by
  simp only [evT] at ok
  refine tWW_of (pw_and ptW pwW') (ha σ H F cs sl st _ r so (ok.bind (k1 := kB) fun k st1 k' F1 H1 cs1 e1 r1 d1 ok1 => ?_))
  cases (show k = k' from d1)
  cases k with
  | true => exact iteT (hb σ H1 F1 cs1 sl st1 Q r1 (so.ext e1) ok1)
  | false => exact iteF (ok1 false F1 H1 cs1 .refl r1 rfl)
theorem simW_or {a b : Expr} {ca cb : C} {rest : List Expr} {pos : Pos} (ha : SimT X cl W E ca a) (hb : SimW X cl W E cb (.BoolOp .Or (b :: rest) pos)) : SimW X cl W E (.or ca cb) (.BoolOp .Or (a :: b :: rest) pos) := fun σ H F cs sl st Q r so ok => by
  simp only [evT] at ok
  refine tWW_of (pw_or ptW pwW') (ha σ H F cs sl st _ r so (ok.bind (k1 := kB) fun k st1 k' F1 H1 cs1 e1 r1 d1 ok1 => ?_))
  cases (show k = k' from d1)
  cases k with
  | true => exact iteT (ok1 true F1 H1 cs1 .refl r1 rfl)
  | false => exact iteF (hb σ H1 F1 cs1 sl st1 Q r1 (so.ext e1) ok1)

/-! ### and, or, not as values -/
theorem sim_one {op : BoolOp} {a : Expr} {c : C} {pos : Pos} (h : SimE X cl W E c a) : SimE X cl W E c (.BoolOp op [a] pos) := fun σ H F cs sl st Q r so ok => tW_of (pe_one peW) (h σ H F cs sl st Q r so ok)
theorem sim_and {a b : Expr} {ca cb : C} {rest : List Expr} {pos : Pos} (ha : SimE X cl W E ca a) (hb : SimE X cl W E cb (.BoolOp .And (b :: rest) pos)) : SimE X cl W E (.and ca cb) (.BoolOp .And (a :: b :: rest) pos) := fun σ H F cs sl st Q r so ok => by
  simp only [evE] at ok
  refine tW_of (pe_and peW peW) (ha σ H F cs sl st _ r so (ok.bind (k1 := kR X.K cl) fun x st1 xv F1 H1 cs1 e1 r1 d1 ok1 => ?_))
  split at ok1
  · rename_i c
    cases d1
    refine ⟨c, rfl, ?_⟩
    cases c with
    | true => exact iteT (hb σ H1 F1 cs1 sl st1 Q r1 (so.ext e1) ok1)
    | false => exact iteF (okG.val ok1 r1 (.bl _))
  · exact ok1.elim
theorem sim_nt {a : Expr} {c : C} {pos : Pos} (h : SimE X cl W E c a) : SimE X cl W E (.nt c) (.UnaryOp .Not a pos) := fun σ H F cs sl st Q r so ok => by
  simp only [evE] at ok
  refine tW_of (pe_notT peW) (h σ H F cs sl st _ r so (ok.bindF fun x st1 xv F1 H1 cs1 e1 r1 d1 ok1 => ?_))
  cases ht : truV st1 x.fz with
  | none => rw [ht] at ok1; exact ok1.elim
  | some b =>
    rw [ht] at ok1
    exact ⟨b, truV_ok r1 d1 ht, okG.val ok1 r1 (.bl _)⟩
theorem sim_or {a b : Expr} {ca cb : C} {rest : List Expr} {pos : Pos} (ha : SimE X cl W E ca a) (hb : SimE X cl W E cb (.BoolOp .Or (b :: rest) pos)) : SimE X cl W E (.or ca cb) (.BoolOp .Or (a :: b :: rest) pos) := fun σ H F cs sl st Q r so ok => by
  simp only [evE] at ok
  refine tW_of (pe_orT peW peW) (ha σ H F cs sl st _ r so (ok.bind0 (k1 := kR X.K cl) fun x st1 xv F1 H1 cs1 e1 r1 d1 ok1 => ?_))
  split at ok1
  · rename_i c
    cases d1
    refine ⟨c, rfl, ?_⟩
    cases c with
    | true => exact iteT (okG.val (okG.rebase e1 ok1) r1 (.bl _))
    | false => exact iteF (hb σ H1 F1 cs1 sl st1 Q r1 (so.ext e1) (okG.rebase e1 ok1))
  · rename_i xs
    obtain ⟨ng, a', rfl, h0, hc, hF, vs, ha', dl⟩ := d1
    refine ⟨!xs.isEmpty, .inl ⟨vs, SqL.of ha', ?_⟩, ?_⟩
    · cases dl <;> rfl
    · cases he : xs.isEmpty with
      | true =>
        rw [he] at ok1
        exact iteF (hb σ H1 F1 cs1 sl st1 Q r1 (so.ext e1) (okG.rebase e1 ok1))
      | false =>
        rw [he] at ok1
        exact iteT (ok1 (.ref a') F1 H1 cs1 e1 r1 ⟨ng, a', rfl, h0, hc, hF, vs, ha', dl⟩)
  · exact ok1.elim
theorem sim_ite {c a b : Expr} {cc ca cb : C} {pos : Pos} (hc : SimT X cl W E cc c) (ha : SimE X cl W E ca a) (hb : SimE X cl W E cb b) : SimE X cl W E (.ite cc ca cb) (.IfExp c a b pos) := fun σ H F cs sl st Q r so ok => by
  simp only [evE] at ok
  refine tW_of (pe_ifExp ptW peW peW) (hc σ H F cs sl st _ r so (ok.bind (k1 := kB) fun k st1 k' F1 H1 cs1 e1 r1 d1 ok1 => ?_))
  cases (show k = k' from d1)
  cases k with
  | true => exact iteT (ha σ H1 F1 cs1 sl st1 Q r1 (so.ext e1) ok1)
  | false => exact iteF (hb σ H1 F1 cs1 sl st1 Q r1 (so.ext e1) ok1)

/-! ### comparisons -/
theorem cmpV_ok {op : CmpOp} {x y : T} {xv yv : V} {σ : L2.St} {Wx : XK} {F H : Hp} {cs : List Addr} {st : Stor} {Q : VK} (hu : X.A.units + 64 < cLine) (r : RelH X.K cl F H cs st) (dx : Dn X.K cl F cs x xv) (dy : Dn X.K cl F cs y yv)
    (h : okG X.K cl Wx F H cs (kR X.K cl) (cmpV E op x y st) Q) : opW X σ (compareOp op) xv yv H Q := by
  have fin : ∀ {o : Option Bool}, okG X.K cl Wx F H cs (kR X.K cl) (ofB st o) Q → ∃ b, o = some b ∧ Q (.bl b) H := fun {o} h => by
    cases o with
    | none => exact h.elim
    | some b => exact ⟨b, rfl, okG.val h r (.bl b)⟩
  unfold cmpV at h
  split at h
  · cases dx; cases dy; exact opW_of op_lt ⟨_, _, rfl, rfl, okG.val h r (.bl _)⟩
  · cases dx; cases dy; exact opW_of op_le ⟨_, _, rfl, rfl, okG.val h r (.bl _)⟩
  · cases dx; cases dy; exact opW_of op_gt ⟨_, _, rfl, rfl, okG.val h r (.bl _)⟩
  · cases dx; cases dy; exact opW_of op_ge ⟨_, _, rfl, rfl, okG.val h r (.bl _)⟩
  · obtain ⟨b, e, q⟩ := fin h
    exact ordT_ok hu r dx dy e q fun h1 h2 h3 h4 h5 h6 => PySem.W.lt_data h1 h2 h3 h4 h5 h6
  · obtain ⟨b, e, q⟩ := fin h
    exact ordT_ok hu r dx dy e q fun h1 h2 h3 h4 h5 h6 => PySem.W.le_data h1 h2 h3 h4 h5 h6
  · obtain ⟨b, e, q⟩ := fin h
    exact ordT_ok hu r dx dy e q fun h1 h2 h3 h4 h5 h6 => PySem.W.gt_data h1 h2 h3 h4 h5 h6
  · obtain ⟨b, e, q⟩ := fin h
    exact ordT_ok hu r dx dy e q fun h1 h2 h3 h4 h5 h6 => PySem.W.ge_data h1 h2 h3 h4 h5 h6
  · obtain ⟨b, e, q⟩ := fin h
    exact eqT_ok hu r dx dy e q
  · obtain ⟨b, e, q⟩ := fin h
    cases he : eqT st x y with
    | none => rw [he] at e; cases e
    | some b' => rw [he] at e; cases e; exact neT_ok hu r dx dy he q
  · obtain ⟨b, e, q⟩ := fin h
    exact inD_ok hu r dx dy e q
  · obtain ⟨b, e, q⟩ := fin h
    cases he : inD st x y with
    | none => rw [he] at e; cases e
    | some b' => rw [he] at e; cases e; exact notInD_ok hu r dx dy he q
  · cases dx; cases dy
    exact opW_of op_isN ⟨rfl, okG.val h r (.bl _)⟩
  · rename_i hne
    cases dy
    have e : decide (xv = V.non) = false := by
      cases dx <;> first | rfl | exact absurd rfl hne | exact absurd rfl (hne rfl)
    exact opW_of op_isN ⟨rfl, by rw [e]; exact okG.val h r (.bl _)⟩
  · cases dx; cases dy
    exact opW_of op_notN ⟨rfl, okG.val h r (.bl _)⟩
  · rename_i hne
    cases dy
    have e : decide (xv = V.non) = false := by
      cases dx <;> first | rfl | exact absurd rfl hne | exact absurd rfl (hne rfl)
    exact opW_of op_notN ⟨rfl, by rw [e]; exact okG.val h r (.bl _)⟩
  · exact h.elim
theorem tW_cmp1 {a b : Expr} {op : CmpOp} {pos : Pos} {σ : L2.St} {H : Hp} {Q : VK} (hm : behindInMarks op b = false) (h : tW X a σ H fun x H1 => tW X b σ H1 fun y H2 => opW X σ (compareOp op) x y H2 Q) : tW X (.Compare a [op] [b] pos) σ H Q := fun pins s I =>
  wpAny_Compare1 (binT peW peW I h fun v u s2 x y H2 I2 rx ry q => q pins s2 v u I2 rx ry) hm
theorem tru_at {v : Value} {x : V} {pins : List (Addr × Obj)} {σ : L2.St} {H : Hp} {s : Shared} {Q : Bool → Hp → Prop} (I : Inv X pins σ H s) (r : RelV x v) (h : ∃ k, TruV X.K x H k ∧ Q k H) : wpAny (model X.prog X.w) X.A (truthy v) (TP X pins σ Q) X.xe s := tru_ok pins s σ H x v Q I r h
theorem tWT_cmp1 {a b : Expr} {op : CmpOp} {pos : Pos} {σ : L2.St} {H : Hp} {Q : Bool → Hp → Prop} (hm : behindInMarks op b = false) (h : tW X a σ H fun x H1 => tW X b σ H1 fun y H2 => opW X σ (compareOp op) x y H2 fun z H3 => ∃ k, TruV X.K z H3 k ∧ Q k H3) : tWT X (.Compare a [op] [b] pos) σ H Q := fun pins s I =>
  wpAny_isTrue_Compare1 (thn (h pins s I) fun v s1 ⟨x, H1, I1, r1, q1⟩ => thn (q1 pins s1 I1) fun u s2 ⟨y, H2, I2, r2, q2⟩ =>
    thn (q2 pins s2 v u I2 r1 r2) fun c s3 ⟨z, H3, I3, r3, q3⟩ => tru_at I3 r3 q3) hm
theorem Rs.bind_assoc {α β γ : Type} (m : Rs α) (f : α → Stor → Rs β) (g : β → Stor → Rs γ) : (m.bind f).bind g = m.bind fun a st => (f a st).bind g := by cases m <;> rfl
/-- a value as a test -/
theorem okG.tru {F H : Hp} {cs : List Addr} {m : Rs R} {Q : Bool → Hp → Prop} {Wx : XK} (h : okG X.K cl Wx F H cs kB (m.bind fun x st => ofO st (truV st x.fz)) Q) :
    okG X.K cl Wx F H cs (kR X.K cl) m fun z H3 => ∃ k, TruV X.K z H3 k ∧ Q k H3 := h.bindF fun x st1 xv F1 H1 cs1 e1 r1 d1 ok1 => by
  cases ht : truV st1 x.fz with
  | none => rw [ht] at ok1; exact ok1.elim
  | some b =>
    rw [ht] at ok1
    exact ⟨b, truV_ok r1 d1 ht, ok1 b F1 H1 cs1 .refl r1 rfl⟩
theorem sim_cmp {a b : Expr} {ca cb : C} {op : CmpOp} {pos : Pos} (hu : X.A.units + 64 < cLine) (hm : behindInMarks op b = false) (ha : SimE X cl W E ca a) (hb : SimE X cl W E cb b) : SimE X cl W E (.cmp op ca cb) (.Compare a [op] [b] pos) := fun σ H F cs sl st Q r so ok => by
  simp only [evE] at ok
  refine tW_cmp1 hm (ha σ H F cs sl st _ r so (ok.bindF fun x st1 xv F1 H1 cs1 e1 r1 d1 ok1 => ?_))
  refine hb σ H1 F1 cs1 sl st1 _ r1 (so.ext e1) (ok1.bindF fun y st2 yv F2 H2 cs2 e2 r2 d2 ok2 => ?_)
  exact cmpV_ok hu r2 (d1.ext e2) d2 ok2
theorem simT_cmp {a b : Expr} {ca cb : C} {op : CmpOp} {pos : Pos} (hu : X.A.units + 64 < cLine) (hm : behindInMarks op b = false) (ha : SimE X cl W E ca a) (hb : SimE X cl W E cb b) : SimT X cl W E (.tru (.cmp op ca cb)) (.Compare a [op] [b] pos) := fun σ H F cs sl st Q r so ok => by
  simp only [evT, evE, Rs.bind_assoc] at ok
  refine tWT_cmp1 hm (ha σ H F cs sl st _ r so (ok.bindF fun x st1 xv F1 H1 cs1 e1 r1 d1 ok1 => ?_))
  refine hb σ H1 F1 cs1 sl st1 _ r1 (so.ext e1) (ok1.bindF fun y st2 yv F2 H2 cs2 e2 r2 d2 ok2 => ?_)
  exact cmpV_ok hu r2 (d1.ext e2) d2 ok2.tru
/-- a op1 b op2 c -/
theorem tW_chain {a b c : Expr} {op op' : CmpOp} {pos : Pos} {σ : L2.St} {H : Hp} {Q : VK} (hm : lastMarks [op, op'] [b, c] = false)
    (h : tW X a σ H fun x H1 => tW X b σ H1 fun y H2 => opW X σ (compareOp op) x y H2 fun z H3 => ∃ k, z = .bl k ∧ if k = true then tW X c σ H3 fun w' H4 => opW X σ (compareOp op') y w' H4 Q else Q (.bl false) H3) : tW X (.Compare a [op, op'] [b, c] pos) σ H Q := fun pins s I => by
  refine Compare_chain (thn (h pins s I) fun v s1 ⟨x, H1, I1, r1, q1⟩ => chain_link (thn (q1 pins s1 I1) fun u s2 ⟨y, H2, I2, r2, q2⟩ =>
    thn (q2 pins s2 v u I2 r1 r2) fun d s3 ⟨z, H3, I3, r3, k, e, q3⟩ => ?_)) hm
  subst e
  cases r3
  refine wpAny_truthy_bool ?_
  cases k with
  | false => exact ite_ff ⟨.bl false, H3, I3, rfl, q3⟩
  | true => exact ite_tt (chain_last (thn (q3 pins s3 I3) fun w' s4 ⟨z', H4, I4, r4, q4⟩ => q4 pins s4 u w' I4 r2 r4))
theorem tWT_chain {a b c : Expr} {op op' : CmpOp} {pos : Pos} {σ : L2.St} {H : Hp} {Q : Bool → Hp → Prop} (hm : lastMarks [op, op'] [b, c] = false)
    (h : tW X a σ H fun x H1 => tW X b σ H1 fun y H2 => opW X σ (compareOp op) x y H2 fun z H3 => ∃ k, z = .bl k ∧ if k = true then tW X c σ H3 fun w' H4 => opW X σ (compareOp op') y w' H4 fun z H3 => ∃ k, TruV X.K z H3 k ∧ Q k H3 else Q false H3) : tWT X (.Compare a [op, op'] [b, c] pos) σ H Q := fun pins s I => by
  refine isTrue_chain (thn (h pins s I) fun v s1 ⟨x, H1, I1, r1, q1⟩ => test_link (thn (q1 pins s1 I1) fun u s2 ⟨y, H2, I2, r2, q2⟩ =>
    thn (q2 pins s2 v u I2 r1 r2) fun d s3 ⟨z, H3, I3, r3, k, e, q3⟩ => ?_)) hm
  subst e
  cases r3
  refine wpAny_truthy_bool ?_
  cases k with
  | false => exact ite_ff ⟨H3, I3, q3⟩
  | true => exact ite_tt (test_last (thn (q3 pins s3 I3) fun w' s4 ⟨z', H4, I4, r4, q4⟩ => thn (q4 pins s4 u w' I4 r2 r4) fun d5 s5 ⟨z5, H5, I5, r5, q5⟩ => tru_at I5 r5 q5))
theorem sim_chain {a b c : Expr} {ca cb cc : C} {op op' : CmpOp} {pos : Pos} (hu : X.A.units + 64 < cLine) (hm : behindInMarks op' c = false) (ha : SimE X cl W E ca a) (hb : SimE X cl W E cb b) (hc : SimE X cl W E cc c) : SimE X cl W E (.chain op op' ca cb cc) (.Compare a [op, op'] [b, c] pos) := fun σ H F cs sl st Q r so ok => by
  simp only [evE] at ok
  refine tW_chain hm (ha σ H F cs sl st _ r so (ok.bindF fun x st1 xv F1 H1 cs1 e1 r1 d1 ok1 => ?_))
  refine hb σ H1 F1 cs1 sl st1 _ r1 (so.ext e1) (ok1.bindF fun y st2 yv F2 H2 cs2 e2 r2 d2 ok2 => ?_)
  refine cmpV_ok hu r2 (d1.ext e2) d2 (ok2.bind (k1 := kR X.K cl) fun z st3 zv F3 H3 cs3 e3 r3 d3 ok3 => ?_)
  split at ok3
  · rename_i k
    cases d3
    refine ⟨k, rfl, ?_⟩
    cases k with
    | true =>
      refine iteT (hc σ H3 F3 cs3 sl st3 _ r3 ((so.ext e1).ext e2 |>.ext e3) (ok3.bindF fun w st4 wv F4 H4 cs4 e4 r4 d4 ok4 => ?_))
      exact cmpV_ok hu r4 ((d2.ext e3).ext e4) d4 ok4
    | false => exact iteF (okG.val ok3 r3 (.bl _))
  · exact ok3.elim
theorem simT_chain {a b c : Expr} {ca cb cc : C} {op op' : CmpOp} {pos : Pos} (hu : X.A.units + 64 < cLine) (hm : behindInMarks op' c = false) (ha : SimE X cl W E ca a) (hb : SimE X cl W E cb b) (hc : SimE X cl W E cc c) : SimT X cl W E (.tru (.chain op op' ca cb cc)) (.Compare a [op, op'] [b, c] pos) := fun σ H F cs sl st Q r so ok => by
  simp only [evT, evE, Rs.bind_assoc] at ok
  refine tWT_chain hm (ha σ H F cs sl st _ r so (ok.bindF fun x st1 xv F1 H1 cs1 e1 r1 d1 ok1 => ?_))
  refine hb σ H1 F1 cs1 sl st1 _ r1 (so.ext e1) (ok1.bindF fun y st2 yv F2 H2 cs2 e2 r2 d2 ok2 => ?_)
  refine cmpV_ok hu r2 (d1.ext e2) d2 (ok2.bind (k1 := kR X.K cl) fun z st3 zv F3 H3 cs3 e3 r3 d3 ok3 => ?_)
  split at ok3
  · rename_i k
    cases d3
    refine ⟨k, rfl, ?_⟩
    cases k with
    | true =>
      simp only [if_true, Rs.bind_assoc] at ok3
      refine iteT (hc σ H3 F3 cs3 sl st3 _ r3 ((so.ext e1).ext e2 |>.ext e3) (ok3.bindF fun w st4 wv F4 H4 cs4 e4 r4 d4 ok4 => ?_))
      exact cmpV_ok hu r4 ((d2.ext e3).ext e4) d4 ok4.tru
    | false => exact iteF (ok3 false F3 H3 cs3 .refl r3 rfl)
  · exact ok3.elim

/-! ### argument lists, displays -/
theorem simA_nil : SimA X cl W E .nil [] := fun σ H F cs sl st Q r so ok => tWA_of pa_nil (ok [] F H cs .refl r .nil)
theorem simA_cons {e : Expr} {es : List Expr} {c r : C} (hs : starEach (e :: es) X.env = (false, eval e X.env) :: starEach es X.env) (h : SimE X cl W E c e) (hr : SimA X cl W E r es) : SimA X cl W E (.cons c r) (e :: es) := fun σ H F cs sl st Q rr so ok => by
  simp only [evA] at ok
  refine tWA_of (pa_cons peW paW hs) (h σ H F cs sl st _ rr so (ok.bindF fun x st1 xv F1 H1 cs1 e1 r1 d1 ok1 => ?_))
  refine hr σ H1 F1 cs1 sl st1 _ r1 (so.ext e1) (ok1.bind (k1 := kL X.K cl) fun xs st2 vs F2 H2 cs2 e2 r2 d2 ok2 => ?_)
  exact ok2 _ F2 H2 cs2 .refl r2 (.cons (d1.ext e2) d2)
/-- *xs: the items of a list, a tuple -/
theorem star_at {a : Addr} {vs : List V} {pins : List (Addr × Obj)} {σ : L2.St} {H : Hp} {s : Shared} {Q : List Value → Shared → Prop} {E' : Value → Shared → Prop} (I : Inv X pins σ H s) (hq : H a = some (.lst vs) ∨ SqT X.K H a vs)
    (h : ∀ us s', Inv X pins σ H s' → Vals vs us → Q us s') : PySem.W.StarOf (model X.prog X.w) X.A E' (.ref a) Q s := by
  have key : ∀ {T : String} {o : Obj} {its : Array Value} {n : Nat}, (T = "list" ∨ T = "tuple") → s.heap.get? a = some o → o.cls = .type T → o.data = .seq its n → its.size ≤ sizeLine → Vals vs its.toList → PySem.W.StarOf (model X.prog X.w) X.A E' (.ref a) Q s := by
    intro T o its n hT D hc hd hz rv
    have hT' : s.TypeIs (.ref a) T := ⟨o, D, hc⟩
    have z : wpAny (model X.prog X.w) X.A (collect (.ref a)) Q E' s := by
      refine wpAny_collect_seq a hT D hc hd (fun h' hk => ?_) hz
      exact h _ _ (I.kept (t' := s.toks) hk) rv
    unfold PySem.W.StarOf notIterableAtAll
    rcases hT with rfl | rfl
    · exact wpAny_bind (wpAny_specialOf hT' PySem.F.slot_list_iter.lookup (wpAny_pure ⟨rfl, z⟩))
    · exact wpAny_bind (wpAny_specialOf hT' PySem.F.slot_tuple_iter.lookup (wpAny_pure ⟨rfl, z⟩))
  rcases hq with hq | hq
  · obtain ⟨hz, its, n, rv, ho⟩ := I.hok a _ hq
    exact key (.inl rfl) ho rfl rfl (by rw [List.size_toArray, ← rv.length]; exact hz) (by simpa using rv)
  · obtain ⟨its, rv, ⟨o, ho, hc, n, hd⟩, hz⟩ := I.tuple hq
    exact key (.inr rfl) ho hc hd (by rw [List.size_toArray, ← rv.length]; exact hz) (by simpa using rv)
theorem simA_star {e : Expr} {p : Pos} {es : List Expr} {c r : C} (h : SimE X cl W E c e) (hr : SimA X cl W E r es) : SimA X cl W E (.star c r) (.Starred e p :: es) := fun σ H F cs sl st Q rr so ok => by
  simp only [evA] at ok
  intro pos pins s I
  refine PySem.W.items_star (thn (h σ H F cs sl st (fun x H1 => ∃ a vs, x = .ref a ∧ (H1 a = some (.lst vs) ∨ SqT X.K H1 a vs) ∧ tWA X es σ H1 fun ws H2 => Q (vs ++ ws) H2) rr so (ok.bindF fun x st1 xv F1 H1 cs1 e1 r1 d1 ok1 => ?_) pins s I) fun v s1 ⟨x, H1, I1, rx, a, vs, ex, hq, q⟩ => ?_) rfl
  · cases hs : seqOf st1 x.fz with
    | none => rw [hs] at ok1; exact ok1.elim
    | some ys =>
      rw [hs] at ok1
      obtain ⟨a, vs, rfl, hq, dl⟩ := seqOf_ok r1 d1 hs
      refine ⟨a, vs, rfl, hq, ?_⟩
      refine hr σ H1 F1 cs1 sl st1 _ r1 (so.ext e1) (ok1.bind (k1 := kL X.K cl) fun xs st2 ws F2 H2 cs2 e2 r2 d2 ok2 => ?_)
      exact ok2 _ F2 H2 cs2 .refl r2 ((dl.ext e2).append d2)
  · subst ex
    obtain rfl : v = Value.ref a := rx
    refine star_at I1 hq fun us s2 I2 rv => ?_
    exact thn (q pos pins s2 I2) fun us' s3 ⟨ws, H3, I3, r3, q3⟩ => ⟨vs ++ ws, H3, I3, rv.append r3, q3⟩
theorem sim_tup {es : List Expr} {c : C} {k : Nat} {pos : Pos} (h : SimA X cl W E c es) : SimE X cl W E (.tup c) (.Tuple es k pos) := fun σ H F cs sl st Q r so ok => by
  simp only [evE] at ok
  refine tW_of (pe_tup paW) (h σ H F cs sl st _ r so (ok.bind (k1 := kL X.K cl) fun xs st1 vs F1 H1 cs1 e1 r1 d1 ok1 => ?_))
  split at ok1
  · rename_i hl
    exact ⟨by rw [← d1.length]; exact hl, okG.newT ok1 r1 d1⟩
  · exact ok1.elim
theorem sim_lst {es : List Expr} {c : C} {pos : Pos} (h : SimA X cl W E c es) : SimE X cl W E (.lst c) (.List es pos) := fun σ H F cs sl st Q r so ok => by
  simp only [evE] at ok
  refine tW_of (pe_lst paW) (h σ H F cs sl st _ r so (ok.bind (k1 := kL X.K cl) fun xs st1 vs F1 H1 cs1 e1 r1 d1 ok1 => ?_))
  split at ok1
  · rename_i hl
    exact ⟨by rw [← d1.length]; exact hl, okG.newL ok1 r1 d1⟩
  · exact ok1.elim
/-- what is made becomes a cell -/
theorem sim_cel {e : Expr} {c : C} (h : SimE X cl W E c e) : SimE X cl W E (.cel c) e := fun σ H F cs sl st Q r so ok => by
  simp only [evE] at ok
  refine h σ H F cs sl st Q r so (ok.bind0 (k1 := kR X.K cl) fun x st1 xv F1 H1 cs1 e1 r1 d1 ok1 => ?_)
  cases x with
  | val t => exact ok1.elim
  | new cc =>
    obtain ⟨ng, a, rfl, h0, hc, ca⟩ := d1
    have hup : ∀ (n : Nat) (b : Addr), cs1[n]? = some b → (cs1 ++ [a])[n]? = some b := fun n b hb => by
      rw [List.getElem?_append_left (List.getElem?_eq_some_iff.mp hb).1]; exact hb
    refine ok1 (.ref a) F1 H1 (cs1 ++ [a]) ⟨e1.fz, fun n b hb => hup n b (e1.cx n b hb), fun b o h1 h2 h3 => ?_, e1.dom⟩ ⟨r1.fz, by simp [r1.len], ?_, fun n c2 b hn hb => ?_⟩ (.cell ?_)
    · obtain ⟨q1, q2, q3⟩ := e1.kp b o h1 h2 h3
      refine ⟨q1, q2, fun hm => ?_⟩
      rcases List.mem_append.mp hm with hm | hm
      · exact q3 hm
      · rw [List.mem_singleton.mp hm, h0] at h1; cases h1
    · rw [List.nodup_append]
      refine ⟨r1.nd, by simp, fun x hx y hy => ?_⟩
      rw [List.mem_singleton.mp hy]
      exact fun z => hc (z ▸ hx)
    · by_cases hl : n < cs1.length
      · have hl2 : n < st1.length := by rw [← r1.len]; exact hl
        rw [List.getElem?_append_left hl2] at hn
        rw [List.getElem?_append_left hl] at hb
        exact (r1.cell n c2 b hn hb).up .refl hup rfl (fun h => h)
      · have hl2 : ¬ n < st1.length := by rw [← r1.len]; exact hl
        rw [List.getElem?_append_right (by omega)] at hn hb
        have e1 : n - st1.length = 0 := by
          have := (List.getElem?_eq_some_iff.mp hn).1
          simp at this
          omega
        have e2 : n - cs1.length = 0 := by rw [r1.len]; exact e1
        rw [e1] at hn
        rw [e2] at hb
        cases hn; cases hb
        exact ca.up .refl hup rfl (fun h => h)
    · rw [List.getElem?_append_right (by rw [r1.len]; exact Nat.le_refl _), r1.len]
      simp
end
end Sv
end
section
set_option linter.all false
set_option maxRecDepth 100000
set_option maxHeartbeats 4000000
/-! SvSim2: items, slices, built-in calls and methods. -/
namespace Sv
open PySem PySem.Spec PyProof.Rows L2

theorem noStar_cons {e : Expr} {es : List Expr} (h : noStar (e :: es) = true) : isStar e = false ∧ noStar es = true := by
  unfold noStar at h ⊢
  rw [List.all_cons, Bool.and_eq_true] at h
  exact ⟨by simpa using h.1, h.2⟩
theorem starEach_cons {e : Expr} {es : List Expr} {env : Env} (h : isStar e = false) : starEach (e :: es) env = (false, eval e env) :: starEach es env := by
  cases e <;> first | rfl | (simp [isStar] at h)
theorem noStar_any {pos : Pos} {env : Env} : ∀ {es : List Expr}, noStar es = true → (backTo pos (starEach es env)).any (·.1) = false
  | [], _ => rfl
  | e :: es, h => by
    obtain ⟨h1, h2⟩ := noStar_cons h
    rw [starEach_cons h1]
    show (false || (backTo pos (starEach es env)).any (·.1)) = false
    rw [noStar_any h2]; rfl
theorem noStar_all {pos : Pos} {env : Env} : ∀ {es : List Expr}, noStar es = true → (backTo pos (starEach es env)).all (fun x => !x.1) = true
  | [], _ => rfl
  | e :: es, h => by
    obtain ⟨h1, h2⟩ := noStar_cons h
    rw [starEach_cons h1]
    show (true && (backTo pos (starEach es env)).all (fun x => !x.1)) = true
    rw [noStar_all h2]; rfl
theorem base_ok {o : Expr} {f : Str} {env : Env} {w : Sem Value} (h : baseOk o = true) : attributeBase o f env w = w := by
  unfold attributeBase
  split
  · simp [baseOk] at h
  · rfl
theorem ix_plain {i : Expr} (h : ∀ a b c p, i ≠ .Slice a b c p) : PlainIx i := by
  intro o v
  cases i <;> first | rfl | exact absurd rfl (h _ _ _ _)

section
variable {X : Cx} {cl : Nat → Addr} {W : WX} {E : Ev}
theorem sim_idx {o i : Expr} {co ci : C} {pos : Pos} (hu : X.A.units + 64 < cLine) (hi : ∀ a b c p, i ≠ .Slice a b c p) (ho : SimE X cl W E co o) (h2 : SimE X cl W E ci i) : SimE X cl W E (.idx co ci) (.Subscript o i pos) := fun σ H F cs sl st Q r so ok => by
  simp only [evE] at ok
  have key : tW X o σ H fun x H1 => tW X i σ H1 fun y H2 => ixW X σ x y H2 Q := by
    refine ho σ H F cs sl st _ r so (ok.bindF fun x st1 xv F1 H1 cs1 e1 r1 d1 ok1 => ?_)
    refine h2 σ H1 F1 cs1 sl st1 _ r1 (so.ext e1) (ok1.bindF fun y st2 yv F2 H2 cs2 e2 r2 d2 ok2 => ?_)
    have d1 := d1.ext e2
    unfold idxV at ok2
    split at ok2
    · rename_i xs hs
      split at ok2
      · rename_i k hk
        split at ok2
        · rename_i t ht
          have hd : yv = .int k := by rw [hk] at d2; cases d2; rfl
          rw [hd]
          exact idxSeq_ok r2 d1 hs ht fun v dv => okG.val ok2 r2 dv
        · exact ok2.elim
      · exact ok2.elim
    · split at ok2
      · rename_i kvs hs
        split at ok2
        · rename_i k hk
          split at ok2
          · rename_i t ht
            exact idxDic_ok hu r2 d1 d2 hs hk ht fun v dv => okG.val ok2 r2 dv
          · exact ok2.elim
        · exact ok2.elim
      · split at ok2
        · rename_i z k hx hy
          split at ok2
          · rename_i hl
            split at ok2
            · rename_i c hc
              have e1 : xv = .str z := by rw [hx] at d1; cases d1; rfl
              have e2 : yv = .int k := by rw [hy] at d2; cases d2; rfl
              rw [e1, e2]
              exact idxStr_ok hl hc (okG.val ok2 r2 (.str _))
            · exact ok2.elim
          · exact ok2.elim
        · exact ok2.elim
  exact fun pins s I => Subscript_ (binT peW peW I key fun v u s2 x y H2 I2 rx ry q => q o i pins s2 v u I2 rx ry (ix_plain hi _ _))

/-! ### slices -/
def SimP (X : Cx) (cl : Nat → Addr) (W : WX) (E : Ev) (c : C) (e : Option Expr) : Prop := match e with
  | none => c = .lit .non
  | some e => SimE X cl W E c e
theorem part_ok {t : T} {v : V} {u : Value} {F : Hp} {cs : List Addr} {o : Option Int} (d : Dn X.K cl F cs t v) (h : partOf t = some o) (r : RelV v u) : IsPart u o := by
  cases t <;> simp only [partOf] at h <;> try (cases h; done)
  · cases h; cases d; cases r; exact .none
  · cases h; cases d; obtain ⟨t, rfl⟩ := r; exact .int _ t
theorem sim_slc {o : Expr} {lo hi : Option Expr} {co cl' ch : C} {p2 pos : Pos} (ho : SimE X cl W E co o) (hl : SimP X cl W E cl' lo) (hh : SimP X cl W E ch hi) : SimE X cl W E (.slc co cl' ch) (.Subscript o (.Slice lo hi none p2) pos) := fun σ H F cs sl st Q r so ok => by
  simp only [evE] at ok
  have part : ∀ {e : Option Expr} {c : C}, SimP X cl W E c e → ∀ (H F : Hp) (cs : List Addr) (st : Stor) (Q : V → Hp → Prop), RelH X.K cl F H cs st → SlOk X.K cl F cs sl σ →
      okG X.K cl (fun c d H' => W c d σ H') F H cs (kR X.K cl) (evE E c sl st) Q → ∀ pins s, Inv X pins σ H s → wpAny (model X.prog X.w) X.A (evalPart e X.env) (EP X pins σ Q) X.xe s := by
    intro e c hp H F cs st Q r so ok pins s I
    cases e with
    | none =>
      have hc : c = .lit .non := hp
      subst hc
      rw [evalPart_none]
      exact wpAny_pure ⟨.non, H, I, rfl, okG.val ok r .non⟩
    | some e =>
      rw [evalPart_some]
      exact (show SimE X cl W E c e from hp) σ H F cs sl st Q r so ok pins s I
  intro pins s I
  refine Subscript_ (thn (ho σ H F cs sl st (fun x H1 => ∀ s, Inv X pins σ H1 s → wpAny (model X.prog X.w) X.A (evalPart lo X.env) (fun vl s2 => wpAny (model X.prog X.w) X.A (evalPart hi X.env) (fun vu s3 => ∃ H3 a b, Inv X pins σ H3 s3 ∧ IsPart vl a ∧ IsPart vu b ∧ slW X σ x a b H3 Q) X.xe s2) X.xe s) r so (ok.bindF fun x st1 xv F1 H1 cs1 e1 r1 d1 ok1 => ?_) pins s I) fun v s1 ⟨x, H1, I1, rx, q1⟩ => ?_)
  · intro s I1
    refine thn (part hl H1 F1 cs1 st1 (fun y H2 => ∀ s vl, Inv X pins σ H2 s → RelV y vl → wpAny (model X.prog X.w) X.A (evalPart hi X.env) (fun vu s3 => ∃ H3 a b, Inv X pins σ H3 s3 ∧ IsPart vl a ∧ IsPart vu b ∧ slW X σ xv a b H3 Q) X.xe s) r1 (so.ext e1) (ok1.bindF fun y st2 yv F2 H2 cs2 e2 r2 d2 ok2 => ?_) pins s I1) fun vl s2 ⟨y, H2, I2, ry, q2⟩ => q2 s2 vl I2 ry
    intro s vl I2 ry
    refine thn (part hh H2 F2 cs2 st2 (fun z H3 => ∀ s vu, Inv X pins σ H3 s → RelV z vu → ∃ H3 a b, Inv X pins σ H3 s ∧ IsPart vl a ∧ IsPart vu b ∧ slW X σ xv a b H3 Q) r2 ((so.ext e1).ext e2) (ok2.bindF fun z st3 zv F3 H3 cs3 e3 r3 d3 ok3 => ?_) pins s I2) fun vu s3 ⟨z, H3, I3, rz, q3⟩ => q3 s3 vu I3 rz
    intro s vu I3 rz
    split at ok3
    · rename_i a b ha hb
      exact ⟨H3, a, b, I3, part_ok d2 ha ry, part_ok d3 hb rz, slcV_ok r3 ((d1.ext e2).ext e3) ok3⟩
    · exact ok3.elim
  · refine wpAny_Slice (thn (q1 s1 I1) fun vl s2 h2 => thn h2 fun vu s3 ⟨H3, a, b, I3, pl, pu, q3⟩ => ?_)
    rw [evalPart_none]
    refine wpAny_pure ?_
    have I4 : Inv X pins σ H3 { s3 with heap := s3.heap.push { cls := .type "slice", data := .fields #[vl, vu, .none] } } := I3.kept (t' := s3.toks) fun b ob q => Heap.get?_push_of_some _ q
    obtain ⟨T, id, hT, ht, hg⟩ := q3 pins { s3 with heap := s3.heap.push { cls := .type "slice", data := .fields #[vl, vu, .none] } } v vl vu s3.heap.objs.size I4 rx (Heap.IsSliceOf.new ..) pl pu
    show wpAny (model X.prog X.w) X.A (subscriptTail o (.Slice lo hi none p2) v (.ref s3.heap.objs.size)) (EP X pins σ Q) X.xe { s3 with heap := s3.heap.push { cls := .type "slice", data := .fields #[vl, vu, .none] } }
    exact tail_any (ops := [.ref s3.heap.objs.size, v]) ht hT hg (by with_unfolding_all rfl)
end
end Sv
end
section
set_option linter.all false
set_option maxRecDepth 100000
set_option maxHeartbeats 4000000
/-! SvSim3: built-in calls, isinstance, built-in methods. -/
namespace Sv
open PySem PySem.Spec PyProof.Rows L2
section
variable {X : Cx} {cl : Nat → Addr} {W : WX} {E : Ev}

def plainB : Bi → Bool
  | .sortedSet => false
  | .lenSet => false
  | .sum => false
  | .min => false
  | .max => false
  | _ => true
theorem biVal_cases (b : Bi) (h : plainB b = true) : (∃ id, biVal b = .builtin id) ∨ ∃ T, biVal b = .type T := by
  cases b <;> first | exact .inl ⟨_, rfl⟩ | exact .inr ⟨_, rfl⟩ | cases h
/-- f(e, ..) of a built-in that is known -/
theorem tW_callV {x : Str} {f : Value} {e : Expr} {es : List Expr} {p pos : Pos} {σ : L2.St} {H : Hp} {Q : VK} (hf : (∃ id, f = .builtin id) ∨ ∃ T, f = .type T) (hg : Gl X x) (hm : X.mg x = none) (hv : bootBuiltins x = some f) (hn : x ≠ "__name__") (hdb : (x == ("__debug__" : Str)) = false)
    (hs : noStar (e :: es) = true) (h : tWA X (e :: es) σ H fun vs H1 => calW X σ f vs H1 Q) : tW X (.Call (.Name x p) (e :: es) [] pos) σ H Q := fun pins s I => by
  obtain ⟨h1, h2⟩ := noStar_cons hs
  refine wpAny_Call_Name_kw (ld_blt I hg hm hv ?_ hn hdb)
  have key := thn (h pos pins s I) fun us s1 ⟨vs, H1, I1, r1, q1⟩ => q1 pins s1 us I1 r1
  rcases hf with ⟨id, rfl⟩ | ⟨T, rfl⟩
  · exact PyProof.Rows.callWith_builtin1 key (starEach_cons h1) (noStar_any h2)
  · exact PyProof.Rows.callWith_type1 key (starEach_cons h1) (noStar_any h2)
theorem sim_bi {x : Str} {b : Bi} {e : Expr} {es : List Expr} {ca : C} {p pos : Pos} (hc : X.calm = true) (hb : plainB b = true) (hg : Gl X x) (hm : X.mg x = none) (hv : bootBuiltins x = some (biVal b)) (hn : x ≠ "__name__") (hdb : (x == ("__debug__" : Str)) = false)
    (hs : noStar (e :: es) = true) (ha : SimA X cl W E ca (e :: es)) : SimE X cl W E (.bi b ca) (.Call (.Name x p) (e :: es) [] pos) := fun σ H F cs sl st Q r so ok => by
  simp only [evE] at ok
  exact tW_callV (biVal_cases b hb) hg hm hv hn hdb hs (ha σ H F cs sl st (fun vs H1 => calW X σ (biVal b) vs H1 Q) r so (ok.bind (k1 := kL X.K cl) fun xs st1 vs F1 H1 cs1 e1 r1 d1 ok1 => biV_ok hc r1 d1 (by cases b <;> first | rfl | cases hb) ok1))

/-! ### isinstance -/
def tval (cl : Nat → Addr) (st : Stor) : T → Value
  | .non => .type "NoneType"
  | .bl _ => .type "bool"
  | .int _ => .type "int"
  | .str _ => .type "str"
  | .tup _ => .type "tuple"
  | .lst _ => .type "list"
  | .dic _ => .type "dict"
  | .ins c _ => .ref (cl c)
  | .cell n => match st[n]? with
    | some (.lst _) => .type "list"
    | some (.dic _) => .type "dict"
    | some (.ins c _) => .ref (cl c)
    | _ => .none
  | .scr _ => .type "list"
def tyU (cl : Nat → Addr) : Ty → Value
  | .int => .type "int"
  | .bool => .type "bool"
  | .str => .type "str"
  | .list => .type "list"
  | .tuple => .type "tuple"
  | .dict => .type "dict"
  | .own c => .ref (cl c)
def tyV' (cl : Nat → Addr) : Ty → V
  | .int => .ty "int"
  | .bool => .ty "bool"
  | .str => .ty "str"
  | .list => .ty "list"
  | .tuple => .ty "tuple"
  | .dict => .ty "dict"
  | .own c => .ref (cl c)
theorem clsV_of (ty : Ty) : ClsV (tyV' cl ty) (tyU cl ty) := by
  cases ty <;> first | exact .ty _ | exact .own _
/-- the facts of the program's classes -/
structure ClsF (K : PySem.W.Frag) (cl : Nat → Addr) (G : Tabs) : Prop where
  cls : ∀ c, G.cls c = true → Cls K (cl c)
  obj : ∀ c, G.cls c = true → PySem.W.findIn K (.ref (cl c)) "__class__" = some (some (.builtin "object.__class__")) ∧ PySem.W.specialIn K (.builtin "object.__class__") "__get__" = some (some (.builtin "getset_descriptor.__get__")) ∧
    PySem.W.takesIn K (.builtin "object.__class__") = some true ∧ PySem.W.mroIn K (cl c) (.type "object") = some true
  kitO : ∀ c d, G.cls c = true → G.cls d = true → PySem.W.kitOne K (.ref (cl c)) (.ref (cl d)) = some (G.sub c d)
  kitB : ∀ c, G.cls c = true → ∀ n ∈ ["int", "bool", "str", "list", "tuple", "dict"], PySem.W.kitOne K (.ref (cl c)) (.type n) = some false
  kitT : ∀ d, G.cls d = true → ∀ n ∈ ["NoneType", "int", "bool", "str", "list", "tuple", "dict"], PySem.W.kitOne K (.type n) (.ref (cl d)) = some false
theorem tyX_of {x : T} {v : V} {F H : Hp} {cs : List Addr} {st : Stor} (CF : ClsF X.K cl E.G) (r : RelH X.K cl F H cs st) (d : Dn X.K cl F cs x v) (hk : tyKn E st x = true) : TyX X.K H v (tval cl st x) := by
  have ins : ∀ {a dx : Addr} {c : Nat} {gs : List (Str × V)}, H a = some (.ins (cl c) dx gs) → E.G.cls c = true → TyX X.K H (.ref a) (.ref (cl c)) := fun {a dx c gs} ea hc =>
    let ⟨h1, h2, h3, h4⟩ := CF.obj c hc
    .base (.ins ea (CF.cls c hc) h1 h2 h3 h4)
  cases d with
  | non => exact .base .non
  | bl b => exact .base (.bl b)
  | int b => exact .base (.int b)
  | str b => exact .base (.str b)
  | tup e l =>
    rcases SqT.up r.fz e with (e | ⟨o, e⟩) | ⟨o, its, n, h1, h2, _⟩
    · exact .base (.tup e)
    · exact .fTuple e
    · exact .kTuple h1 h2
  | lst e l => exact .base (.lst (r.fz _ _ e))
  | dic e k l =>
    rcases UpF.rd (.of r.fz) e with e | ⟨ob, e⟩
    · exact .base (.dK e)
    · exact .fDict e
  | ins e k l => exact ins (r.fz _ _ e) hk
  | scr ns e => cases hk
  | cell e =>
    simp only [tyKn] at hk
    split at hk
    · rename_i xs hn
      obtain ⟨a, ea, ca⟩ := r.at hn
      rw [e] at ea; cases ea
      obtain ⟨_, vs, h1, _⟩ := ca
      simp only [tval, hn]
      exact .base (.lst h1)
    · rename_i xs hn
      obtain ⟨a, ea, ca⟩ := r.at hn
      rw [e] at ea; cases ea
      obtain ⟨_, vs, h1, _⟩ := ca
      simp only [tval, hn]
      exact .base (.dK h1)
    · rename_i c xs hn
      obtain ⟨a, ea, ca⟩ := r.at hn
      rw [e] at ea; cases ea
      obtain ⟨_, dx, vs, h1, _⟩ := ca
      simp only [tval, hn]
      exact ins h1 hk
    · cases hk
theorem kit_of_ty {x : T} {st : Stor} {ty : Ty} (CF : ClsF X.K cl E.G) (hk : tyKn E st x = true) (ho : tyOk E ty = true) : PySem.W.kitOne X.K (tval cl st x) (tyU cl ty) = some (tyIs E st x ty) := by
  have bb : ∀ {a b : String} {r : Bool}, kitB a b = some r → PySem.W.kitOne X.K (.type a) (.type b) = some r := fun h => h
  cases ty with
  | own d =>
    cases x with
    | ins c fs => exact CF.kitO c d hk ho
    | cell n =>
      simp only [tyKn] at hk
      split at hk
      · rename_i xs hn
        simp only [tval, tyU, tyIs, hn]
        exact CF.kitT d ho _ (by decide)
      · rename_i xs hn
        simp only [tval, tyU, tyIs, hn]
        exact CF.kitT d ho _ (by decide)
      · rename_i c xs hn
        simp only [tval, tyU, tyIs, hn]
        exact CF.kitO c d hk ho
      · cases hk
    | scr ns => cases hk
    | _ => exact CF.kitT d ho _ (by decide)
  | _ =>
    cases x with
    | ins c fs => exact CF.kitB c hk _ (by decide)
    | cell n =>
      simp only [tyKn] at hk
      split at hk
      · rename_i xs hn
        simp only [tval, tyU, tyIs, hn]
        exact bb (by decide +kernel)
      · rename_i xs hn
        simp only [tval, tyU, tyIs, hn]
        exact bb (by decide +kernel)
      · rename_i c xs hn
        simp only [tval, tyU, tyIs, hn]
        exact CF.kitB c hk _ (by decide)
      · cases hk
    | scr ns => cases hk
    | _ => first | exact bb (r := true) (by decide +kernel) | exact bb (r := false) (by decide +kernel)
theorem kitAny_of {x : T} {st : Stor} (CF : ClsF X.K cl E.G) (hk : tyKn E st x = true) : ∀ {tys : List Ty}, tys.all (tyOk E) = true → PySem.W.kitAny X.K (tval cl st x) (tys.map (tyU cl)) = some (tys.any fun ty => tyIs E st x ty)
  | [], _ => rfl
  | ty :: r, h => by
    rw [List.all_cons, Bool.and_eq_true] at h
    rw [List.map_cons, List.any_cons]
    refine kitAny_cons (kit_of_ty CF hk h.1) (fun e => ?_) fun e => ?_
    · rw [e, Bool.false_or]; exact kitAny_of CF hk h.2
    · rw [e, Bool.true_or]
/-- a class by its name -/
def TyE (X : Cx) (cl : Nat → Addr) (e : Expr) (ty : Ty) : Prop := PE X e (tC (tyV' cl ty)) ∧ isStar e = false
theorem sim_isi1 {a ty : Expr} {ca : C} {t : Ty} {p pos : Pos} (CF : ClsF X.K cl E.G) (hm : X.mg "isinstance" = none) (hg : Gl X "isinstance") (hs : isStar a = false) (ht : TyE X cl ty t) (ha : SimE X cl W E ca a) :
    SimE X cl W E (.isi [t] ca) (.Call (.Name "isinstance" p) [a, ty] [] pos) := fun σ H F cs sl st Q r so ok => by
  simp only [evE] at ok
  refine tW_callV (f := .builtin "isinstance") (.inl ⟨_, rfl⟩) hg hm boot_isinstance (by decide) (by decide) (by simp [noStar, hs, ht.2]) (tWA_of (pa_cons peW (pa_cons ht.1 pa_nil (starEach_cons ht.2)) (starEach_cons hs)) (ha σ H F cs sl st _ r so (ok.bindF fun x st1 xv F1 H1 cs1 e1 r1 d1 ok1 => ?_)))
  split at ok1
  · rename_i hk
    rw [Bool.and_eq_true] at hk
    have h2 := hk.2
    rw [List.all_cons, Bool.and_eq_true] at h2
    refine calW_of call_isi ⟨xv, tyV' cl t, tval cl st1 x.fz, tyU cl t, tyIs E st1 x.fz t, rfl, clsV_of t, tyX_of CF r1 d1 hk.1, kit_of_ty CF hk.1 h2.1, ?_⟩
    have := okG.val ok1 r1 (.bl _)
    simpa using this
  · exact ok1.elim
theorem paTys {es : List Expr} {tys : List Ty} (h : Paired (fun e ty => TyE X cl e ty) es tys) : ∃ t : TA, PA X es t ∧ ∀ σ H (Q : List V → Hp → Prop), Q (tys.map (tyV' cl)) H → t σ H Q := by
  induction h with
  | nil => exact ⟨tNil, pa_nil, fun σ H Q q => q⟩
  | cons a _ ih =>
    obtain ⟨t, h1, h2⟩ := ih
    exact ⟨_, pa_cons a.1 h1 (starEach_cons a.2), fun σ H Q q => h2 σ H _ q⟩
theorem sim_isiT {a : Expr} {es : List Expr} {k : Nat} {ca : C} {tys : List Ty} {p pos pt : Pos} (CF : ClsF X.K cl E.G) (hm : X.mg "isinstance" = none) (hg : Gl X "isinstance") (hs : isStar a = false) (ht : Paired (fun e ty => TyE X cl e ty) es tys) (hl : tys.length ≤ 1000) (ha : SimE X cl W E ca a) :
    SimE X cl W E (.isi tys ca) (.Call (.Name "isinstance" p) [a, .Tuple es k pt] [] pos) := fun σ H F cs sl st Q r so ok => by
  simp only [evE] at ok
  obtain ⟨t, h1, h2⟩ := paTys ht
  refine tW_callV (f := .builtin "isinstance") (.inl ⟨_, rfl⟩) hg hm boot_isinstance (by decide) (by decide) (by unfold noStar; rw [List.all_cons, hs]; rfl) (tWA_of (pa_cons peW (pa_cons (pe_tup h1) pa_nil rfl) (starEach_cons hs)) (ha σ H F cs sl st _ r so (ok.bindF fun x st1 xv F1 H1 cs1 e1 r1 d1 ok1 => ?_)))
  split at ok1
  · rename_i hk
    rw [Bool.and_eq_true] at hk
    refine h2 σ H1 _ ⟨by rw [List.length_map]; exact Nat.le_of_lt (small1000 hl), fun q hq => ?_⟩
    have cv : ∀ l : List Ty, Paired ClsV (l.map (tyV' cl)) (l.map (tyU cl)) := fun l => by
      induction l with
      | nil => exact .nil
      | cons a r ih => exact .cons (clsV_of a) ih
    have r2 := r1.alloc (o := .tup (tys.map (tyV' cl))) hq
    have e2 := r1.allocE (o := .tup (tys.map (tyV' cl))) hq
    refine calW_of call_isiT ⟨xv, q, _, tval cl st1 x.fz, _, _, rfl, upd_same, cv tys, tyX_of CF r2 d1 hk.1, kitAny_of CF hk.1 hk.2, ?_⟩
    exact okG.val (okG.rebase e2 ok1) r2 (.bl _)
  · exact ok1.elim

/-! ### methods of built-in types -/
theorem mt_slot {m : Mt} {o : T} {st : Stor} {T : String} {x : Str} (h : mtTy m o st = some T) (hm : mtOf.lookup x = some m) : PlainAttrs T ∧ Slot T x (mtId m) ∧ typeOf (.builtin (mtId m)) = pure (.type "method_descriptor") := by
  have hx : ∀ {y : Str} {m' : Mt}, mtOf.lookup y = some m' → (y = "append" ∧ m' = .append) ∨ (y = "extend" ∧ m' = .extend) ∨ (y = "pop" ∧ m' = .pop) ∨ (y = "index" ∧ m' = .index) ∨ (y = "join" ∧ m' = .join) ∨ (y = "reverse" ∧ m' = .reverse) := by
    intro y m' h
    simp only [mtOf, List.lookup_cons, List.lookup_nil] at h
    split at h
    · rename_i e; cases h; exact .inl ⟨eq_of_beq e, rfl⟩
    split at h
    · rename_i e; cases h; exact .inr (.inl ⟨eq_of_beq e, rfl⟩)
    split at h
    · rename_i e; cases h; exact .inr (.inr (.inl ⟨eq_of_beq e, rfl⟩))
    split at h
    · rename_i e; cases h; exact .inr (.inr (.inr (.inl ⟨eq_of_beq e, rfl⟩)))
    split at h
    · rename_i e; cases h; exact .inr (.inr (.inr (.inr (.inl ⟨eq_of_beq e, rfl⟩))))
    split at h
    · rename_i e; cases h; exact .inr (.inr (.inr (.inr (.inr ⟨eq_of_beq e, rfl⟩))))
    · cases h
  have hl : ∀ {m : Mt}, mtTy m o st = some T → m ≠ .join → m ≠ .split → m ≠ .partition → m ≠ .startswith → T = "list" := by
    intro m h h1 h2 h3 h4
    unfold mtTy at h
    split at h <;> first | exact absurd rfl h1 | exact absurd rfl h2 | exact absurd rfl h3 | exact absurd rfl h4 | (split at h <;> first | (cases h; rfl) | cases h) | (cases h; rfl) | cases h
  have hj : mtTy .join o st = some T → T = "str" := by
    intro h
    cases o <;> simp only [mtTy] at h <;> first | (cases h; rfl) | cases h
  rcases hx hm with ⟨rfl, rfl⟩ | ⟨rfl, rfl⟩ | ⟨rfl, rfl⟩ | ⟨rfl, rfl⟩ | ⟨rfl, rfl⟩ | ⟨rfl, rfl⟩
  · cases hl h (by decide) (by decide) (by decide) (by decide); exact ⟨PySem.F.plainAttrs_list, PySem.F.slot_list_append, PySem.F.type_list_append⟩
  · cases hl h (by decide) (by decide) (by decide) (by decide); exact ⟨PySem.F.plainAttrs_list, PySem.F.slot_list_extend, PySem.F.type_list_extend⟩
  · cases hl h (by decide) (by decide) (by decide) (by decide); exact ⟨PySem.F.plainAttrs_list, PySem.F.slot_list_pop, PySem.F.type_list_pop⟩
  · cases hl h (by decide) (by decide) (by decide) (by decide); exact ⟨PySem.F.plainAttrs_list, PySem.F.slot_list_index, PySem.F.type_list_index⟩
  · cases hj h; exact ⟨PySem.F.plainAttrs_str, PySem.F.slot_str_join, PySem.F.type_str_join⟩
  · cases hl h (by decide) (by decide) (by decide) (by decide); exact ⟨PySem.F.plainAttrs_list, PySem.F.slot_list_reverse, PySem.F.type_list_reverse⟩
theorem mt_ty {m : Mt} {o : T} {v : V} {F H : Hp} {cs : List Addr} {st : Stor} {T : String} (r : RelH X.K cl F H cs st) (d : Dn X.K cl F cs o v) (h : mtTy m o st = some T) : tyV X.K T v H := by
  have hc : ∀ {n : Nat}, Dn X.K cl F cs (.cell n) v → (match st[n]? with | some (.lst _) => some "list" | _ => none) = some T → tyV X.K T v H := by
    intro n d h
    split at h
    · rename_i xs hn
      cases h
      obtain ⟨a, vs, rfl, _, _, h1, _⟩ := atCell r d hn
      exact .inl ⟨rfl, vs, SqL.of h1⟩
    · cases h
  unfold mtTy at h
  split at h
  · cases h; cases d; rfl
  · cases h; cases d; rfl
  · cases h; cases d; rfl
  · cases h; cases d; rfl
  · exact hc d h
  · exact hc d h
  · exact hc d h
  · exact hc d h
  · exact hc d h
  · exact hc d h
  · exact hc d h
  · cases h
    cases d with
    | lst e l => exact .inl ⟨rfl, _, SqL.of (r.fz _ _ e)⟩
  · cases h
end
end Sv
end
section
set_option linter.all false
set_option maxRecDepth 100000
set_option maxHeartbeats 4000000
/-! SvCall: what is handed to a callee, what comes back; plain relations, no machine. -/
namespace Sv
open PySem PySem.Spec PyProof.Rows L2
section
variable {K : PySem.W.Frag} {cl : Nat → Addr} {F H F1 H1 : Hp} {cs cs' cs1 : List Addr} {st st1 : Stor}

theorem Dn.pure : ∀ (n : Nat), (∀ {t : T} {v : V}, clB n t = true → Dn K cl F cs t v → Dn K cl F cs' t v) ∧ (∀ {ts : List T} {vs : List V}, ts.all (clB n) = true → DnL K cl F cs ts vs → DnL K cl F cs' ts vs)
  | 0 => ⟨fun h => by simp [clB] at h, fun {ts vs} h l => by
      cases l with
      | nil => exact .nil
      | cons d l => simp [clB] at h⟩
  | n + 1 => by
    have ih := Dn.pure n
    have one : ∀ {t : T} {v : V}, clB (n + 1) t = true → Dn K cl F cs t v → Dn K cl F cs' t v := by
      intro t v h d
      cases d with
      | non => exact .non
      | bl b => exact .bl b
      | int b => exact .int b
      | str b => exact .str b
      | scr b e => exact .scr b e
      | tup e l => exact .tup e (ih.2 h l)
      | lst e l => exact .lst e (ih.2 h l)
      | dic e k l => exact .dic e k (ih.2 (by rw [List.all_map]; exact h) l)
      | ins e k l => exact .ins e k (ih.2 (by rw [List.all_map]; exact h) l)
      | cell e => cases h
    refine ⟨one, fun {ts} {vs} h l => ?_⟩
    induction ts generalizing vs with
    | nil => cases l; exact .nil
    | cons t r ihr =>
      cases l with
      | cons d l =>
      rw [List.all_cons, Bool.and_eq_true] at h
      exact .cons (one h.1 d) (ihr h.2 l)
theorem Dn.pur {t : T} {v : V} (h : pureB t = true) (d : Dn K cl F cs t v) : Dn K cl F cs' t v := (Dn.pure 30).1 h d
theorem DnL.pur {ts : List T} {vs : List V} (h : ts.all pureB = true) (d : DnL K cl F cs ts vs) : DnL K cl F cs' ts vs := (Dn.pure 30).2 h d
theorem CellAt.pure {a : Addr} {c : Cell} (h : pureC c = true) (x : CellAt K cl F H cs a c) : CellAt K cl F H cs' a c := by
  cases c with
  | lst xs => obtain ⟨n, vs, e, d⟩ := x; exact ⟨n, vs, e, DnL.pur h d⟩
  | dic xs => obtain ⟨n, vs, e, k, d⟩ := x; exact ⟨n, vs, e, k, DnL.pur (by rw [List.all_map]; exact h) d⟩
  | ins c xs => obtain ⟨n, dx, vs, e, k, d⟩ := x; exact ⟨n, dx, vs, e, k, DnL.pur (by rw [List.all_map]; exact h) d⟩
  | gone => cases h
theorem DnR.pure {H₀ : Hp} {r : R} {v : V} (h : pureR r = true) (hn : ∀ a, H₀ a = none → a ∉ cs') (d : DnR K cl H₀ r F H cs v) : DnR K cl H₀ r F H cs' v := by
  cases r with
  | val t => exact Dn.pur h d
  | new c =>
    obtain ⟨ng, a, e, h0, hc, ca⟩ := d
    exact ⟨ng, a, e, h0, hn a h0, ca.pure h⟩

/-! ### the cells that are handed on -/
theorem takeArgs_ok : ∀ {xs : List T} {ns0 : List Nat} {ys : List T} {ns : List Nat}, takeArgs xs ns0 = some (ys, ns) → ns0.Nodup → (∃ m, ns = ns0 ++ m) ∧ ns.Nodup ∧
    ∀ {vs : List V}, DnL K cl F cs xs vs → ∀ {as : List Addr}, Paired (fun n a => cs[n]? = some a) ns as → DnL K cl F as ys vs
  | [], ns0, ys, ns, h, nd => by
    cases h
    exact ⟨⟨[], by simp⟩, nd, fun d _ _ => by cases d; exact .nil⟩
  | x :: r, ns0, ys, ns, h, nd => by
    have pur : ∀ {x : T}, (if pureB x = true then (takeArgs r ns0).map fun p => (x :: p.1, p.2) else none) = some (ys, ns) → (∃ m, ns = ns0 ++ m) ∧ ns.Nodup ∧
        ∀ {vs : List V}, DnL K cl F cs (x :: r) vs → ∀ {as : List Addr}, Paired (fun n a => cs[n]? = some a) ns as → DnL K cl F as ys vs := by
      intro x h
      split at h
      · rename_i hp
        cases ht : takeArgs r ns0 with
        | none => rw [ht] at h; cases h
        | some p =>
          rw [ht] at h
          cases h
          obtain ⟨h1, h2, h3⟩ := takeArgs_ok (xs := r) (ys := p.1) (ns := p.2) ht nd
          refine ⟨h1, h2, fun d _ pr => ?_⟩
          cases d with
          | cons d l => exact .cons (Dn.pur hp d) (h3 l pr)
      · cases h
    cases x with
    | cell n =>
      simp only [takeArgs] at h
      split at h
      · rename_i i hi
        cases ht : takeArgs r ns0 with
        | none => rw [ht] at h; cases h
        | some p =>
          rw [ht] at h
          cases h
          obtain ⟨h1, h2, h3⟩ := takeArgs_ok (xs := r) (ys := p.1) (ns := p.2) ht nd
          refine ⟨h1, h2, fun {vs} d {as} pr => ?_⟩
          cases d with
          | cons d l =>
          cases d with
          | cell e =>
          refine .cons (.cell ?_) (h3 l pr)
          obtain ⟨hil, hih, _⟩ := List.findIdx?_eq_some_iff_getElem.mp hi
          obtain ⟨m, hm⟩ := h1
          have hn : p.2[i]? = some n := by
            rw [hm, List.getElem?_append_left hil, List.getElem?_eq_getElem hil]
            exact congrArg some (of_decide_eq_true hih)
          obtain ⟨a', ea, ha⟩ := pairedGet pr hn
          rw [e] at ha
          cases ha
          exact ea
      · rename_i hi
        cases ht : takeArgs r (ns0 ++ [n]) with
        | none => rw [ht] at h; cases h
        | some p =>
          rw [ht] at h
          cases h
          have nn : n ∉ ns0 := fun hm => by
            have := List.findIdx?_eq_none_iff.mp hi n hm
            simp at this
          have nd2 : (ns0 ++ [n]).Nodup := by
            rw [List.nodup_append]
            exact ⟨nd, by simp, fun x hx y hy => by rw [List.mem_singleton.mp hy]; exact fun z => nn (z ▸ hx)⟩
          obtain ⟨⟨m, hm⟩, h2, h3⟩ := takeArgs_ok (xs := r) (ys := p.1) (ns := p.2) ht nd2
          refine ⟨⟨n :: m, by rw [hm]; simp⟩, h2, fun {vs} d {as} pr => ?_⟩
          cases d with
          | cons d l =>
          cases d with
          | cell e =>
          refine .cons (.cell ?_) (h3 l pr)
          have hn : p.2[ns0.length]? = some n := by rw [hm]; simp
          obtain ⟨a', ea, ha⟩ := pairedGet pr hn
          rw [e] at ha
          cases ha
          exact ea
    | _ => exact pur h
where
  pairedGet {ns : List Nat} {as : List Addr} {cs : List Addr} {i n : Nat} (pr : Paired (fun n a => cs[n]? = some a) ns as) (h : ns[i]? = some n) : ∃ a, as[i]? = some a ∧ cs[n]? = some a := by
    induction pr generalizing i with
    | nil => simp at h
    | cons e _ ih =>
      cases i with
      | zero => simp at h; subst h; exact ⟨_, rfl, e⟩
      | succ i => simpa using ih (by simpa using h)

theorem putBack_len : ∀ (ns : List Nat) (c : Stor) (st : Stor), (putBack ns c st).length = st.length
  | [], _, _ => by simp [putBack]
  | _ :: _, [], _ => by simp [putBack]
  | n :: ns, c :: r, st => by rw [putBack, putBack_len]; simp
theorem putBack_out : ∀ {ns : List Nat} {c st : Stor} {n : Nat}, n ∉ ns → (putBack ns c st)[n]? = st[n]?
  | [], _, _, _, _ => by simp [putBack]
  | _ :: _, [], _, _, _ => by simp [putBack]
  | m :: ns, c :: r, st, n, h => by
    rw [putBack, putBack_out (fun z => h (.tail _ z)), List.getElem?_set_ne (fun (e : m = n) => h (by rw [e]; exact .head _))]
theorem putBack_in : ∀ {ns : List Nat} {c st : Stor} {i n : Nat}, ns.Nodup → ns[i]? = some n → i < c.length → n < st.length → (putBack ns c st)[n]? = c[i]?
  | [], _, _, _, _, _, h, _, _ => by simp at h
  | _ :: _, [], _, _, _, _, _, h, _ => by simp at h
  | m :: ns, c :: r, st, 0, n, nd, h, hi, hn => by
    simp at h; subst h
    rw [putBack, putBack_out (List.nodup_cons.mp nd).1, List.getElem?_set_self hn]; rfl
  | m :: ns, c :: r, st, i + 1, n, nd, h, hi, hn => by
    rw [putBack, putBack_in (i := i) (List.nodup_cons.mp nd).2 (by simpa using h) (by simpa using hi) (by simpa using hn)]; simp
theorem mapO_get {α β : Type} {f : α → Option β} : ∀ {xs : List α} {ys : List β}, mapO f xs = some ys → xs.length = ys.length ∧ ∀ (i : Nat) x, xs[i]? = some x → ∃ y, ys[i]? = some y ∧ f x = some y
  | [], ys, h => by cases h; exact ⟨rfl, fun i x e => by simp at e⟩
  | x :: r, ys, h => by
    simp only [mapO] at h
    split at h
    · cases h
    · rename_i y hy
      split at h
      · cases h
      · rename_i zs hz
        cases h
        obtain ⟨h1, h2⟩ := mapO_get hz
        refine ⟨by simp [h1], fun i z e => ?_⟩
        cases i with
        | zero => simp at e; subst e; exact ⟨y, rfl, hy⟩
        | succ i => simpa using h2 i z (by simpa using e)
/-- the addresses of some cells -/
theorem addrs {ns : List Nat} {cells : Stor} (r : RelH K cl F H cs st) (h : mapO (fun n => st[n]?) ns = some cells) : ∃ as, Paired (fun n a => cs[n]? = some a) ns as := by
  induction ns generalizing cells with
  | nil => exact ⟨[], .nil⟩
  | cons n r' ih =>
    simp only [mapO] at h
    split at h
    · cases h
    · rename_i c hc
      split at h
      · cases h
      · rename_i zs hz
        obtain ⟨as, ha⟩ := ih hz
        obtain ⟨a, ea, _⟩ := r.at hc
        exact ⟨a :: as, .cons ea ha⟩
theorem paired_len {α β : Type} {R : α → β → Prop} {l : List α} {m : List β} (p : Paired R l m) : l.length = m.length := Paired.length p
theorem paired_at {α β : Type} {R : α → β → Prop} : ∀ {l : List α} {m : List β}, Paired R l m → ∀ {i : Nat} {b : β}, m[i]? = some b → ∃ a, l[i]? = some a ∧ R a b
  | _, _, .nil, i, b, h => by simp at h
  | _, _, .cons e p, 0, b, h => by simp at h; subst h; exact ⟨_, rfl, e⟩
  | _, _, .cons e p, i + 1, b, h => by simpa using paired_at p (by simpa using h)
theorem addrs_nodup {ns : List Nat} {as : List Addr} (nd : ns.Nodup) (ncs : cs.Nodup) (p : Paired (fun n a => cs[n]? = some a) ns as) : as.Nodup := by
  induction p with
  | nil => exact .nil
  | @cons n a ns as e p ih =>
    obtain ⟨h1, h2⟩ := List.nodup_cons.mp nd
    refine List.nodup_cons.mpr ⟨fun hm => ?_, ih h2⟩
    obtain ⟨i, hi⟩ := List.getElem?_of_mem hm
    obtain ⟨m, hm', em⟩ := paired_at p hi
    have e1 := List.getElem?_eq_some_iff.mp e
    have e2 := List.getElem?_eq_some_iff.mp em
    have : n = m := (List.getElem_inj ncs).mp (e1.2.trans e2.2.symm)
    subst this
    exact h1 (List.mem_of_getElem? hm')

/-! ### lists stand still while a callee looks at them -/
def fzH (F H : Hp) (cs : List Addr) : Hp := fun a => if a ∈ cs then (match H a with | some (.lst vs) => some (.lst vs) | _ => F a) else F a
theorem fzH_up (r : RelH K cl F H cs st) : ∀ a o, F a = some o → fzH F H cs a = some o := fun a o h => by
  unfold fzH
  split
  · split
    · rename_i vs hv
      have := r.fz a o h
      rw [hv] at this
      exact this
    · exact h
  · exact h
theorem fzH_fz (r : RelH K cl F H cs st) : ∀ a o, fzH F H cs a = some o → H a = some o := fun a o h => by
  unfold fzH at h
  split at h
  · split at h
    · rename_i vs hv
      rw [hv]; exact h
    · exact r.fz a o h
  · exact r.fz a o h
theorem fzT_ok (r : RelH K cl F H cs st) : ∀ (n : Nat), (∀ {t t' : T} {v : V}, fzT st n t = some t' → Dn K cl F cs t v → Dn K cl (fzH F H cs) [] t' v) ∧ (∀ {ts ts' : List T} {vs : List V}, mapO (fzT st n) ts = some ts' → DnL K cl F cs ts vs → DnL K cl (fzH F H cs) [] ts' vs)
  | 0 => ⟨fun h => (by cases h), fun {ts ts' vs} h l => by
      cases l with
      | nil => cases h; exact .nil
      | cons d l => cases h⟩
  | n + 1 => by
    have ih := fzT_ok r n
    have nilc : ∀ {t : T} {v : V}, Dn K cl F [] t v → Dn K cl (fzH F H cs) [] t v := fun d => d.up (.of (fzH_up r)) fun _ _ h => h
    have keep : ∀ {t t' : T} {v : V}, (if clB (n + 1) t = true then some t else none) = some t' → Dn K cl F cs t v → Dn K cl (fzH F H cs) [] t' v := by
      intro t t' v h d
      split at h
      · rename_i hc
        cases h
        exact nilc ((Dn.pure (n + 1)).1 hc d)
      · cases h
    have one : ∀ {t t' : T} {v : V}, fzT st (n + 1) t = some t' → Dn K cl F cs t v → Dn K cl (fzH F H cs) [] t' v := by
      intro t t' v h d
      cases t with
      | cell k =>
        simp only [fzT] at h
        split at h
        · rename_i xs hx
          cases hm : mapO (fzT st n) xs with
          | none => rw [hm] at h; cases h
          | some ys =>
            rw [hm] at h
            cases h
            cases d with
            | cell e =>
            rename_i a
            obtain ⟨hF, vs, hH, dl⟩ := r.cell k _ a hx e
            refine .lst (vs := vs) ?_ (ih.2 hm dl)
            unfold fzH
            rw [if_pos (List.mem_of_getElem? e), hH]
        · cases h
      | tup xs =>
        simp only [fzT] at h
        cases hm : mapO (fzT st n) xs with
        | none => rw [hm] at h; cases h
        | some ys =>
          rw [hm] at h
          cases h
          cases d with
          | tup e l => exact .tup (SqT.upF (.of (fzH_up r)) e) (ih.2 hm l)
      | lst xs =>
        simp only [fzT] at h
        cases hm : mapO (fzT st n) xs with
        | none => rw [hm] at h; cases h
        | some ys =>
          rw [hm] at h
          cases h
          cases d with
          | lst e l => exact .lst (fzH_up r _ _ e) (ih.2 hm l)
      | _ => exact keep (show (if clB (n + 1) _ = true then some _ else none) = some t' from by first | exact h | (simp only [fzT] at h; exact h)) d
    refine ⟨one, fun {ts} {ts'} {vs} h l => ?_⟩
    induction ts generalizing ts' vs with
    | nil => cases h; cases l; exact .nil
    | cons t q ihr =>
      cases l with
      | cons d l =>
      simp only [mapO] at h
      split at h
      · cases h
      · rename_i y hy
        split at h
        · cases h
        · rename_i zs hz
          cases h
          exact .cons (one hy d) (ihr hz l)
theorem atom_dn {t : T} {v : V} {F' : Hp} (h : atomB t = true) (d : Dn K cl F cs t v) : Dn K cl F' cs' t v := by
  cases d <;> first | (cases h; done) | constructor
theorem callF_ok {m : List T → Stor → Rs R} {xs : List T} {vs : List V} {Wx : XK} {Q : VK} (r : RelH K cl F H cs st) (d : DnL K cl F cs xs vs) (ok : okG K cl Wx F H cs (kR K cl) (callF m xs st) Q) :
    ∃ F' cs' st' ts, RelH K cl F' H cs' st' ∧ DnL K cl F' cs' ts vs ∧ okG K cl Wx F' H cs' (kR K cl) (m ts st') Q := by
  unfold callF at ok
  split at ok
  · exact ok.elim
  · rename_i ys hy
    refine ⟨fzH F H cs, [], [], ys, ⟨fzH_fz r, rfl, .nil, fun n c a h => by simp at h⟩, (fzT_ok r 30).2 hy d, ?_⟩
    cases hm : m ys [] with
    | no => rw [hm] at ok; exact ok
    | ex x st1 => rw [hm] at ok; exact ok.elim
    | ok rr st1 =>
      rw [hm] at ok
      split at ok
      · rename_i t heq
        cases heq
        split at ok
        · rename_i ha
          intro v F1 H1 cs1 e1 rl dr
          have dr : Dn K cl F1 cs1 t v := dr
          have up : UpF F fun a => match F a with | some _ => F1 a | none => none := fun a o h => by
            simp only [h]
            exact e1.fz a o (fzH_up r a o h)
          refine ok v (fun a => match F a with | some _ => F1 a | none => none) H1 cs ⟨up, fun _ _ h => h, fun b o h1 h2 h3 => ?_, e1.dom⟩ ⟨fun a o h => ?_, r.len, r.nd, fun n c a hc ha => ?_⟩ (atom_dn ha dr)
          · have : fzH F H cs b = none := by unfold fzH; rw [if_neg h3]; exact h2
            obtain ⟨q, _, _⟩ := e1.kp b o h1 this (by simp)
            exact ⟨q, by simp only [h2], h3⟩
          · have h : (match F a with | some _ => F1 a | none => none) = some o := h
            split at h
            · exact rl.fz a o h
            · cases h
          · have ca := r.cell n c a hc ha
            have hF : F a = none → (match F a with | some _ => F1 a | none => none) = none := fun h => by simp only [h]
            have mem : a ∈ cs := List.mem_of_getElem? ha
            cases c with
            | gone =>
              obtain ⟨o, ho⟩ := ca
              cases h1 : H1 a with
              | none => have := e1.dom a h1; rw [ho] at this; cases this
              | some o' => exact ⟨o', h1⟩
            | lst zs =>
              have ca0 := ca
              obtain ⟨n1, us, e, _⟩ := ca
              have h2 : fzH F H cs a = some (.lst us) := by unfold fzH; rw [if_pos mem, e]
              exact ca0.up up (fun _ _ h => h) (by rw [rl.fz a _ (e1.fz.lst h2), e]) hF
            | dic zs =>
              have ca0 := ca
              obtain ⟨n1, us, e, _⟩ := ca
              have h2 : fzH F H cs a = none := by unfold fzH; rw [if_pos mem, e]; exact n1
              exact ca0.up up (fun _ _ h => h) (by rw [(e1.kp a _ e h2 (by simp)).1, e]) hF
            | ins cc zs =>
              have ca0 := ca
              obtain ⟨n1, dx, us, e, _⟩ := ca
              have h2 : fzH F H cs a = none := by unfold fzH; rw [if_pos mem, e]; exact n1
              exact ca0.up up (fun _ _ h => h) (by rw [(e1.kp a _ e h2 (by simp)).1, e]) hF
        · exact ok.elim
      · exact ok.elim

theorem callC_ok {m : List T → Stor → Rs R} {xs : List T} {vs : List V} {Wx : XK} {Q : VK} (r : RelH K cl F H cs st) (d : DnL K cl F cs xs vs) (ok : okG K cl Wx F H cs (kR K cl) (callC m xs st) Q) :
    ∃ F' cs' st' ts, RelH K cl F' H cs' st' ∧ DnL K cl F' cs' ts vs ∧ okG K cl Wx F' H cs' (kR K cl) (m ts st') Q := by
  unfold callC at ok
  split at ok
  · exact ⟨F, cs, [], xs, r, d, ok⟩
  · rename_i st0 c0 st00
    split at ok
    · exact callF_ok r d ok
    · rename_i ys ns ht
      split at ok
      · exact ok.elim
      · rename_i cells hcells
        split at ok
        · rename_i hp
          obtain ⟨_, nd, hd⟩ := takeArgs_ok (K := K) (cl := cl) (F := F) (cs := cs) ht .nil
          obtain ⟨as, pa⟩ := addrs r hcells
          have las := paired_len pa
          obtain ⟨lcells, gcells⟩ := mapO_get hcells
          have sub : ∀ a, a ∈ as → a ∈ cs := fun a ha => by
            obtain ⟨i, hi⟩ := List.getElem?_of_mem ha
            obtain ⟨n, _, e⟩ := paired_at pa hi
            exact List.mem_of_getElem? e
          have r2 : RelH K cl F H as cells := ⟨r.fz, by rw [← las, ← lcells], addrs_nodup nd r.nd pa, fun i c a hc ha => by
            obtain ⟨n, hn, e⟩ := paired_at pa ha
            obtain ⟨c', hc', e'⟩ := gcells i n hn
            rw [hc] at hc'; cases hc'
            exact (r.cell n c a e' e).pure (List.all_eq_true.mp hp c (List.mem_of_getElem? hc))⟩
          refine ⟨F, as, cells, ys, r2, hd d pa, ?_⟩
          -- back
          have back : ∀ {F1 H1 : Hp} {cs1 : List Addr} {st1 : Stor}, st1.length = ns.length → st1.all pureC = true → Ext F H as F1 H1 cs1 → RelH K cl F1 H1 cs1 st1 → cs1 = as ∧ Ext F H cs F1 H1 cs ∧ RelH K cl F1 H1 cs (putBack ns st1 (c0 :: st00)) := by
            intro F1 H1 cs1 st1 hl hpc e1 rr
            have ecs : cs1 = as := by
              apply List.ext_getElem?
              intro i
              by_cases hi : i < as.length
              · rw [List.getElem?_eq_getElem hi]; exact e1.cx i _ (List.getElem?_eq_getElem hi)
              · rw [List.getElem?_eq_none (l := as) (by omega), List.getElem?_eq_none (l := cs1) (by rw [rr.len, hl, las]; omega)]
            subst ecs
            refine ⟨rfl, ⟨e1.fz, fun _ _ h => h, fun b o h1 h2 h3 => ?_, e1.dom⟩, ⟨rr.fz, by rw [putBack_len]; exact r.len, r.nd, fun n c a hc ha => ?_⟩⟩
            · obtain ⟨q1, q2, _⟩ := e1.kp b o h1 h2 fun hb => h3 (sub b hb)
              exact ⟨q1, q2, h3⟩
            · by_cases hn : n ∈ ns
              · obtain ⟨i, hi⟩ := List.getElem?_of_mem hn
                have hil : i < ns.length := (List.getElem?_eq_some_iff.mp hi).1
                have hnl : n < (c0 :: st00).length := by
                  rw [← r.len]; exact (List.getElem?_eq_some_iff.mp ha).1
                rw [putBack_in nd hi (by omega) hnl] at hc
                obtain ⟨a', ea, e'⟩ := takeArgs_ok.pairedGet pa hi
                rw [ha] at e'; cases e'
                exact (rr.cell i c a hc ea).pure (List.all_eq_true.mp hpc c (List.mem_of_getElem? hc))
              · rw [putBack_out hn] at hc
                have ca := r.cell n c a hc ha
                have na : a ∉ cs1 := fun hm => by
                  obtain ⟨i, hi⟩ := List.getElem?_of_mem hm
                  obtain ⟨m', hm', em⟩ := paired_at pa hi
                  have e1 := List.getElem?_eq_some_iff.mp ha
                  have e2 := List.getElem?_eq_some_iff.mp em
                  have : n = m' := (List.getElem_inj r.nd).mp (e1.2.trans e2.2.symm)
                  subst this
                  exact hn (List.mem_of_getElem? hm')
                obtain ⟨o, ho⟩ := ca.has
                cases hF : F a with
                | none =>
                  obtain ⟨q1, q2, _⟩ := e1.kp a o ho hF na
                  exact ca.up e1.fz (fun _ _ h => h) (by rw [q1, ho]) (fun _ => q2)
                | some o' =>
                  obtain ⟨o2, h2⟩ := e1.fz.has hF
                  cases c with
                  | gone => exact ⟨o2, rr.fz a o2 h2⟩
                  | _ => rw [ca.1] at hF; cases hF
          cases hm : m ys cells with
          | no => rw [hm] at ok; exact ok
          | ok rr st1 =>
            rw [hm] at ok
            simp only at ok
            split at ok
            · rename_i hc
              intro v F1 H1 cs1 e1 rl dr
              obtain ⟨ecs, e2, r3⟩ := back hc.1 hc.2.2 e1 rl
              subst ecs
              exact ok v F1 H1 cs e2 r3 (DnR.pure hc.2.1 (fun a h0 hm => by obtain ⟨o, ho⟩ := r.csIn hm; rw [h0] at ho; cases ho) dr)
            · exact ok.elim
          | ex x st1 =>
            rw [hm] at ok
            simp only at ok
            split at ok
            · rename_i hc
              intro c' d' F1 H1 cs1 e1 rl dx
              obtain ⟨ecs, e2, r3⟩ := back hc.1 hc.2.2 e1 rl
              subst ecs
              obtain ⟨h1, a, gs, h2, h3, h4, h5, h6⟩ := dx
              exact ok c' d' F1 H1 cs e2 r3 ⟨h1, a, gs, h2, h3, h4, h5, DnL.pur (by rw [List.all_map]; exact hc.2.1) h6⟩
            · exact ok.elim
        · exact callF_ok r d ok

/-! ### leaving a def -/
theorem cs_pre (r : RelH K cl F H cs st) (r1 : RelH K cl F1 H1 cs1 st1) (e : Ext F H cs F1 H1 cs1) : cs1.take st.length = cs := by
  apply List.ext_getElem?
  intro i
  by_cases hi : i < cs.length
  · rw [List.getElem?_eq_getElem hi, List.getElem?_take_of_lt (by rw [← r.len]; exact hi)]
    exact e.cx i _ (List.getElem?_eq_getElem hi)
  · rw [List.getElem?_eq_none (l := cs) (by omega)]
    refine List.getElem?_eq_none ?_
    rw [List.length_take, ← r.len]
    omega
/-- the callee's cells are forgotten -/
theorem RelH.drop (r : RelH K cl F H cs st) (r1 : RelH K cl F1 H1 cs1 st1) (e : Ext F H cs F1 H1 cs1) (hp : (st1.take st.length).all pureC = true) (hl : st.length ≤ st1.length) : RelH K cl F1 H1 cs (st1.take st.length) ∧ Ext F H cs F1 H1 cs := by
  have pre := cs_pre r r1 e
  refine ⟨⟨r1.fz, by rw [List.length_take, r.len]; omega, r.nd, fun n c a hc ha => ?_⟩, ⟨e.fz, fun _ _ h => h, fun b o h1 h2 h3 => ?_, e.dom⟩⟩
  · have hn : n < st.length := by
      have := (List.getElem?_eq_some_iff.mp hc).1
      rw [List.length_take] at this
      omega
    have hc1 : st1[n]? = some c := by rw [List.getElem?_take_of_lt hn] at hc; exact hc
    exact (r1.cell n c a hc1 (e.cx n a ha)).pure (List.all_eq_true.mp hp c (List.mem_of_getElem? hc))
  · obtain ⟨q1, q2, _⟩ := e.kp b o h1 h2 h3
    exact ⟨q1, q2, h3⟩
theorem notin_of (r : RelH K cl F H cs st) {a : Addr} (h : H a = none) : a ∉ cs := fun hm => by
  obtain ⟨o, ho⟩ := r.csIn hm
  rw [h] at ho; cases ho
theorem leave_ok {rr : R} {v : V} {Wx : XK} {Q : VK} (r : RelH K cl F H cs st) (r1 : RelH K cl F1 H1 cs1 st1) (e : Ext F H cs F1 H1 cs1) (d : DnR K cl H rr F1 H1 cs1 v) (ok : okG K cl Wx F H cs (kR K cl) (leave st.length rr st1) Q) : Q v H1 := by
  unfold leave at ok
  split at ok
  · exact ok v F1 H1 cs1 e r1 d
  · split at ok
    · rename_i hp
      obtain ⟨r2, e2⟩ := r.drop r1 e hp.1 hp.2
      cases rr with
      | new c =>
        simp only at ok
        split at ok
        · rename_i hc
          exact ok v F1 H1 cs e2 r2 (DnR.pure (r := .new c) hc (fun a h => notin_of r h) d)
        · exact ok.elim
      | val t =>
        simp only at ok
        split at ok
        · rename_i hc
          exact ok v F1 H1 cs e2 r2 (Dn.pur hc d)
        · split at ok
          · rename_i n _
            split at ok
            · rename_i hn
              split at ok
              · rename_i c hst
                split at ok
                · rename_i hc
                  cases d with
                  | cell ea =>
                  rename_i a
                  have ca := r1.cell n c a hst ea
                  have h0 : H a = none := by
                    cases hH : H a with
                    | none => rfl
                    | some o =>
                      exfalso
                      have hF1 : F1 a = none := by cases c <;> first | exact ca.1 | cases hc
                      cases hF : F a with
                      | some o' => obtain ⟨o2, h2⟩ := e.fz.has hF; rw [h2] at hF1; cases hF1
                      | none =>
                        by_cases hm : a ∈ cs
                        · obtain ⟨i, hi⟩ := List.getElem?_of_mem hm
                          have e1 := List.getElem?_eq_some_iff.mp (e.cx i a hi)
                          have e2 := List.getElem?_eq_some_iff.mp ea
                          have : i = n := (List.getElem_inj r1.nd).mp (e1.2.trans e2.2.symm)
                          have hi2 := (List.getElem?_eq_some_iff.mp hi).1
                          rw [r.len] at hi2
                          omega
                        · obtain ⟨_, _, q⟩ := e.kp a o hH hF hm
                          exact q (List.mem_of_getElem? ea)
                  refine ok (.ref a) F1 H1 cs e2 r2 ⟨fun z => ?_, a, rfl, h0, notin_of r h0, ca.pure hc⟩
                  subst z
                  cases hc
                · exact ok.elim
              · exact ok.elim
            · exact ok.elim
          · exact ok.elim
    · exact ok.elim
theorem leaveX_ok {x : Exn} {c : Value} {d : Option Addr} {Wx : XK} {Q : VK} (r : RelH K cl F H cs st) (r1 : RelH K cl F1 H1 cs1 st1) (e : Ext F H cs F1 H1 cs1) (dx : DnX K cl F1 H1 cs1 x c d) (ok : okG K cl Wx F H cs (kR K cl) (leaveX st.length x st1) Q) : Wx c d H1 := by
  unfold leaveX at ok
  split at ok
  · exact ok c d F1 H1 cs1 e r1 dx
  · split at ok
    · rename_i hp
      obtain ⟨r2, e2⟩ := r.drop r1 e hp.1 hp.2.1
      obtain ⟨h1, a, gs, h2, h3, h4, h5, h6⟩ := dx
      exact ok c d F1 H1 cs e2 r2 ⟨h1, a, gs, h2, h3, h4, h5, DnL.pur (by rw [List.all_map]; exact hp.2.2) h6⟩
    · exact ok.elim

/-! ### C(..) -/
/-- __init__'s premise at the new object: x its address, dx that of its dict -/
theorem makeC_ok {m : List T → Stor → Rs R} {c : Nat} {xs : List T} {vs : List V} {Wx : XK} {Q : VK} (r : RelH K cl F H cs st) (d : DnL K cl F cs xs vs) (ok : okG K cl Wx F H cs (kR K cl) (makeC m c xs st) Q) (x dx : Addr) (hx : H x = none) (hdx : H dx = none) (hne : dx ≠ x) :
    ∃ F' cs' st' ts, RelH K cl F' (upd (upd H dx (.own x)) x (.ins (cl c) dx [])) cs' st' ∧ DnL K cl F' cs' ts (.ref x :: vs) ∧ okG K cl Wx F' (upd (upd H dx (.own x)) x (.ins (cl c) dx [])) cs' (kR K cl) (m ts st') (fun v H2 => v = .non ∧ Q (.ref x) H2) := by
  unfold makeC at ok
  split at ok
  · rename_i hp
    have hx2 : upd H dx (.own x) x = none := by rw [upd_ne (Ne.symm hne)]; exact hx
    have r1 := (r.alloc (o := .own x) hdx).alloc (o := .ins (cl c) dx []) hx2
    have hF : F x = none := (r.fresh hx).1
    have hFd : F dx = none := (r.fresh hdx).1
    have e01 : Ext F H cs F (upd (upd H dx (.own x)) x (.ins (cl c) dx [])) cs := (r.allocE hdx).trans ((r.alloc hdx).allocE hx2)
    have r2 : RelH K cl F (upd (upd H dx (.own x)) x (.ins (cl c) dx [])) [x] [.ins c []] := ⟨r1.fz, rfl, by simp, fun n c' a hc ha => by
      cases n with
      | zero => simp at hc ha; subst hc; subst ha; exact ⟨hF, dx, [], upd_same, rfl, .nil⟩
      | succ n => simp at hc⟩
    refine ⟨F, [x], [.ins c []], .cell 0 :: xs, r2, .cons (.cell rfl) (DnL.pur hp d), ?_⟩
    have back : ∀ {F1 H1 : Hp} {cs1 : List Addr}, Ext F (upd (upd H dx (.own x)) x (.ins (cl c) dx [])) [x] F1 H1 cs1 → (∀ a o, F1 a = some o → H1 a = some o) → Ext F H cs F1 H1 cs ∧ RelH K cl F1 H1 cs st := by
      intro F1 H1 cs1 e1 fz1
      have keep : ∀ b o, H b = some o → F b = none → H1 b = some o ∧ F1 b = none := fun b o h1 h2 => by
        have nb : b ≠ x := fun z => by rw [z, hx] at h1; cases h1
        have nd : b ≠ dx := fun z => by rw [z, hdx] at h1; cases h1
        obtain ⟨q1, q2, _⟩ := e1.kp b o (by rw [upd_ne nb, upd_ne nd]; exact h1) h2 (by simpa using nb)
        exact ⟨q1, q2⟩
      refine ⟨⟨e1.fz, fun _ _ h => h, fun b o h1 h2 h3 => ⟨(keep b o h1 h2).1, (keep b o h1 h2).2, h3⟩, fun a h => ?_⟩, ⟨fz1, r.len, r.nd, fun n c' a hc ha => ?_⟩⟩
      · exact e01.dom a (e1.dom a h)
      · have ca := r.cell n c' a hc ha
        obtain ⟨o, ho⟩ := ca.has
        cases hFa : F a with
        | none =>
          obtain ⟨q1, q2⟩ := keep a o ho hFa
          exact ca.up e1.fz (fun _ _ h => h) (by rw [q1, ho]) (fun _ => q2)
        | some o' =>
          obtain ⟨o2, h2⟩ := e1.fz.has hFa
          cases c' with
          | gone => exact ⟨o2, fz1 a o2 h2⟩
          | _ => rw [ca.1] at hFa; cases hFa
    cases hm : m (.cell 0 :: xs) [.ins c []] with
    | no => rw [hm] at ok; exact ok
    | ex xx st1 =>
      rw [hm] at ok
      simp only at ok
      split at ok
      · rename_i hc
        intro c' d' F1 H1 cs1 e1 rl dxx
        obtain ⟨e2, r3⟩ := back e1 rl.fz
        obtain ⟨h1, a, gs, h2, h3, h4, h5, h6⟩ := dxx
        exact ok c' d' F1 H1 cs e2 r3 ⟨h1, a, gs, h2, h3, h4, h5, DnL.pur (by rw [List.all_map]; exact hc) h6⟩
      · exact ok.elim
    | ok rr st1 =>
      rw [hm] at ok
      split at ok
      · rename_i d' fs heq
        cases heq
        split at ok
        · rename_i hc
          intro v F1 H1 cs1 e1 rl dr
          cases dr
          refine ⟨rfl, ?_⟩
          obtain ⟨e2, r3⟩ := back e1 rl.fz
          have hcs : cs1[0]? = some x := e1.cx 0 x rfl
          have ca := rl.cell 0 _ x rfl hcs
          exact ok (.ref x) F1 H1 cs e2 r3 ⟨(fun z => nomatch z), x, rfl, hx, notin_of r hx, ca.pure hc⟩
        · exact ok.elim
      · rename_i heq; cases heq
      · exact ok.elim
  · exact ok.elim
end
end Sv
end
section
set_option linter.all false
set_option maxRecDepth 100000
set_option maxHeartbeats 4000000
/-! SvSim4: calls of own defs, own classes made, own methods, properties, fields. -/
namespace Sv
open PySem PySem.Spec PyProof.Rows L2

def pick {α : Type} (pm : List Nat) (l : List α) : List α := (mapO (fun j => l[j]?) pm).getD []
theorem pick_cons {α : Type} {j : Nat} {pm : List Nat} {l : List α} {x : α} {xs : List α} (h1 : l[j]? = some x) (h2 : mapO (fun j => l[j]?) pm = some xs) : mapO (fun j => l[j]?) (j :: pm) = some (x :: xs) := by
  simp only [mapO, h1, h2]
/-- the values in the parameters' order -/
theorem pick_dn {K : PySem.W.Frag} {cl : Nat → Addr} {F : Hp} {cs : List Addr} {xs : List T} {vs : List V} (d : DnL K cl F cs xs vs) : ∀ {pm : List Nat} {ys : List T}, mapO (fun j => xs[j]?) pm = some ys → ∃ zs, mapO (fun j => vs[j]?) pm = some zs ∧ DnL K cl F cs ys zs
  | [], ys, h => by cases h; exact ⟨[], rfl, .nil⟩
  | j :: pm, ys, h => by
    simp only [mapO] at h
    split at h
    · cases h
    · rename_i y hy
      split at h
      · cases h
      · rename_i zs hz
        cases h
        obtain ⟨v, h1, h2⟩ := d.get hy
        obtain ⟨ws, h3, h4⟩ := pick_dn d hz
        exact ⟨v :: ws, pick_cons h1 h3, .cons h2 h4⟩
theorem vals_get : ∀ {vs : List V} {us : List Value} {i : Nat} {v : V}, Vals vs us → vs[i]? = some v → ∃ u, us[i]? = some u ∧ RelV v u
  | _, _, _, _, .nil, e => by simp at e
  | _, _, 0, _, .cons h _, e => by simp at e; subst e; exact ⟨_, rfl, h⟩
  | _, _, i + 1, _, .cons _ l, e => by
    obtain ⟨v, e1, e2⟩ := vals_get (i := i) l (by simpa using e)
    exact ⟨v, by simpa using e1, e2⟩
theorem pick_vals {vs : List V} {us : List Value} (r : Vals vs us) : ∀ {pm : List Nat} {zs : List V}, mapO (fun j => vs[j]?) pm = some zs → ∃ ws, mapO (fun j => us[j]?) pm = some ws ∧ Vals zs ws
  | [], ys, h => by cases h; exact ⟨[], rfl, .nil⟩
  | j :: pm, ys, h => by
    simp only [mapO] at h
    split at h
    · cases h
    · rename_i y hy
      split at h
      · cases h
      · rename_i zs hz
        cases h
        obtain ⟨v, h1, h2⟩ := vals_get r hy
        obtain ⟨ws, h3, h4⟩ := pick_vals r hz
        exact ⟨v :: ws, pick_cons h1 h3, .cons h2 h4⟩
/-- how a def takes keywords -/
def KwF (K : PySem.W.Frag) (cl : Nat → Addr) (fd : FuncData) (ps : List Str) (n : Nat) (ks : List Str) (pm : List Nat) (dts : List T) : Prop :=
  ∃ (dvs : List V) (ds : List Value), Vals dvs ds ∧ (∀ F cs, DnL K cl F cs dts dvs) ∧ ∀ (s : Shared) (us ws : List Value), K.In s.heap → us.length = n → ws.length = ks.length → BindsTo s fd ⟨us, ks.zip ws⟩ (ps.zip (pick pm (us ++ ws ++ ds)))

/-- the promise of a def by the interpreter -/
def spOf (K : PySem.W.Frag) (cl : Nat → Addr) (m : List T → Stor → Rs R) : Sp := fun vs H Q Ex => ∃ F cs st ts, RelH K cl F H cs st ∧ DnL K cl F cs ts vs ∧ okG K cl Ex F H cs (kR K cl) (m ts st) Q
/-- a def keeps it -/
structure FnF (X : Cx) (cl : Nat → Addr) (lv : Nat) (f : Addr) (fd : FuncData) (ps : List Str) (m : List T → Stor → Rs R) : Prop where
  ok : FnOk X.prog X.w X.K X.mg X.base (CX X.prog X.w) lv f fd ps (spOf X.K cl m)
  kp : PySem.W.keepIn X.K (.ref f) = true

section
variable {X : Cx} {cl : Nat → Addr} {W : WX} {E : Ev} {lv : Nat}

/-- the callee runs, by values -/
theorem run_fn' {f : Addr} {fd : FuncData} {ps : List Str} {m : List T → Stor → Rs R} {args : Args} {us : List Value} {vs : List V} {ts : List T} {σ : L2.St} {F H : Hp} {cs : List Addr} {st : Stor} {Q : VK} {pins : List (Addr × Obj)} {s : Shared} (tk : Takes X W) (hr : Room lv X.A) (Fn : FnF X cl lv f fd ps m)
    (I : Inv X pins σ H s) (hb : BindsTo s fd args (ps.zip us)) (rv : Vals vs us) (r : RelH X.K cl F H cs st) (d : DnL X.K cl F cs ts vs) (ok : okG X.K cl (fun c d H' => W c d σ H') F H cs (kR X.K cl) (m ts st) Q) :
    wpAny (model X.prog X.w) X.A (call (.ref f) args.pos args.kw) (EP X pins σ Q) X.xe s := by
  refine wpAny_call (codeAny_mono (Fn.ok.run X.A X.stack s H args us vs Q (fun c d H' => W c d σ H') hr I.env0 hb rv ⟨F, cs, st, ts, r, d, ok⟩) fun res s' hq => ?_)
  cases res with
  | error e => exact tk e s' (XE.of_call I (fun _ _ _ h => h) hq)
  | ok fl =>
    cases fl with
    | ret u => exact I.after hq
    | next => exact False.elim hq
    | brk => exact False.elim hq
    | cont => exact False.elim hq
theorem len_of {f : Addr} {fd : FuncData} {ps : List Str} {m : List T → Stor → Rs R} (Fn : FnF X cl lv f fd ps m) {ts : List T} {vs : List V} {F H : Hp} {cs : List Addr} {st : Stor} {Q : VK} {Wx : XK} (r : RelH X.K cl F H cs st) (d : DnL X.K cl F cs ts vs) (ok : okG X.K cl Wx F H cs (kR X.K cl) (m ts st) Q) : vs.length = ps.length :=
  Fn.ok.len vs H Q Wx ⟨F, cs, st, ts, r, d, ok⟩
theorem call_own {f : Addr} {fd : FuncData} {ps : List Str} {m : List T → Stor → Rs R} {vs dvs : List V} {ds : List Value} {ts dts : List T} {σ : L2.St} {F H : Hp} {cs : List Addr} {st : Stor} {Q : VK} (tk : Takes X W) (hr : Room lv X.A) (Fn : FnF X cl lv f fd ps m) (hb : Binds X.K fd ps ds) (hd : Vals dvs ds)
    (r : RelH X.K cl F H cs st) (d : DnL X.K cl F cs ts vs) (dd : DnL X.K cl F cs dts dvs) (ok : okG X.K cl (fun c d H' => W c d σ H') F H cs (kR X.K cl) (callC m (ts ++ dts) st) Q) : calW X σ (.ref f) vs H Q := fun pins s us I rv => by
  have r2 : Vals (vs ++ dvs) (us ++ ds) := rv.append hd
  obtain ⟨F', cs', st', ts', r', d', ok'⟩ := callC_ok r (d.append dd) ok
  have hl : (us ++ ds).length = ps.length := by rw [← r2.length]; exact len_of Fn r' d' ok'
  exact run_fn' (args := ⟨us, []⟩) tk hr Fn I (hb s us I.kIn hl) r2 r' d' ok'

/-- f(e, ..), f an own def or class -/
theorem tW_callG {x : Str} {f : Addr} {e : Expr} {es : List Expr} {p pos : Pos} {σ : L2.St} {H : Hp} {Q : VK} (hg : Gl X x) (hm : X.mg x = some (.ref f)) (hk : PySem.W.keepIn X.K (.ref f) = true) (hdb : (x == ("__debug__" : Str)) = false)
    (hs : noStar (e :: es) = true) (h : tWA X (e :: es) σ H fun vs H1 => calW X σ (.ref f) vs H1 Q) : tW X (.Call (.Name x p) (e :: es) [] pos) σ H Q := fun pins s I => by
  refine wpAny_Call_Name_kw (ld_glob I hg hm ?_ hdb)
  obtain ⟨h1, h2⟩ := noStar_cons hs
  exact PySem.W.callWith_K (h₀ := X.base) I.ok.mod.kin hk (thn (h pos pins s I) fun us s1 ⟨vs, H1, I1, r, q⟩ => ⟨I1.kIn, q pins s1 us I1 r⟩) (starEach_cons h1) (noStar_any h2)
theorem tW_callG0 {x : Str} {f : Addr} {p pos : Pos} {σ : L2.St} {H : Hp} {Q : VK} (hg : Gl X x) (hm : X.mg x = some (.ref f)) (hk : PySem.W.keepIn X.K (.ref f) = true) (hdb : (x == ("__debug__" : Str)) = false)
    (h : calW X σ (.ref f) [] H Q) : tW X (.Call (.Name x p) [] [] pos) σ H Q := fun pins s I => by
  refine wpAny_Call_Name_kw (ld_glob I hg hm ?_ hdb)
  exact PySem.W.callWith_K0 I.kIn hk (h pins s [] I .nil)

theorem evA_lits : ∀ (ds : List T) (sl : Slt) (st : Stor), evA E (litsC ds) sl st = .ok ds st
  | [], _, _ => rfl
  | d :: r, sl, st => by
    simp only [litsC, evA, evE, evA_lits r]
    rfl
theorem evA_ap {f : Expr → C} : ∀ (es : List Expr) (ds : List T) (sl : Slt) (st : Stor), evA E (apC (argsC f es) (litsC ds)) sl st = (evA E (argsC f es) sl st).bind fun xs st => .ok (xs ++ ds) st
  | [], ds, sl, st => by
    simp only [argsC, apC, evA]
    exact evA_lits ds sl st
  | e :: es, ds, sl, st => by
    have ih := evA_ap (f := f) es ds
    unfold argsC
    split
    · rename_i heq
      cases heq
    · rename_i e' p es' heq
      cases heq
      simp only [apC, evA, Rs.bind_assoc]
      congr 1
      funext x st
      cases seqOf st x.fz with
      | none => rfl
      | some ys => simp only [ih, Rs.bind_assoc]; congr 1; funext xs st; simp [Rs.bind]
    · rename_i e' es' _ heq
      cases heq
      simp only [apC, evA, Rs.bind_assoc]
      congr 1
      funext x st
      simp only [ih, Rs.bind_assoc]
      congr 1
theorem sim_call {x : Str} {s : Sig} {f : Addr} {fd : FuncData} {args : List Expr} {g : Expr → C} {p pos : Pos} {dts : List T} {dvs : List V} {ds : List Value} (tk : Takes X W) (hr : Room lv X.A) (Fn : FnF X cl lv f fd s.ps (E.cal s.f)) (hg : Gl X x) (hm : X.mg x = some (.ref f)) (hdb : (x == ("__debug__" : Str)) = false) (hs : noStar args = true)
    (hb : Binds X.K fd s.ps ds) (hd : Vals dvs ds) (dd : ∀ F cs, DnL X.K cl F cs dts dvs) (ha : SimA X cl W E (argsC g args) args) : SimE X cl W E (.call s.f (apC (argsC g args) (litsC dts))) (.Call (.Name x p) args [] pos) := fun σ H F cs sl st Q r so ok => by
  simp only [evE, evA_ap, Rs.bind_assoc] at ok
  cases args with
  | nil =>
    refine tW_callG0 hg hm Fn.kp hdb (call_own (ts := []) tk hr Fn hb hd r .nil (dd F cs) ?_)
    simpa [argsC, evA, Rs.bind] using ok
  | cons e es => exact tW_callG hg hm Fn.kp hdb hs (ha σ H F cs sl st _ r so (ok.bind (k1 := kL X.K cl) fun xs st1 vs F1 H1 cs1 e1 r1 d1 ok1 => call_own tk hr Fn hb hd r1 d1 (dd F1 cs1) ok1))

/-! ### C(..) -/
theorem make_own {f : Addr} {c : Nat} {fd : FuncData} {ps : List Str} {m : List T → Stor → Rs R} {vs dvs : List V} {ds : List Value} {ts dts : List T} {σ : L2.St} {F H : Hp} {cs : List Addr} {st : Stor} {Q : VK} (tk : Takes X W) (hr : Room (lv + 1) X.A) (M : Mk X.K (cl c) f) (Fn : FnF X cl lv f fd ps m) (hb : Binds X.K fd ps ds) (hd : Vals dvs ds)
    (r : RelH X.K cl F H cs st) (d : DnL X.K cl F cs ts vs) (dd : DnL X.K cl F cs dts dvs) (ok : okG X.K cl (fun c d H' => W c d σ H') F H cs (kR X.K cl) (makeC m c (ts ++ dts) st) Q) : calW X σ (.ref (cl c)) vs H Q := fun pins s us I rv => by
  obtain ⟨F', cs', st', ts', r', d', ok'⟩ := makeC_ok r (d.append dd) ok (s.heap.objs.size + 1) s.heap.objs.size (I.hok.fresh (Nat.le_succ _)) (I.hok.fresh (Nat.le_refl _)) (Nat.ne_of_lt (Nat.lt_succ_self _))
  have I2 := Inv.made (C := cl c) I
  have r2 : Vals (V.ref (s.heap.objs.size + 1) :: (vs ++ dvs)) (Value.ref (s.heap.objs.size + 1) :: (us ++ ds)) := .cons rfl (rv.append hd)
  have hl : (Value.ref (s.heap.objs.size + 1) :: us ++ ds).length = ps.length := by
    have e := r2.length
    rw [len_of Fn r' d' ok'] at e
    exact e.symm
  refine wpAny_call (make_map (f := f) I.kIn M.makes M.init (beq_iff_eq.mp M.fn) (codeAny_mono (Fn.ok.run _ X.stack _ _ ⟨Value.ref (s.heap.objs.size + 1) :: us, []⟩ (Value.ref (s.heap.objs.size + 1) :: (us ++ ds)) _ _ (fun c d H' => W c d σ H') (hr.make (cl c) us [])
    (I2.env0.make (cl c) us []) (hb _ (Value.ref (s.heap.objs.size + 1) :: us) I2.kIn hl) r2 ⟨F', cs', st', ts', r', d', ok'⟩) fun res s' hq' => ?_))
  cases res with
  | error e => exact tk e s' (XE.of_call I2 (fun _ _ _ h => h) hq')
  | ok fl =>
    cases fl with
    | ret u =>
      obtain ⟨v, H', I3, rv', ev, q3⟩ := I2.after hq'
      subst ev
      exact ⟨rv', ⟨V.ref (s.heap.objs.size + 1), H', I3, rfl, q3⟩⟩
    | next => exact False.elim hq'
    | brk => exact False.elim hq'
    | cont => exact False.elim hq'
theorem sim_make {x : Str} {c : Nat} {s : Sig} {f : Addr} {fd : FuncData} {args : List Expr} {g : Expr → C} {p pos : Pos} {dts : List T} {dvs : List V} {ds : List Value} (tk : Takes X W) (hr : Room (lv + 1) X.A) (M : Mk X.K (cl c) f) (Fn : FnF X cl lv f fd s.ps (E.cal s.f)) (hg : Gl X x) (hm : X.mg x = some (.ref (cl c))) (hdb : (x == ("__debug__" : Str)) = false) (hs : noStar args = true)
    (hb : Binds X.K fd s.ps ds) (hd : Vals dvs ds) (dd : ∀ F cs, DnL X.K cl F cs dts dvs) (ha : SimA X cl W E (argsC g args) args) : SimE X cl W E (.make c s.f (apC (argsC g args) (litsC dts))) (.Call (.Name x p) args [] pos) := fun σ H F cs sl st Q r so ok => by
  simp only [evE, evA_ap, Rs.bind_assoc] at ok
  cases args with
  | nil =>
    refine tW_callG0 hg hm M.kp hdb (make_own (ts := []) tk hr M Fn hb hd r .nil (dd F cs) ?_)
    simpa [argsC, evA, Rs.bind] using ok
  | cons e es => exact tW_callG hg hm M.kp hdb hs (ha σ H F cs sl st _ r so (ok.bind (k1 := kL X.K cl) fun xs st1 vs F1 H1 cs1 e1 r1 d1 ok1 => make_own tk hr M Fn hb hd r1 d1 (dd F1 cs1) ok1))

/-! ### fields, properties -/
structure Own (X : Cx) (cl : Nat → Addr) (lv : Nat) (E : Ev) : Prop where
  cf : ClsF X.K cl E.G
  fld : ∀ c f, E.G.fld c f = true → E.G.cls c = true ∧ NoAttr X.K (cl c) f
  meth : ∀ c m f, E.G.meth c m = some f → E.G.cls c = true ∧ ∃ a fd ps, Meth X.K (cl c) m a ∧ FnF X cl lv a fd ps (E.cal f) ∧ Binds X.K fd ps [] ∧ ∀ n ks pm ds, E.G.kw f n ks = some (pm, ds) → KwF X.K cl fd ps n ks pm ds
  prop : ∀ c m f, E.G.prop c m = some f → E.G.cls c = true ∧ ∃ p a fd ps, PropOf X.K (cl c) m p a ∧ FnF X cl lv a fd ps (E.cal f) ∧ Binds X.K fd ps []
def gaW (X : Cx) (σ : L2.St) (x : V) (f : Str) (H : Hp) (Q : VK) : Prop := ∀ (pins : List (Addr × Obj)) (s : Shared) (v : Value) (b : Bool), Inv X pins σ H s → RelV x v → wpAny (model X.prog X.w) X.A (getAttr v f b) (EP X pins σ Q) X.xe s
theorem DnKV.lookup {f : Str} {F : Hp} {cs : List Addr} : ∀ {fs : List (Str × T)} {gs : List (Str × V)} , DnKV X.K cl F cs fs gs → (∀ t, fs.lookup f = some t → ∃ v, gs.lookup f = some v ∧ Dn X.K cl F cs t v) ∧ (fs.lookup f = none → gs.lookup f = none)
  | [], gs, h => by
    cases gs with
    | nil => exact ⟨fun t e => by simp at e, fun _ => rfl⟩
    | cons g r => have := h.1; simp at this
  | (k, t') :: r, gs, h => by
    obtain ⟨v, gr, rfl, d, h'⟩ := h.cases
    have ih := DnKV.lookup (f := f) h'
    rw [List.lookup_cons, List.lookup_cons]
    cases e : f == k with
    | true => exact ⟨fun t et => by cases et; exact ⟨v, rfl, d⟩, fun et => by cases et⟩
    | false => exact ih
theorem okG.calm {σ : L2.St} {F H : Hp} {cs : List Addr} {r : Rs R} {Q : VK} {Wx Wx' : XK} (h : okG X.K cl Wx F H cs (kR X.K cl) r.calm Q) : okG X.K cl Wx' F H cs (kR X.K cl) r Q := by
  cases r with
  | no => exact h
  | ok a st => exact h
  | ex x st => exact h.elim
theorem prop_ok {a dx : Addr} {c : Nat} {gs : List (Str × V)} {f : Str} {g : Nat} {xs : List T} {σ : L2.St} {F H : Hp} {cs : List Addr} {st : Stor} {Q : VK} {Wx : XK} (O : Own X cl lv E) (hr : Room (lv + 1) X.A) (hg : E.G.prop c f = some g) (ea : H a = some (.ins (cl c) dx gs)) (r : RelH X.K cl F H cs st) (d : DnL X.K cl F cs xs [.ref a])
    (ok : okG X.K cl Wx F H cs (kR X.K cl) (callC (E.cal g) xs st).calm Q) : gaW X σ (.ref a) f H Q := fun pins s v b I rv => by
  obtain ⟨hc, p, ga, fd, ps, hp, Fn, hb⟩ := O.prop c f g hg
  obtain rfl : v = Value.ref a := rv
  obtain ⟨F', cs', st', ts', r', d', ok'⟩ := callC_ok r d (okG.calm (σ := σ) (Wx' := E0) ok)
  exact getprop_ok (dvs := []) (ds := []) I ea (O.cf.cls c hc) hp Fn.ok hr hb .nil passL ⟨F', cs', st', ts', r', d', ok'⟩
theorem attrV_ok {o : T} {ov : V} {f : Str} {σ : L2.St} {F H : Hp} {cs : List Addr} {st : Stor} {Q : VK} {Wx : XK} (O : Own X cl lv E) (hr : Room (lv + 1) X.A) (r : RelH X.K cl F H cs st) (d : Dn X.K cl F cs o ov) (ok : okG X.K cl Wx F H cs (kR X.K cl) (attrV E o f st) Q) : gaW X σ ov f H Q := by
  have fin : ∀ {a dx : Addr} {c : Nat} {fs : List (Str × T)} {gs : List (Str × V)} {t : T}, H a = some (.ins (cl c) dx gs) → DnKV X.K cl F cs fs gs → getF fs f = some t → E.G.fld c f = true → okG X.K cl Wx F H cs (kR X.K cl) (.ok (.val t) st) Q → gaW X σ (.ref a) f H Q := by
    intro a dx c fs gs t ea kv hf hfl ok pins s v b I rv
    obtain rfl : v = Value.ref a := rv
    obtain ⟨hc, hn⟩ := O.fld c f hfl
    obtain ⟨w, hw, dw⟩ := (kv.lookup (f := f)).1 t hf
    exact getattr_ok I ea (O.cf.cls c hc) hn hw fun u s' I' ru => ⟨w, H, I', ru, okG.val ok r dw⟩
  unfold attrV at ok
  split at ok
  · rename_i c fs
    have d0 := d
    cases d with
    | ins e k l =>
    split at ok
    · rename_i g hg
      exact prop_ok O hr hg (r.fz _ _ e) r (.cons d0 .nil) ok
    · split at ok
      · rename_i t ht
        split at ok
        · rename_i hfl
          exact fin (r.fz _ _ e) ⟨k, l⟩ ht hfl ok
        · exact ok.elim
      · exact ok.elim
  · rename_i n
    have d0 := d
    cases d with
    | cell e =>
    split at ok
    · rename_i c fs hn
      obtain ⟨a, ea, ca⟩ := r.at hn
      rw [e] at ea; cases ea
      obtain ⟨_, dx, gs, h1, k, l⟩ := ca
      split at ok
      · rename_i g hg
        exact prop_ok O hr hg h1 r (.cons d0 .nil) ok
      · split at ok
        · rename_i t ht
          split at ok
          · rename_i hfl
            exact fin h1 ⟨k, l⟩ ht hfl ok
          · exact ok.elim
        · exact ok.elim
    · exact ok.elim
  · exact ok.elim
theorem sim_attr {o : Expr} {co : C} {f : Str} {pos : Pos} (O : Own X cl lv E) (hr : Room (lv + 1) X.A) (hb : baseOk o = true) (ho : SimE X cl W E co o) : SimE X cl W E (.attr co f) (.Attribute o f pos) := fun σ H F cs sl st Q r so ok => by
  simp only [evE] at ok
  intro pins s I
  refine attr_of (base_ok hb) (thn (ho σ H F cs sl st (fun x H1 => gaW X σ x f H1 Q) r so (ok.bindF fun x st1 xv F1 H1 cs1 e1 r1 d1 ok1 => attrV_ok O hr r1 d1 ok1) pins s I) fun u s1 ⟨x, H1, I1, rx, q⟩ => q pins s1 u _ I1 rx)
end
end Sv
end
section
set_option linter.all false
set_option maxRecDepth 100000
set_option maxHeartbeats 4000000
/-! SvSim5: method calls. -/
namespace Sv
open PySem PySem.Spec PyProof.Rows L2
section
variable {X : Cx} {cl : Nat → Addr} {W : WX} {E : Ev} {lv : Nat}

theorem tW_meth {o : Expr} {m : Str} {args : List Expr} {apos pos : Pos} {σ : L2.St} {H : Hp} {Q : VK} (hb : baseOk o = true) (hs : noStar args = true) (hl : args.length < 29) (hline : (apos.endLine == pos.line) = true)
    (h : tW X o σ H fun x H1 => ∀ (pins : List (Addr × Obj)) (s : Shared) (v : Value) (pl : Sem Bool), Inv X pins σ H1 s → RelV x v →
      wpAny (model X.prog X.w) X.A (getMethod v m pl) (fun fx s2 => wpAny (model X.prog X.w) X.A (callWith pos fx.1 fx.2 (backTo pos (starEach args X.env)) []) (EP X pins σ Q) X.xe s2) X.xe s) : tW X (.Call (.Attribute o m apos) args [] pos) σ H Q := fun pins s I => by
  have hform : methodCallForm (args.length + ([] : List Keyword).length) (backTo pos (starEach args X.env)) (backToKw pos (keywordEach [] X.env)) = true := by
    unfold methodCallForm
    rw [noStar_all hs]
    show (true && true && decide (args.length + 0 + 0 < 30)) = true
    simp
    omega
  have hpos : methodCallPos true o X.env apos pos = pure pos := by unfold methodCallPos; simp [hline]
  rw [arm_eval_Call, base_ok hb]
  refine wpAny_bind (thn (h pins s I) fun ov s1 ⟨x, H1, I1, rx, q⟩ => wpAny_bind (wpAny_standAt ?_))
  unfold methodCall
  rw [hform]
  refine wpAny_bind (wpAny_holding (thn (q pins s1 ov _ I1 rx) fun fx s2 h2 => ?_))
  exact wpAny_bind (wpAny_of_eq hpos h2)

theorem sim_mt {o : Expr} {x : Str} {co ca : C} {args : List Expr} {apos pos : Pos} (O : Own X cl lv E) (tk : Takes X W) (hr : Room (lv + 1) X.A) (hu : X.A.units + 64 < cLine) (hb : baseOk o = true) (hs : noStar args = true) (hl : args.length < 29) (hline : (apos.endLine == pos.line) = true)
    (ho : SimE X cl W E co o) (ha : SimA X cl W E ca args) (hnil : args = [] → ca = .nil) : SimE X cl W E (.mt x (mtOf.lookup x) co ca) (.Call (.Attribute o x apos) args [] pos) := fun σ H F cs sl st Q r so ok => by
  simp only [evE] at ok
  refine tW_meth hb hs hl hline (ho σ H F cs sl st _ r so (ok.bindF fun y st1 yv F1 H1 cs1 e1 r1 d1 ok1 => ?_))
  intro pins s v pl I rv
  split at ok1
  · rename_i hrc
    have so1 := so.ext e1
    generalize hy : y.fz = yt at ok1 hrc d1
    -- a built-in method
    have blt : ∀ {m : Mt}, mtOf.lookup x = some m → (∀ c fs, yt ≠ .ins c fs) → (mtTy m yt st1).isSome = true → okG X.K cl (fun c d H' => W c d σ H') F1 H1 cs1 (kR X.K cl) ((evA E ca sl st1).bind fun xs st => mtV E m yt xs st) Q →
        wpAny (model X.prog X.w) X.A (getMethod v x pl) (fun fx s2 => wpAny (model X.prog X.w) X.A (callWith pos fx.1 fx.2 (backTo pos (starEach args X.env)) []) (EP X pins σ Q) X.xe s2) X.xe s := by
      intro m hm hni hty ok1
      obtain ⟨T, hT⟩ := Option.isSome_iff_exists.mp hty
      obtain ⟨pa, slot, hmd⟩ := mt_slot hT hm
      obtain ⟨t1, t2⟩ := tyV_is I rv (mt_ty r1 d1 hT)
      refine getMethod_builtin t1 pa slot hmd t2 ?_
      show wpAny (model X.prog X.w) X.A (callWith pos (.builtin (mtId m)) [v] (backTo pos (starEach args X.env)) []) (EP X pins σ Q) X.xe s
      cases args with
      | nil =>
        have := hnil rfl
        subst this
        refine Calls.callWith_builtin rfl (PySem.evalArgs_none ?_)
        exact mtV_ok (E := E) (xs := []) hu r1 d1 .nil ok1 pins s [v] I (.cons rv .nil)
      | cons e es =>
        obtain ⟨h1, h2⟩ := noStar_cons hs
        have hA := ha σ H1 F1 cs1 sl st1 (fun vs H2 => calW X σ (.builtin (mtId m)) (yv :: vs) H2 Q) r1 so1 (ok1.bind (k1 := kL X.K cl) fun xs st2 vs F2 H2 cs2 e2 r2 d2 ok2 => mtV_ok (E := E) hu r2 (d1.ext e2) d2 ok2) pos pins s I
        rw [starEach_cons h1] at hA ⊢
        refine Calls.callWith_builtin (by show (false || (backTo pos (starEach es X.env)).any (·.1)) = false; rw [noStar_any h2]; rfl) (Calls.evalArgs_plain ?_)
        exact thn hA fun us s2 ⟨vs, H2, I2, r2, q2⟩ => q2 pins s2 (v :: us) I2 (.cons rv r2)
    cases yt with
    | ins c fs =>
      simp only [recvOk, Bool.and_eq_true] at hrc
      obtain ⟨hf, hmm⟩ := hrc
      obtain ⟨f, hmeth⟩ := Option.isSome_iff_exists.mp hmm
      have hfn : getF fs x = none := by simpa using hf
      obtain ⟨hc, a, fd, ps, hM, Fn, hbd, _⟩ := O.meth c x f hmeth
      have d0 := d1
      cases d1 with
      | ins e k l =>
      rename_i aa dx gs
      obtain rfl : v = Value.ref aa := rv
      have hlk : gs.lookup x = none := (DnKV.lookup (f := x) (⟨k, l⟩ : DnKV X.K cl F1 cs1 fs gs)).2 hfn
      refine getmeth_ok I (r1.fz _ _ e) (O.cf.cls c hc) hM hlk ?_
      have ok2 : okG X.K cl (fun c d H' => W c d σ H') F1 H1 cs1 (kR X.K cl) ((evA E ca sl st1).bind fun xs st => callC (E.cal f) (.ins c fs :: xs) st) Q := by
        have eq : ∀ xs st, methV E x (mtOf.lookup x) (.ins c fs) xs st = callC (E.cal f) (.ins c fs :: xs) st := fun xs st => by
          unfold methV
          simp only [hfn, hmeth]
        simp only [eq] at ok1
        exact ok1
      cases args with
      | nil =>
        have := hnil rfl
        subst this
        have q := call_own (ts := [.ins c fs]) (dts := []) (dvs := []) (ds := []) tk (hr.mono (Nat.le_succ _)) Fn hbd .nil r1 (.cons d0 .nil) .nil ok2
        exact PySem.W.callWith_K0 (first := [.ref aa]) I.kIn hM.kp (q pins s [.ref aa] I (.cons rfl .nil))
      | cons e' es =>
        obtain ⟨h1, h2⟩ := noStar_cons hs
        have hA := ha σ H1 F1 cs1 sl st1 (fun vs H2 => calW X σ (.ref a) (.ref aa :: vs) H2 Q) r1 so1 (ok2.bind (k1 := kL X.K cl) fun xs st2 vs F2 H2 cs2 e2 r2 d2 ok3 => by
          refine call_own (ts := .ins c fs :: xs) (dts := []) (dvs := []) (ds := []) tk (hr.mono (Nat.le_succ _)) Fn hbd .nil r2 (.cons (d0.ext e2) d2) .nil ?_
          simpa using ok3) pos pins s I
        refine PySem.W.callWith_K (first := [.ref aa]) (h₀ := X.base) I.ok.mod.kin hM.kp (thn hA fun us s2 ⟨vs, H2, I2, r2, q2⟩ => ⟨I2.kIn, ?_⟩) (starEach_cons h1) (noStar_any h2)
        exact q2 pins s2 (.ref aa :: us) I2 (.cons rfl r2)
    | _ =>
      simp only [recvOk] at hrc
      split at hrc
      · rename_i m hm
        refine blt hm (fun _ _ z => nomatch z) hrc ?_
        simp only [methV, hm] at ok1
        exact ok1
      · cases hrc
  · exact ok1.elim
end
end Sv
end
section
set_option linter.all false
set_option maxRecDepth 100000
set_option maxHeartbeats 4000000
/-! SvKw: calls with keywords. -/
namespace Sv
open PySem PySem.Spec PyProof.Rows L2

/-- the values of the keywords -/
def tWK (X : Cx) (kws : List Keyword) : TA := fun σ H Q => ∀ (pos : Pos) (pins : List (Addr × Obj)) (s : Shared), Inv X pins σ H s → wpAny (model X.prog X.w) X.A (evalAll ((backToKw pos (keywordEach kws X.env)).map (·.2))) (AP X pins σ Q) X.xe s
theorem kwNs_all {pos : Pos} {env : Env} : ∀ {kws : List Keyword} {ks : List Str}, kwNs kws = some ks → (backToKw pos (keywordEach kws env)).all (·.1.isSome) = true ∧ (backToKw pos (keywordEach kws env)).filterMap (·.1) = ks ∧ (backToKw pos (keywordEach kws env)).any (·.1.isNone) = false ∧ ks.length = kws.length
  | [], ks, h => by cases h; exact ⟨rfl, rfl, rfl, rfl⟩
  | ⟨nm, e, p⟩ :: r, ks, h => by
    cases nm with
    | none => simp [kwNs, mapO] at h
    | some y =>
      simp only [kwNs, mapO] at h
      split at h
      · cases h
      · rename_i zs hz
        cases h
        obtain ⟨h1, h2, h3, h4⟩ := kwNs_all (pos := pos) (env := env) (kws := r) (ks := zs) hz
        refine ⟨?_, ?_, ?_, by simp [h4]⟩
        · show (true && (backToKw pos (keywordEach r env)).all (·.1.isSome)) = true
          rw [h1]; rfl
        · show y :: (backToKw pos (keywordEach r env)).filterMap (·.1) = _
          rw [h2]
        · show (false || (backToKw pos (keywordEach r env)).any (·.1.isNone)) = false
          rw [h3]; rfl

section
variable {X : Cx} {cl : Nat → Addr} {W : WX} {E : Ev} {lv : Nat}
theorem simK {g : Expr → C} (hg : ∀ e, SimE X cl W E (g e) e) : ∀ (kws : List Keyword), noStar (kwVs kws) = true → ∀ (σ : L2.St) (H F : Hp) (cs : List Addr) (sl : Slt) (st : Stor) (Q : List V → Hp → Prop), RelH X.K cl F H cs st → SlOk X.K cl F cs sl σ →
    okG X.K cl (fun c d H' => W c d σ H') F H cs (kL X.K cl) (evA E (argsC g (kwVs kws)) sl st) Q → tWK X kws σ H Q
  | [], _, σ, H, F, cs, sl, st, Q, r, so, ok => fun pos pins s I => wpAny_evalAll_nil ⟨[], H, I, .nil, ok [] F H cs .refl r .nil⟩
  | ⟨nm, e, p⟩ :: kws, hs, σ, H, F, cs, sl, st, Q, r, so, ok => fun pos pins s I => by
    obtain ⟨h1, h2⟩ := noStar_cons (show noStar (e :: kwVs kws) = true from hs)
    have e1 : argsC g (kwVs (⟨nm, e, p⟩ :: kws)) = .cons (g e) (argsC g (kwVs kws)) := by
      show argsC g (e :: kwVs kws) = _
      cases e <;> first | rfl | cases h1
    rw [e1] at ok
    simp only [evA] at ok
    show wpAny _ _ (evalAll ((do let v ← eval e X.env; standAt pos; pure v) :: (backToKw pos (keywordEach kws X.env)).map (·.2))) _ _ s
    refine wpAny_evalAll_cons (wpAny_bind (thn (hg e σ H F cs sl st (fun x H1 => tWK X kws σ H1 fun xs H2 => Q (x :: xs) H2) r so (ok.bindF fun x st1 xv F1 H1 cs1 e1 r1 d1 ok1 => ?_) pins s I) fun u s1 ⟨x, H1, I1, r1, q1⟩ => wpAny_bind (wpAny_standAt (wpAny_pure ?_))))
    · refine simK hg kws h2 σ H1 F1 cs1 sl st1 _ r1 (so.ext e1) (ok1.bind (k1 := kL X.K cl) fun xs st2 vs F2 H2 cs2 e2 r2 d2 ok2 => ?_)
      exact ok2 (xv :: vs) F2 H2 cs2 .refl r2 (.cons (d1.ext e2) d2)
    · exact thn (q1 pos pins s1 I1) fun us s2 ⟨xs, H2, I2, r2, q2⟩ => ⟨x :: xs, H2, I2, .cons r1 r2, q2⟩
theorem simA_of' {f : Expr → C} (h : ∀ e, SimE X cl W E (f e) e) : ∀ es : List Expr, SimA X cl W E (argsC f es) es
  | [] => simA_nil
  | e :: es => by
    cases hs : isStar e with
    | true =>
      cases e <;> first | cases hs | skip
      rename_i e p
      exact simA_star (h e) (simA_of' h es)
    | false =>
      have e1 : argsC f (e :: es) = .cons (f e) (argsC f es) := by cases e <;> first | rfl | cases hs
      rw [e1]
      exact simA_cons (starEach_cons hs) (h e) (simA_of' h es)
theorem evA_ap2 {f : Expr → C} {c2 : C} : ∀ (es : List Expr) (sl : Slt) (st : Stor), evA E (apC (argsC f es) c2) sl st = (evA E (argsC f es) sl st).bind fun xs st => (evA E c2 sl st).bind fun ys st => .ok (xs ++ ys) st
  | [], sl, st => by
    simp only [argsC, apC, evA, Rs.bind, List.nil_append]
    cases evA E c2 sl st <;> rfl
  | e :: es, sl, st => by
    have ih := evA_ap2 (f := f) (c2 := c2) es
    unfold argsC
    split
    · rename_i heq
      cases heq
    · rename_i e' p es' heq
      cases heq
      simp only [apC, evA, Rs.bind_assoc]
      congr 1
      funext x st
      cases seqOf st x.fz with
      | none => rfl
      | some ys =>
        simp only [ih, Rs.bind_assoc]
        congr 1
        funext xs st
        simp only [Rs.bind]
        cases evA E c2 sl st <;> simp
    · rename_i e' es' _ heq
      cases heq
      simp only [apC, evA, Rs.bind_assoc]
      congr 1
      funext x st
      simp only [ih, Rs.bind_assoc]
      congr 1
theorem evA_len {f : Expr → C} : ∀ (es : List Expr), noStar es = true → ∀ (sl : Slt) (st : Stor) (xs : List T) (st' : Stor), evA E (argsC f es) sl st = .ok xs st' → xs.length = es.length
  | [], _, sl, st, xs, st', h => by
    simp only [argsC, evA] at h
    cases h
    rfl
  | e :: es, hs, sl, st, xs, st', h => by
    obtain ⟨h1, h2⟩ := noStar_cons hs
    have e1 : argsC f (e :: es) = .cons (f e) (argsC f es) := by cases e <;> first | rfl | cases h1
    rw [e1] at h
    simp only [evA] at h
    cases ha : evE E (f e) sl st with
    | no => rw [ha] at h; cases h
    | ex x st1 => rw [ha] at h; cases h
    | ok x st1 =>
      rw [ha] at h
      simp only [Rs.bind] at h
      cases hb : evA E (argsC f es) sl st1 with
      | no => rw [hb] at h; cases h
      | ex x st1 => rw [hb] at h; cases h
      | ok ys st2 =>
        rw [hb] at h
        cases h
        simp [evA_len es h2 sl st1 ys _ hb]
theorem bind_len {f : Expr → C} {es : List Expr} {α : Type} {k : List T → Stor → Rs α} (hs : noStar es = true) (sl : Slt) (st : Stor) : (evA E (argsC f es) sl st).bind k = (evA E (argsC f es) sl st).bind fun xs st => if xs.length = es.length then k xs st else .no := by
  cases h : evA E (argsC f es) sl st with
  | no => rfl
  | ex x st1 => rfl
  | ok xs st1 =>
    simp only [Rs.bind]
    rw [if_pos (evA_len es hs sl st xs st1 h)]
/-- the values of a call: those without names, then those with -/
theorem callWith_kw {f : Value} {first : List Value} {args : List Expr} {kws : List Keyword} {ks : List Str} {g : Expr → C} {pos : Pos} {σ : L2.St} {H F : Hp} {cs : List Addr} {sl : Slt} {st : Stor} {Q : VK} {pins : List (Addr × Obj)} {s : Shared} {Q1 : List V → Hp → Prop}
    (hk : PySem.W.keepIn X.K f = true) (hs : noStar args = true) (hsk : noStar (kwVs kws) = true) (hn : kwNs kws = some ks) (hg : ∀ e, SimE X cl W E (g e) e)
    (r : RelH X.K cl F H cs st) (so : SlOk X.K cl F cs sl σ) (I : Inv X pins σ H s) (ok : okG X.K cl (fun c d H' => W c d σ H') F H cs (kL X.K cl) (evA E (apC (argsC g args) (argsC g (kwVs kws))) sl st) Q1)
    (hq : ∀ (vs : List V) (H1 : Hp) (s1 : Shared) (us ws : List Value), Q1 vs H1 → Inv X pins σ H1 s1 → us.length = args.length → ws.length = ks.length → Vals vs (us ++ ws) → wpAny (model X.prog X.w) X.A (call f (first ++ us) (ks.zip ws)) (EP X pins σ Q) X.xe s1) :
    wpAny (model X.prog X.w) X.A (callWith pos f first (backTo pos (starEach args X.env)) (backToKw pos (keywordEach kws X.env))) (EP X pins σ Q) X.xe s := by
  obtain ⟨a1, a2, a3, a4⟩ := kwNs_all (pos := pos) (env := X.env) hn
  rw [evA_ap2, bind_len hs] at ok
  have eq2 : ∀ xs st, (evA E (argsC g (kwVs kws)) sl st).bind (fun ys st => Rs.ok (xs ++ ys) st) = (evA E (argsC g (kwVs kws)) sl st).bind fun ys st => if ys.length = (kwVs kws).length then Rs.ok (xs ++ ys) st else .no := fun xs st => bind_len hsk sl st
  simp only [eq2] at ok
  have inner : ∀ (xs : List T) (vs : List V) (st1 : Stor) (F1 H1 : Hp) (cs1 : List Addr), RelH X.K cl F1 H1 cs1 st1 → SlOk X.K cl F1 cs1 sl σ → DnL X.K cl F1 cs1 xs vs →
      okG X.K cl (fun c d H' => W c d σ H') F1 H1 cs1 (kL X.K cl) ((evA E (argsC g (kwVs kws)) sl st1).bind fun ys st => if ys.length = (kwVs kws).length then Rs.ok (xs ++ ys) st else .no) Q1 → tWK X kws σ H1 fun zs H2 => zs.length = kws.length ∧ Q1 (vs ++ zs) H2 := by
    intro xs vs st1 F1 H1 cs1 r1 so1 d1 ok1
    refine simK hg kws hsk σ H1 F1 cs1 sl st1 _ r1 so1 (ok1.bind (k1 := kL X.K cl) fun ys st2 zs F2 H2 cs2 e2 r2 d2 ok2 => ?_)
    have d2 : DnL X.K cl F2 cs2 ys zs := d2
    split at ok2
    · rename_i hl
      exact ⟨by rw [← d2.length, hl]; simp [kwVs], ok2 (vs ++ zs) F2 H2 cs2 .refl r2 ((d1.ext e2).append d2)⟩
    · exact ok2.elim
  cases args with
  | nil =>
    simp only [argsC, evA, Rs.bind, List.length_nil, if_true] at ok
    have q := inner [] [] st F H cs r so .nil ok pos pins s I
    refine PySem.W.callWith_KW0 (h₀ := X.base) I.ok.mod.kin hk a1 (thn q fun ws s2 ⟨zs, H2, I2, rz, hl, q2⟩ => ⟨I2.kIn, ?_⟩) (by show (false || _) = false; rw [a3]; rfl)
    rw [a2]
    exact hq zs H2 s2 [] ws q2 I2 rfl (by rw [← rz.length, hl, a4]) rz
  | cons e es =>
    obtain ⟨h1, h2⟩ := noStar_cons hs
    have q := simA_of' hg (e :: es) σ H F cs sl st (fun vs H1 => vs.length = (e :: es).length ∧ tWK X kws σ H1 fun zs H2 => zs.length = kws.length ∧ Q1 (vs ++ zs) H2) r so (ok.bind (k1 := kL X.K cl) fun xs st1 vs F1 H1 cs1 e1 r1 d1 ok1 => by
      have d1 : DnL X.K cl F1 cs1 xs vs := d1
      split at ok1
      · rename_i hl
        exact ⟨by rw [← d1.length, hl], inner xs vs st1 F1 H1 cs1 r1 (so.ext e1) d1 ok1⟩
      · exact ok1.elim) pos pins s I
    refine PySem.W.callWith_KW (h₀ := X.base) I.ok.mod.kin hk a1 (thn q fun us s1 ⟨vs, H1, I1, rv, hl1, q1⟩ => thn (q1 pos pins s1 I1) fun ws s2 ⟨zs, H2, I2, rz, hl2, q2⟩ => ⟨I2.kIn, ?_⟩) (by rw [noStar_any hs, a3]; rfl) (starEach_cons h1)
    rw [a2]
    exact hq (vs ++ zs) H2 s2 us ws q2 I2 (by rw [← rv.length, hl1]) (by rw [← rz.length, hl2, a4]) (rv.append rz)
/-- f(e, .., k = v, ..) -/
theorem sim_callK {x : Str} {fi : Nat} {ps : List Str} {f : Addr} {fd : FuncData} {args : List Expr} {kws : List Keyword} {ks : List Str} {g : Expr → C} {p pos : Pos} (tk : Takes X W) (hr : Room lv X.A) (Fn : FnF X cl lv f fd ps (E.cal fi)) (hgl : Gl X x) (hm : X.mg x = some (.ref f)) (hdb : (x == ("__debug__" : Str)) = false) (hs : noStar args = true)
    (hsk : noStar (kwVs kws) = true) (hn : kwNs kws = some ks) (hkw : ∀ n ks pm ds, E.G.kw fi n ks = some (pm, ds) → KwF X.K cl fd ps n ks pm ds) (hg : ∀ e, SimE X cl W E (g e) e) :
    SimE X cl W E (.callK fi args.length ks (apC (argsC g args) (argsC g (kwVs kws)))) (.Call (.Name x p) args kws pos) := fun σ H F cs sl st Q r so ok => by
  simp only [evE] at ok
  intro pins s I
  refine wpAny_Call_Name_kw (ld_glob I hgl hm ?_ hdb)
  refine callWith_kw (first := []) (Q1 := fun vs H1 => ∀ (s1 : Shared) (us ws : List Value), Inv X pins σ H1 s1 → us.length = args.length → ws.length = ks.length → Vals vs (us ++ ws) → wpAny (model X.prog X.w) X.A (call (.ref f) us (ks.zip ws)) (EP X pins σ Q) X.xe s1)
    Fn.kp hs hsk hn hg r so I (ok.bind (k1 := kL X.K cl) fun xs st1 vs F1 H1 cs1 e1 r1 d1 ok1 => ?_) fun vs H1 s1 us ws q1 I1 hl1 hl2 rv => q1 s1 us ws I1 hl1 hl2 rv
  intro s1 us ws I1 hl1 hl2 rv
  have d1 : DnL X.K cl F1 cs1 xs vs := d1
  unfold kwArgs at ok1
  cases hk : E.G.kw fi args.length ks with
  | none => rw [hk] at ok1; exact ok1.elim
  | some pd =>
    obtain ⟨pm, ds⟩ := pd
    rw [hk] at ok1
    simp only at ok1
    split at ok1
    · rename_i ys hy
      split at hy
      · obtain ⟨dvs, dsv, hv, dd, hb⟩ := hkw _ _ _ _ hk
        obtain ⟨zs, h1, h2⟩ := pick_dn (d1.append (dd F1 cs1)) hy
        obtain ⟨qs, h3, h4⟩ := pick_vals (rv.append hv) h1
        obtain ⟨F', cs', st', ts', r', d', ok'⟩ := callC_ok r1 h2 ok1
        have hb' := hb s1 us ws I1.kIn hl1 hl2
        have : pick pm (us ++ ws ++ dsv) = qs := by unfold pick; rw [h3]; rfl
        rw [this] at hb'
        exact run_fn' (args := ⟨us, ks.zip ws⟩) tk hr Fn I1 hb' h4 r' d' ok'
      · cases hy
    · exact ok1.elim
theorem pick_tail {α : Type} {a : α} {l : List α} : ∀ {pm : List Nat}, pm.all (fun j => decide (0 < j)) = true → mapO (fun j => (a :: l)[j]?) pm = mapO (fun j => l[j]?) (pm.map fun j => j - 1)
  | [], _ => rfl
  | j :: pm, h => by
    rw [List.all_cons, Bool.and_eq_true, decide_eq_true_eq] at h
    have e : (a :: l)[j]? = l[j - 1]? := by
      cases j with
      | zero => omega
      | succ j => simp
    simp only [List.map_cons, mapO, e, pick_tail h.2]
/-- C(e, .., k = v, ..) -/
theorem sim_makeK {x : Str} {c fi : Nat} {ps : List Str} {f : Addr} {fd : FuncData} {args : List Expr} {kws : List Keyword} {ks : List Str} {g : Expr → C} {p pos : Pos} (tk : Takes X W) (hr : Room (lv + 1) X.A) (M : Mk X.K (cl c) f) (Fn : FnF X cl lv f fd ps (E.cal fi)) (hgl : Gl X x) (hm : X.mg x = some (.ref (cl c))) (hdb : (x == ("__debug__" : Str)) = false) (hs : noStar args = true)
    (hsk : noStar (kwVs kws) = true) (hn : kwNs kws = some ks) (hkw : ∀ n ks pm ds, E.G.kw fi n ks = some (pm, ds) → KwF X.K cl fd ps n ks pm ds) (hg : ∀ e, SimE X cl W E (g e) e) :
    SimE X cl W E (.makeK c fi args.length ks (apC (argsC g args) (argsC g (kwVs kws)))) (.Call (.Name x p) args kws pos) := fun σ H F cs sl st Q r so ok => by
  simp only [evE] at ok
  intro pins s I
  refine wpAny_Call_Name_kw (ld_glob I hgl hm ?_ hdb)
  refine callWith_kw (first := []) (Q1 := fun vs H1 => ∀ (s1 : Shared) (us ws : List Value), Inv X pins σ H1 s1 → us.length = args.length → ws.length = ks.length → Vals vs (us ++ ws) → wpAny (model X.prog X.w) X.A (call (.ref (cl c)) us (ks.zip ws)) (EP X pins σ Q) X.xe s1)
    M.kp hs hsk hn hg r so I (ok.bind (k1 := kL X.K cl) fun xs st1 vs F1 H1 cs1 e1 r1 d1 ok1 => ?_) fun vs H1 s1 us ws q1 I1 hl1 hl2 rv => q1 s1 us ws I1 hl1 hl2 rv
  intro s1 us ws I1 hl1 hl2 rv
  have d1 : DnL X.K cl F1 cs1 xs vs := d1
  unfold kwMake at ok1
  split at ok1
  · rename_i ys hy
    split at hy
    · rename_i pm ds hk
      split at hy
      · rename_i hc
        obtain ⟨dvs, dsv, hv, dd, hb⟩ := hkw _ _ _ _ hk
        obtain ⟨zs, h1, h2⟩ := pick_dn (d1.append (dd F1 cs1)) hy
        obtain ⟨qs, h3, h4⟩ := pick_vals (rv.append hv) h1
        obtain ⟨F', cs', st', ts', r', d', ok'⟩ := makeC_ok r1 h2 ok1 (s1.heap.objs.size + 1) s1.heap.objs.size (I1.hok.fresh (Nat.le_succ _)) (I1.hok.fresh (Nat.le_refl _)) (Nat.ne_of_lt (Nat.lt_succ_self _))
        have I2 := Inv.made (C := cl c) I1
        have r2 : Vals (V.ref (s1.heap.objs.size + 1) :: zs) (Value.ref (s1.heap.objs.size + 1) :: qs) := .cons rfl h4
        have hp : pick (0 :: pm) (Value.ref (s1.heap.objs.size + 1) :: us ++ ws ++ dsv) = Value.ref (s1.heap.objs.size + 1) :: qs := by
          unfold pick
          rw [pick_cons (x := Value.ref (s1.heap.objs.size + 1)) (xs := qs) (by simp) (by
            rw [show Value.ref (s1.heap.objs.size + 1) :: us ++ ws ++ dsv = Value.ref (s1.heap.objs.size + 1) :: (us ++ ws ++ dsv) by simp, pick_tail hc.2, h3])]
          rfl
        have hb' := hb _ (Value.ref (s1.heap.objs.size + 1) :: us) ws I2.kIn (by simp [hl1]) hl2
        rw [hp] at hb'
        refine wpAny_call (make_map (f := f) I1.kIn M.makes M.init (beq_iff_eq.mp M.fn) (codeAny_mono (Fn.ok.run _ X.stack _ _ ⟨Value.ref (s1.heap.objs.size + 1) :: us, ks.zip ws⟩ (Value.ref (s1.heap.objs.size + 1) :: qs) _ _ (fun c d H' => W c d σ H') (hr.make (cl c) us (ks.zip ws))
          (I2.env0.make (cl c) us (ks.zip ws)) hb' r2 ⟨F', cs', st', ts', r', d', ok'⟩) fun res s' hq' => ?_))
        cases res with
        | error e => exact tk e s' (XE.of_call I2 (fun _ _ _ h => h) hq')
        | ok fl =>
          cases fl with
          | ret u =>
            obtain ⟨v, H', I3, rv', ev, q3⟩ := I2.after hq'
            subst ev
            exact ⟨rv', ⟨V.ref (s1.heap.objs.size + 1), H', I3, rfl, q3⟩⟩
          | next => exact False.elim hq'
          | brk => exact False.elim hq'
          | cont => exact False.elim hq'
      · cases hy
    · cases hy
  · exact ok1.elim
/-- o.m(e, .., k = v, ..) of an own class -/
theorem sim_mtK {o : Expr} {x : Str} {co : C} {args : List Expr} {kws : List Keyword} {ks : List Str} {g : Expr → C} {apos pos : Pos} (O : Own X cl lv E) (tk : Takes X W) (hr : Room (lv + 1) X.A) (hb : baseOk o = true) (hs : noStar args = true) (hl : args.length + kws.length < 28) (hline : (apos.endLine == pos.line) = true)
    (hsk : noStar (kwVs kws) = true) (hn : kwNs kws = some ks) (ho : SimE X cl W E co o) (hg : ∀ e, SimE X cl W E (g e) e) : SimE X cl W E (.mtK x args.length ks co (apC (argsC g args) (argsC g (kwVs kws)))) (.Call (.Attribute o x apos) args kws pos) := fun σ H F cs sl st Q r so ok => by
  simp only [evE] at ok
  intro pins s I
  obtain ⟨a1, a2, a3, a4⟩ := kwNs_all (pos := pos) (env := X.env) hn
  have hform : methodCallForm (args.length + kws.length) (backTo pos (starEach args X.env)) (backToKw pos (keywordEach kws X.env)) = true := by
    unfold methodCallForm
    rw [noStar_all hs, a1]
    show (true && true && decide (args.length + kws.length + (if _ = true then 0 else 1) < 30)) = true
    simp only [Bool.and_self, Bool.true_and, decide_eq_true_eq]
    split <;> omega
  have hpos : methodCallPos true o X.env apos pos = pure pos := by unfold methodCallPos; simp [hline]
  rw [arm_eval_Call, base_ok hb]
  refine wpAny_bind (thn (ho σ H F cs sl st (fun x' H1 => ∀ (s : Shared) (v : Value) (pl : Sem Bool), Inv X pins σ H1 s → RelV x' v →
      wpAny (model X.prog X.w) X.A (getMethod v x pl) (fun fx s2 => wpAny (model X.prog X.w) X.A (callWith pos fx.1 fx.2 (backTo pos (starEach args X.env)) (backToKw pos (keywordEach kws X.env))) (EP X pins σ Q) X.xe s2) X.xe s) r so (ok.bindF fun y st1 yv F1 H1 cs1 e1 r1 d1 ok1 => ?_) pins s I) fun ov s1 ⟨x', H1, I1, rx, q⟩ => wpAny_bind (wpAny_standAt ?_))
  · intro s1 v pl I1 rv
    generalize hy : y.fz = yt at ok1 d1
    cases yt with
    | ins c fs =>
      simp only at ok1
      cases hfn : getF fs x with
      | some _ => rw [hfn] at ok1; exact ok1.elim
      | none =>
        cases hmeth : E.G.meth c x with
        | none => rw [hfn, hmeth] at ok1; exact ok1.elim
        | some f =>
          rw [hfn, hmeth] at ok1
          simp only at ok1
          obtain ⟨hc, a, fd, ps, hM, Fn, hbd, hkw⟩ := O.meth c x f hmeth
          have d0 := d1
          cases d1 with
          | ins e k l =>
          rename_i aa dx gs
          obtain rfl : v = Value.ref aa := rv
          have hlk : gs.lookup x = none := (DnKV.lookup (f := x) (⟨k, l⟩ : DnKV X.K cl F1 cs1 fs gs)).2 hfn
          refine getmeth_ok I1 (r1.fz _ _ e) (O.cf.cls c hc) hM hlk ?_
          refine callWith_kw (first := [.ref aa]) (Q1 := fun vs H1 => ∀ (s1 : Shared) (us ws : List Value), Inv X pins σ H1 s1 → us.length = args.length → ws.length = ks.length → Vals vs (us ++ ws) → wpAny (model X.prog X.w) X.A (call (.ref a) (.ref aa :: us) (ks.zip ws)) (EP X pins σ Q) X.xe s1)
            hM.kp hs hsk hn hg r1 (so.ext e1) I1 (ok1.bind (k1 := kL X.K cl) fun xs st2 vs F2 H2 cs2 e2 r2 d2 ok2 => ?_) fun vs H1 s1 us ws q1 I1 hl1 hl2 rv => q1 s1 us ws I1 hl1 hl2 rv
          intro s2 us ws I2 hl1 hl2 rv
          have d2 : DnL X.K cl F2 cs2 xs vs := d2
          unfold kwArgs at ok2
          cases hk : E.G.kw f (args.length + 1) ks with
          | none => rw [hk] at ok2; exact ok2.elim
          | some pd =>
            obtain ⟨pm, ds⟩ := pd
            rw [hk] at ok2
            simp only at ok2
            split at ok2
            · rename_i ys hy
              split at hy
              · obtain ⟨dvs, dsv, hv, dd, hb⟩ := hkw _ _ _ _ hk
                obtain ⟨zs, h1, h2⟩ := pick_dn (DnL.append (.cons (d0.ext e2) d2) (dd F2 cs2)) hy
                obtain ⟨qs, h3, h4⟩ := pick_vals (us := Value.ref aa :: (us ++ ws) ++ dsv) (Vals.append (.cons (show RelV (V.ref aa) (Value.ref aa) from rfl) rv) hv) h1
                obtain ⟨F', cs', st', ts', r', d', ok'⟩ := callC_ok r2 h2 ok2
                have hb' := hb s2 (.ref aa :: us) ws I2.kIn (by simp [hl1]) hl2
                have : pick pm (Value.ref aa :: us ++ ws ++ dsv) = qs := by unfold pick; rw [show Value.ref aa :: us ++ ws ++ dsv = Value.ref aa :: (us ++ ws) ++ dsv by simp, h3]; rfl
                rw [this] at hb'
                exact run_fn' (args := ⟨.ref aa :: us, ks.zip ws⟩) tk (hr.mono (Nat.le_succ _)) Fn I2 hb' h4 r' d' ok'
              · cases hy
            · exact ok2.elim
    | _ => exact ok1.elim
  · unfold methodCall
    rw [hform]
    refine wpAny_bind (wpAny_holding (thn (q s1 ov _ I1 rx) fun fx s2 h2 => ?_))
    exact wpAny_bind (wpAny_of_eq hpos h2)
end
end Sv
end
section
set_option linter.all false
set_option maxRecDepth 100000
set_option maxHeartbeats 4000000
/-! SvIter: what loops and comprehensions walk. -/
namespace Sv
open PySem PySem.Spec PyProof.Rows L2

def tWI (X : Cx) (tg it : Expr) : TI := fun σ H R => ∀ (pins : List (Addr × Obj)) (s : Shared), Inv X pins σ H s →
  wpAny (model X.prog X.w) X.A (eval it X.env) (fun v s1 => wpAny (model X.prog X.w) X.A (pyIter v) (PIE X pins σ tg R) X.xe s1) X.xe s
theorem piW {X : Cx} {tg it : Expr} : PI X tg it (tWI X tg it) := ⟨fun pins s σ H R I h => h pins s I⟩
theorem tWI_of {X : Cx} {tg it : Expr} {t : TI} {σ : L2.St} {H : Hp} {R : It → Hp → Prop} (h : PI X tg it t) (q : t σ H R) : tWI X tg it σ H R := fun pins s I => h.run pins s σ H R I q

/-- the item at turn i: none: stuck; some none: the end -/
def srcAt (s : Src) (st : Stor) (i : Nat) : Option (Option T) :=
  match s with
  | .fix xs => some xs[i]?
  | .cell n => match st[n]? with
    | some (.lst xs) => some xs[i]?
    | _ => none
structure FeedAt (K : PySem.W.Frag) (cl : Nat → Addr) (J : It) (s : Src) (F H : Hp) (cs : List Addr) (st : Stor) (i : Nat) : Prop where
  go : ∀ x, srcAt s st i = some (some x) → J.go i H ∧ ∀ v H', J.yld i H v H' → ∃ F', Ext F H cs F' H' cs ∧ RelH K cl F' H' cs st ∧ Dn K cl F' cs x v
  stop : srcAt s st i = some none → J.stop i H
structure Ex2 (F : Hp) (cs : List Addr) (F' : Hp) (cs' : List Addr) : Prop where
  fz : UpF F F'
  cx : ∀ (n : Nat) (a : Addr), cs[n]? = some a → cs'[n]? = some a
theorem Ext.e2 {F H F' H' : Hp} {cs cs' : List Addr} (e : Ext F H cs F' H' cs') : Ex2 F cs F' cs' := ⟨e.fz, e.cx⟩
theorem Ex2.refl {F : Hp} {cs : List Addr} : Ex2 F cs F cs := ⟨.refl, fun _ _ h => h⟩
theorem Ex2.trans {F F1 F' : Hp} {cs cs1 cs' : List Addr} (a : Ex2 F cs F1 cs1) (b : Ex2 F1 cs1 F' cs') : Ex2 F cs F' cs' := ⟨a.fz.trans b.fz, fun n x h => b.cx n x (a.cx n x h)⟩
def Feeds (K : PySem.W.Frag) (cl : Nat → Addr) (J : It) (s : Src) (F0 : Hp) (cs0 : List Addr) : Prop :=
  ∀ F H cs st i, Ex2 F0 cs0 F cs → RelH K cl F H cs st → FeedAt K cl J s F H cs st i
def kS (K : PySem.W.Frag) (cl : Nat → Addr) : Dk Src It := ⟨fun _ s F H cs J => Feeds K cl J s F cs, fun _ h => h⟩

def SimI (X : Cx) (cl : Nat → Addr) (W : WX) (E : Ev) (c : C) (tg e : Expr) : Prop := ∀ (σ : L2.St) (H F : Hp) (cs : List Addr) (sl : Slt) (st : Stor) (R : It → Hp → Prop), RelH X.K cl F H cs st → SlOk X.K cl F cs sl σ →
  okG X.K cl (fun c d H' => W c d σ H') F H cs (kS X.K cl) (evI E c sl st) R → tWI X tg e σ H R

section
variable {K : PySem.W.Frag} {cl : Nat → Addr} {F H : Hp} {cs : List Addr}
theorem feeds_list {a : Addr} {vs : List V} {xs : List T} (h : F a = some (.lst vs)) (d : DnL K cl F cs xs vs) : Feeds K cl (Itl K a) (.fix xs) F cs := fun F1 H1 cs1 st i e r => by
  have hq : SqL K H1 a vs := SqL.of (r.fz a _ (e.fz.lst h))
  have d1 := d.up e.fz e.cx
  refine ⟨fun x hx => ?_, fun hx => ?_⟩
  · have hx : xs[i]? = some x := Option.some.inj hx
    obtain ⟨v, hv, dv⟩ := d1.get hx
    refine ⟨⟨vs, v, hq, hv⟩, fun v' H' y => ?_⟩
    obtain ⟨rfl, y⟩ := y
    have := y vs hq
    rw [hv] at this
    cases this
    exact ⟨F1, .refl, r, dv⟩
  · have hx : xs[i]? = none := Option.some.inj hx
    exact ⟨vs, hq, by rw [← d1.length]; exact List.getElem?_eq_none_iff.mp hx⟩
theorem feeds_tup' {a : Addr} {vs : List V} {xs : List T} (h : SqT K F a vs) (d : DnL K cl F cs xs vs) : Feeds K cl (Itt K a) (.fix xs) F cs := fun F1 H1 cs1 st i e r => by
  have hq : SqT K H1 a vs := SqT.up r.fz (SqT.upF e.fz h)
  have d1 := d.up e.fz e.cx
  refine ⟨fun x hx => ?_, fun hx => ?_⟩
  · have hx : xs[i]? = some x := Option.some.inj hx
    obtain ⟨v, hv, dv⟩ := d1.get hx
    refine ⟨⟨vs, v, hq, hv⟩, fun v' H' y => ?_⟩
    obtain ⟨rfl, y⟩ := y
    have := y vs hq
    rw [hv] at this
    cases this
    exact ⟨F1, .refl, r, dv⟩
  · have hx : xs[i]? = none := Option.some.inj hx
    exact ⟨vs, hq, by rw [← d1.length]; exact List.getElem?_eq_none_iff.mp hx⟩
theorem feeds_cell {a : Addr} {n : Nat} (h : cs[n]? = some a) : Feeds K cl (Itl K a) (.cell n) F cs := fun F1 H1 cs1 st i e r => by
  refine ⟨fun x hx => ?_, fun hx => ?_⟩
  all_goals
    unfold srcAt at hx
    dsimp only at hx
    split at hx
    · rename_i xs hn
      obtain ⟨nF, vs, ha, dl⟩ := r.cell n _ a hn (e.cx n a h)
      have hq : SqL K H1 a vs := SqL.of ha
      first
        | (have hx : xs[i]? = some x := Option.some.inj hx
           obtain ⟨v, hv, dv⟩ := dl.get hx
           refine ⟨⟨vs, v, hq, hv⟩, fun v' H' y => ?_⟩
           obtain ⟨rfl, y⟩ := y
           have := y vs hq
           rw [hv] at this
           cases this
           exact ⟨F1, .refl, r, dv⟩)
        | (have hx : xs[i]? = none := Option.some.inj hx
           exact ⟨vs, hq, by rw [← dl.length]; exact List.getElem?_eq_none_iff.mp hx⟩)
    · cases hx
theorem feeds_str (z : Str) : Feeds K cl (Its z) (.fix (z.cps.toList.map fun c => T.str ⟨#[c]⟩)) F cs := fun F1 H1 cs1 st i e r => by
  refine ⟨fun x hx => ?_, fun hx => ?_⟩
  · have hx := Option.some.inj hx
    rw [List.getElem?_map, Array.getElem?_toList] at hx
    cases hc : z.cps[i]? with
    | none => rw [hc] at hx; cases hx
    | some c =>
      rw [hc] at hx
      cases hx
      refine ⟨(Array.getElem?_eq_some_iff.mp hc).1, fun v' H' y => ?_⟩
      obtain ⟨rfl, c', hc', rfl⟩ := y
      rw [hc] at hc'
      cases hc'
      exact ⟨F1, .refl, r, .str _⟩
  · have hx := Option.some.inj hx
    rw [List.getElem?_map, Array.getElem?_toList] at hx
    cases hc : z.cps[i]? with
    | none => exact Array.getElem?_eq_none_iff.mp hc
    | some c => rw [hc] at hx; cases hx
theorem feeds_range (lo hi : Int) : Feeds K cl (Itr lo (hi - lo).toNat) (.fix (rangeT lo hi)) F cs := fun F1 H1 cs1 st i e r => by
  refine ⟨fun x hx => ?_, fun hx => ?_⟩
  · have hx : (rangeT lo hi)[i]? = some x := Option.some.inj hx
    unfold rangeT at hx
    rw [List.getElem?_map] at hx
    by_cases hl : i < (hi - lo).toNat
    · rw [List.getElem?_range hl] at hx
      cases hx
      refine ⟨hl, fun v' H' y => ?_⟩
      obtain ⟨rfl, rfl⟩ := y
      exact ⟨F1, .refl, r, .int _⟩
    · rw [List.getElem?_eq_none (by simpa using hl)] at hx
      cases hx
  · have hx : (rangeT lo hi)[i]? = none := Option.some.inj hx
    unfold rangeT at hx
    have := List.getElem?_eq_none_iff.mp hx
    rw [List.length_map, List.length_range] at this
    exact this
theorem dn_key (k : Key) : Dn K cl F cs (keyT k) (kV k) := by
  cases k with
  | inl i => exact .int i
  | inr x => exact .str x
theorem feeds_keys {a : Addr} {o : Obj} {gs : List (Key × V)} {kvs : List (Key × T)} (h : F a = some (.frz o (.dK gs))) (ek : kvs.map (·.1) = gs.map (·.1)) : Feeds K cl (Itk a o gs) (.fix (kvs.map fun kv => keyT kv.1)) F cs := fun F1 H1 cs1 st i e r => by
  have hF : F1 a = some (.frz o (.dK gs)) := by
    rcases e.fz a _ h with h1 | ⟨_, _, z, _⟩
    · exact h1
    · cases z
  have hq := r.fz a _ hF
  have hl : kvs.length = gs.length := by simpa using congrArg List.length ek
  have hk : ∀ i : Nat, (kvs[i]?).map (·.1) = (gs[i]?).map (·.1) := fun i => by
    rw [← List.getElem?_map, ← List.getElem?_map, ek]
  refine ⟨fun x hx => ?_, fun hx => ?_⟩
  · have hx := Option.some.inj hx
    rw [List.getElem?_map] at hx
    cases hc : kvs[i]? with
    | none => rw [hc] at hx; cases hx
    | some c =>
      rw [hc] at hx
      cases hx
      refine ⟨⟨hq, by rw [← hl]; exact (List.getElem?_eq_some_iff.mp hc).1⟩, fun v' H' y => ?_⟩
      obtain ⟨rfl, k, v, hg, rfl⟩ := y
      have := hk i
      rw [hc, hg] at this
      have e2 : c.1 = k := Option.some.inj this
      subst e2
      exact ⟨F1, .refl, r, dn_key _⟩
  · have hx := Option.some.inj hx
    rw [List.getElem?_map] at hx
    cases hc : kvs[i]? with
    | none => exact ⟨hq, by rw [← hl]; exact List.getElem?_eq_none_iff.mp hc⟩
    | some c => rw [hc] at hx; cases hx
theorem enumT_get : ∀ (xs : List T) (k i : Nat), (enumT k xs)[i]? = (xs[i]?).map fun x => T.tup [.int (k + i : Nat), x]
  | [], k, i => by simp [enumT]
  | x :: xs, k, 0 => by simp [enumT]
  | x :: xs, k, i + 1 => by
    simp only [enumT, List.getElem?_cons_succ]
    rw [enumT_get xs (k + 1) i]
    congr 1
    funext y
    have : k + 1 + i = k + (i + 1) := by omega
    rw [this]
theorem zipT_get : ∀ (xs ys : List T) (i : Nat), (zipT xs ys)[i]? = match xs[i]?, ys[i]? with
    | some x, some y => some (T.tup [x, y])
    | _, _ => none
  | [], ys, i => by simp [zipT]
  | x :: xs, [], i => by
    simp only [zipT]
    cases (x :: xs)[i]? <;> simp
  | x :: xs, y :: ys, 0 => by simp [zipT]
  | x :: xs, y :: ys, i + 1 => by
    simp only [zipT, List.getElem?_cons_succ]
    exact zipT_get xs ys i
/-- a new tuple, frozen at once -/
theorem newTup {st : Stor} {p : Addr} {xs : List T} {vs : List V} (r : RelH K cl F H cs st) (hp : H p = none) (d : DnL K cl F cs xs vs) : ∃ F', Ext F H cs F' (upd H p (.tup vs)) cs ∧ RelH K cl F' (upd H p (.tup vs)) cs st ∧ Dn K cl F' cs (.tup xs) (.ref p) := by
  have hn := (r.fresh hp).1
  exact ⟨upd F p (.tup vs), (r.allocE hp).freeze hp hn, (r.alloc hp).freeze upd_same (r.fresh hp).2, .tup (.inl (.inl upd_same)) (d.up (upd_up hn) fun _ _ h => h)⟩
theorem feeds_enum {a : Addr} {vs : List V} {xs : List T} (h : F a = some (.lst vs)) (d : DnL K cl F cs xs vs) : Feeds K cl (Ite K a) (.fix (enumT 0 xs)) F cs := fun F1 H1 cs1 st i e r => by
  have hq : SqL K H1 a vs := SqL.of (r.fz a _ (e.fz.lst h))
  have d1 := d.up e.fz e.cx
  refine ⟨fun x hx => ?_, fun hx => ?_⟩
  · have hx := Option.some.inj hx
    rw [enumT_get] at hx
    cases hc : xs[i]? with
    | none => rw [hc] at hx; cases hx
    | some y =>
      rw [hc] at hx
      cases hx
      obtain ⟨v, hv, dv⟩ := d1.get hc
      refine ⟨⟨vs, v, hq, hv⟩, fun v' H' yy => ?_⟩
      obtain ⟨p, z, rfl, hp, rfl, yy⟩ := yy
      have := yy vs hq
      rw [hv] at this
      cases this
      refine newTup r hp (.cons ?_ (.cons dv .nil))
      rw [Nat.zero_add]
      exact .int _
  · have hx := Option.some.inj hx
    rw [enumT_get] at hx
    cases hc : xs[i]? with
    | none => exact ⟨vs, hq, by rw [← d1.length]; exact List.getElem?_eq_none_iff.mp hc⟩
    | some y => rw [hc] at hx; cases hx
theorem feeds_zip {a b : Addr} {vs ws : List V} {xs ys : List T} (h : F a = some (.lst vs)) (d : DnL K cl F cs xs vs) (h' : F b = some (.lst ws)) (d' : DnL K cl F cs ys ws) : Feeds K cl (Itz K a b) (.fix (zipT xs ys)) F cs := fun F1 H1 cs1 st i e r => by
  have hq : SqL K H1 a vs := SqL.of (r.fz a _ (e.fz.lst h))
  have hq' : SqL K H1 b ws := SqL.of (r.fz b _ (e.fz.lst h'))
  have d1 := d.up e.fz e.cx
  have d2 := d'.up e.fz e.cx
  refine ⟨fun x hx => ?_, fun hx => ?_⟩
  · have hx := Option.some.inj hx
    rw [zipT_get] at hx
    split at hx
    · rename_i x1 y1 hc hc'
      cases hx
      obtain ⟨v, hv, dv⟩ := d1.get hc
      obtain ⟨v2, hv2, dv2⟩ := d2.get hc'
      refine ⟨⟨vs, ws, v, v2, hq, hq', hv, hv2⟩, fun v' H' yy => ?_⟩
      obtain ⟨p, z, z2, rfl, hp, rfl, y1, y2⟩ := yy
      have := y1 vs hq
      rw [hv] at this
      cases this
      have := y2 ws hq'
      rw [hv2] at this
      cases this
      exact newTup r hp (.cons dv (.cons dv2 .nil))
    · cases hx
  · have hx := Option.some.inj hx
    rw [zipT_get] at hx
    refine ⟨vs, ws, hq, hq', ?_⟩
    rw [← d1.length, ← d2.length]
    cases hc : xs[i]? with
    | none => exact .inl (List.getElem?_eq_none_iff.mp hc)
    | some y =>
      cases hc' : ys[i]? with
      | none => exact .inr (List.getElem?_eq_none_iff.mp hc')
      | some y' => rw [hc, hc'] at hx; cases hx
theorem feeds_zipT {a b : Addr} {vs ws : List V} {xs ys : List T} (h : SqT K F a vs) (d : DnL K cl F cs xs vs) (h' : SqT K F b ws) (d' : DnL K cl F cs ys ws) : Feeds K cl (RZ.ItzT K a b) (.fix (zipT xs ys)) F cs := fun F1 H1 cs1 st i e r => by
  have hq : SqT K H1 a vs := SqT.up r.fz (SqT.upF e.fz h)
  have hq' : SqT K H1 b ws := SqT.up r.fz (SqT.upF e.fz h')
  have d1 := d.up e.fz e.cx
  have d2 := d'.up e.fz e.cx
  refine ⟨fun x hx => ?_, fun hx => ?_⟩
  · have hx := Option.some.inj hx
    rw [zipT_get] at hx
    split at hx
    · rename_i x1 y1 hc hc'
      cases hx
      obtain ⟨v, hv, dv⟩ := d1.get hc
      obtain ⟨v2, hv2, dv2⟩ := d2.get hc'
      refine ⟨⟨vs, ws, v, v2, hq, hq', hv, hv2⟩, fun v' H' yy => ?_⟩
      obtain ⟨p, z, z2, rfl, hp, rfl, y1, y2⟩ := yy
      have := y1 vs hq
      rw [hv] at this
      cases this
      have := y2 ws hq'
      rw [hv2] at this
      cases this
      exact newTup r hp (.cons dv (.cons dv2 .nil))
    · cases hx
  · have hx := Option.some.inj hx
    rw [zipT_get] at hx
    refine ⟨vs, ws, hq, hq', ?_⟩
    rw [← d1.length, ← d2.length]
    cases hc : xs[i]? with
    | none => exact .inl (List.getElem?_eq_none_iff.mp hc)
    | some y =>
      cases hc' : ys[i]? with
      | none => exact .inr (List.getElem?_eq_none_iff.mp hc')
      | some y' => rw [hc, hc'] at hx; cases hx
/-- a frozen dict locked for good -/
theorem lockF {st : Stor} {a : Addr} {o : Obj} {gs : List (Key × V)} (r : RelH K cl F H cs st) (ha : F a = some (.dK gs)) : Ext F H cs (upd F a (.frz o (.dK gs))) (upd H a (.frz o (.dK gs))) cs ∧ RelH K cl (upd F a (.frz o (.dK gs))) (upd H a (.frz o (.dK gs))) cs st := by
  have up : UpF F (upd F a (.frz o (.dK gs))) := fun x u h => by
    by_cases e : x = a
    · subst e
      rw [ha] at h
      cases h
      exact .inr ⟨gs, o, rfl, upd_same⟩
    · exact .inl (by rw [upd_ne e]; exact h)
  refine ⟨⟨up, fun _ _ h => h, fun b u h1 h2 h3 => ?_, fun x h => ?_⟩, ⟨fun x u h => ?_, r.len, r.nd, fun n c b h1 h2 => ?_⟩⟩
  · have nb : b ≠ a := fun e => by rw [e, ha] at h2; cases h2
    exact ⟨by rw [upd_ne nb]; exact h1, by rw [upd_ne nb]; exact h2, h3⟩
  · by_cases e : x = a
    · subst e; rw [upd_same] at h; cases h
    · rw [upd_ne e] at h; exact h
  · by_cases e : x = a
    · subst e; rw [upd_same] at h ⊢; exact h
    · rw [upd_ne e] at h ⊢; exact r.fz x u h
  · have ca := r.cell n c b h1 h2
    by_cases e : b = a
    · subst e
      cases c with
      | lst xs => rw [ca.1] at ha; cases ha
      | dic xs => rw [ca.1] at ha; cases ha
      | ins c xs => rw [ca.1] at ha; cases ha
      | gone => exact ⟨_, upd_same⟩
    · exact ca.up up (fun _ _ h => h) (upd_ne e) (fun h => by rw [upd_ne e]; exact h)
end

section
variable {X : Cx} {cl : Nat → Addr} {W : WX} {E : Ev}
/-- a value, walked -/
theorem sim_itr {e tg : Expr} {c : C} (h : SimE X cl W E c e) : SimI X cl W E (.itr c) tg e := fun σ H F cs sl st R r so ok pins s I => by
  simp only [evI] at ok
  refine thn (h σ H F cs sl st (fun x H1 => ∀ s1 u, Inv X pins σ H1 s1 → RelV x u → wpAny (model X.prog X.w) X.A (pyIter u) (PIE X pins σ tg R) X.xe s1) r so (ok.bindF fun x st1 xv F1 H1 cs1 e1 r1 d1 ok1 => ?_) pins s I) fun v s1 ⟨x, H1, I1, r1, q1⟩ => q1 s1 v I1 r1
  cases hs : srcOf st1 x.fz with
  | none => rw [hs] at ok1; exact ok1.elim
  | some sr =>
    rw [hs] at ok1
    intro s1 u I1 ru
    generalize x.fz = y at d1 hs
    cases d1 with
    | non => cases hs
    | bl b => cases hs
    | int b => cases hs
    | scr ns hh => cases hs
    | ins h1 h2 h3 => cases hs
    | str z =>
      cases hs
      obtain ⟨t, rfl⟩ := ru
      have q := ok1 (Its z) F1 H1 cs1 .refl r1 (feeds_str z)
      cases ha : z.cps.all (· < 128)
      · exact wpAny_pyIter_wide ha (pi_one (tk := s1.toks) I1 _ (turn_str _ z t "str_iterator" (.inr rfl)) ⟨_, Heap.get?_push_size _ rfl, rfl, rfl⟩ q)
      · exact wpAny_pyIter_ascii ha (pi_one (tk := s1.toks) I1 _ (turn_str _ z t "str_ascii_iterator" (.inl rfl)) ⟨_, Heap.get?_push_size _ rfl, rfl, rfl⟩ q)
    | @tup a vs xs hq dl =>
      cases hs
      obtain rfl : u = Value.ref a := ru
      have q := ok1 (Itt X.K a) F1 H1 cs1 .refl r1 (feeds_tup' hq dl)
      obtain ⟨its, rv, p, hz⟩ := I1.tuple (SqT.up r1.fz hq)
      exact wpAny_pyIter_tuple (show s1.heap.IsTuple a its.toArray from p) (pi_one (tk := s1.toks) I1 _ (turn_tuple a _) ⟨_, Heap.get?_push_size _ rfl, rfl, rfl⟩ q)
    | @lst a vs xs hq dl =>
      cases hs
      obtain rfl : u = Value.ref a := ru
      have q := ok1 (Itl X.K a) F1 H1 cs1 .refl r1 (feeds_list hq dl)
      obtain ⟨its, rv, p, hz⟩ := I1.list (SqL.of (r1.fz _ _ hq))
      exact wpAny_pyIter_list p.isList (pi_one (tk := s1.toks) I1 _ (turn_list a _) ⟨_, Heap.get?_push_size _ rfl, rfl, rfl⟩ q)
    | @cell n a hc =>
      obtain rfl : u = Value.ref a := ru
      simp only [srcOf] at hs
      split at hs
      · rename_i xs hn
        cases hs
        obtain ⟨nF, vs, ha, dl⟩ := r1.cell n _ a hn hc
        have q := ok1 (Itl X.K a) F1 H1 cs1 .refl r1 (feeds_cell hc)
        obtain ⟨its, rv, p, hz⟩ := I1.list (SqL.of ha)
        exact wpAny_pyIter_list p.isList (pi_one (tk := s1.toks) I1 _ (turn_list a _) ⟨_, Heap.get?_push_size _ rfl, rfl, rfl⟩ q)
      · cases hs
    | @dic a gs kvs hq ek dl =>
      cases hs
      obtain rfl : u = Value.ref a := ru
      have go : ∀ (o : Obj) (F2 H2 : Hp), Ext F1 H1 cs1 F2 H2 cs1 → RelH X.K cl F2 H2 cs1 st1 → F2 a = some (.frz o (.dK gs)) → Inv X pins σ H2 s1 → wpAny (model X.prog X.w) X.A (pyIter (.ref a)) (PIE X pins σ tg R) X.xe s1 := fun o F2 H2 e2 r2 hf I2 => by
        have q := ok1 (Itk a o gs) F2 H2 cs1 e2 r2 (feeds_keys hf ek)
        obtain ⟨hs, hgd, hx, es, ep, vs, hdt, hsz, kv, hm⟩ := I2.frzK (r2.fz _ _ hf)
        refine iter_keys hs hgd hx hdt (pi_one (tk := s1.toks) I2 _ (turn_keys _ hdt) ⟨_, Heap.get?_push_size _ rfl, rfl, ?_⟩ q)
        rw [hsz] <;> rfl
      rcases hq with hq | ⟨o, hq⟩
      · obtain ⟨o, I2⟩ := I1.lock (r1.fz _ _ hq) trivial
        obtain ⟨e2, r2⟩ := lockF (o := o) r1 hq
        exact go o _ _ e2 r2 upd_same I2
      · exact go o F1 H1 .refl r1 hq I1
theorem simI_no {c : C} {tg e : Expr} (h : ∀ sl st, evI E c sl st = .no) : SimI X cl W E c tg e := fun σ H F cs sl st Q r so ok => by rw [h] at ok; exact ok.elim
theorem okG.bindE {α β γ δ : Type} {K : PySem.W.Frag} {Wx : XK} {F H : Hp} {cs : List Addr} {k1 : Dk α β} {k2 : Dk γ δ} {m : Rs α} {f : α → Stor → Rs γ} {Q : δ → Hp → Prop} {Q1 : β → Hp → Prop} (h : okG K cl Wx F H cs k2 (m.bind f) Q)
    (hk : ∀ a st v F1 H1 cs1, m = .ok a st → Ext F H cs F1 H1 cs1 → RelH K cl F1 H1 cs1 st → k1.D H a F1 H1 cs1 v → okG K cl Wx F1 H1 cs1 k2 (f a st) Q → Q1 v H1) : okG K cl Wx F H cs k1 m Q1 := by
  cases m with
  | no => exact h
  | ok a st => exact fun v F' H' cs' e r d => hk a st v F' H' cs' rfl e r d (okG.rebase e h)
  | ex x st => exact h
theorem evA_len1 {c : C} {sl : Slt} {st st1 : Stor} {xs : List T} (h : evA E (.cons c .nil) sl st = .ok xs st1) : xs.length = 1 := by
  simp only [evA] at h
  cases he : evE E c sl st with
  | no => rw [he] at h; cases h
  | ex x st1 => rw [he] at h; cases h
  | ok x st1 => rw [he] at h; cases h; rfl
theorem evA_len2 {c c' : C} {sl : Slt} {st st1 : Stor} {xs : List T} (h : evA E (.cons c (.cons c' .nil)) sl st = .ok xs st1) : xs.length = 2 := by
  simp only [evA] at h
  cases he : evE E c sl st with
  | no => rw [he] at h; cases h
  | ex x st1 => rw [he] at h; cases h
  | ok x st1 =>
    rw [he] at h
    simp only [Rs.bind] at h
    cases he2 : evE E c' sl st1 with
    | no => rw [he2] at h; cases h
    | ex x st1 => rw [he2] at h; cases h
    | ok x st1 => rw [he2] at h; cases h; rfl
theorem sim_rng1 {a tg : Expr} {c : C} {p pos : Pos} (hg : Gl X "range") (hm : X.mg "range" = none) (ha : SimA X cl W E (.cons c .nil) [a]) (hs : starEach [a] X.env = [(false, eval a X.env)]) : SimI X cl W E (.rng (.cons c .nil)) tg (.Call (.Name "range" p) [a] [] pos) := fun σ H F cs sl st R r so ok => by
  unfold evI at ok
  refine tWI_of (pi_range1 hg hm paW hs) (ha σ H F cs sl st _ r so (ok.bindE (k1 := kL X.K cl) fun xs st1 vs F1 H1 cs1 he e1 r1 d1 ok1 => ?_))
  have hl := evA_len1 he
  split at ok1
  · rename_i j
    split at ok1
    · rename_i hj
      cases d1 with
      | cons d dd =>
        cases dd
        cases d
        refine ⟨j, rfl, by omega, by omega, ?_⟩
        have := ok1 (Itr 0 (j - 0).toNat) F1 H1 cs1 .refl r1 (feeds_range 0 j)
        simpa using this
    · exact ok1.elim
  · simp at hl
  · exact ok1.elim
theorem sim_rng2 {a b tg : Expr} {c c' : C} {p pos : Pos} (hg : Gl X "range") (hm : X.mg "range" = none) (ha : SimA X cl W E (.cons c (.cons c' .nil)) [a, b]) (hs : starEach [a, b] X.env = [(false, eval a X.env), (false, eval b X.env)]) (hs2 : starEach [b] X.env = [(false, eval b X.env)]) : SimI X cl W E (.rng (.cons c (.cons c' .nil))) tg (.Call (.Name "range" p) [a, b] [] pos) := fun σ H F cs sl st R r so ok => by
  unfold evI at ok
  refine tWI_of (pi_range2 hg hm paW hs hs2) (ha σ H F cs sl st _ r so (ok.bindE (k1 := kL X.K cl) fun xs st1 vs F1 H1 cs1 he e1 r1 d1 ok1 => ?_))
  have hl := evA_len2 he
  split at ok1
  · simp at hl
  · rename_i i j
    split at ok1
    · rename_i hj
      cases d1 with
      | cons d dd =>
        cases dd with
        | cons d' dd =>
          cases dd
          cases d
          cases d'
          exact ⟨i, j, rfl, ⟨by omega, by omega, by omega, by omega⟩, ok1 (Itr i (j - i).toNat) F1 H1 cs1 .refl r1 (feeds_range i j)⟩
    · exact ok1.elim
  · exact ok1.elim
theorem sim_enum {a : Expr} {c : C} {p pos tpos : Pos} {elts : List Expr} {kk : Nat} (hg : Gl X "enumerate") (hm : X.mg "enumerate" = none) (ha : SimA X cl W E c [a]) (hs : starEach [a] X.env = [(false, eval a X.env)]) : SimI X cl W E (.enum c) (.Tuple elts kk tpos) (.Call (.Name "enumerate" p) [a] [] pos) := fun σ H F cs sl st R r so ok => by
  unfold evI at ok
  refine tWI_of (pi_enum hg hm paW hs) (ha σ H F cs sl st _ r so (ok.bindE (k1 := kL X.K cl) fun xs st1 vs F1 H1 cs1 he e1 r1 d1 ok1 => ?_))
  split at ok1
  · rename_i ys
    cases d1 with
    | cons d dd =>
      cases dd
      cases d with
      | lst hq dl => exact ⟨_, _, rfl, SqL.of (r1.fz _ _ hq), ok1 (Ite X.K _) F1 H1 cs1 .refl r1 (feeds_enum hq dl)⟩
  · exact ok1.elim
theorem sim_zip {a b : Expr} {c : C} {p pos tpos : Pos} {elts : List Expr} {kk : Nat} (hg : Gl X "zip") (hm : X.mg "zip" = none) (ha : SimA X cl W E c [a, b]) (hs : starEach [a, b] X.env = (false, eval a X.env) :: starEach [b] X.env) (hs2 : (backTo pos (starEach [b] X.env)).any (·.1) = false) : SimI X cl W E (.zip c) (.Tuple elts kk tpos) (.Call (.Name "zip" p) [a, b] [] pos) := fun σ H F cs sl st R r so ok => by
  unfold evI at ok
  refine tWI_of (RZ.pi_zipA hg hm paW hs hs2) (ha σ H F cs sl st _ r so (ok.bindE (k1 := kL X.K cl) fun xs st1 vs F1 H1 cs1 he e1 r1 d1 ok1 => ?_))
  split at ok1
  · cases d1 with
    | cons d dd =>
      cases dd with
      | cons d' dd =>
        cases dd
        cases d with
        | lst hq dl =>
          cases d' with
          | lst hq' dl' => exact ⟨_, _, _, _, rfl, .inl ⟨SqL.of (r1.fz _ _ hq), SqL.of (r1.fz _ _ hq'), ok1 (Itz X.K _ _) F1 H1 cs1 .refl r1 (feeds_zip hq dl hq' dl')⟩⟩
  · cases d1 with
    | cons d dd =>
      cases dd with
      | cons d' dd =>
        cases dd
        cases d with
        | tup hq dl =>
          cases d' with
          | tup hq' dl' => exact ⟨_, _, _, _, rfl, .inr ⟨SqT.up r1.fz hq, SqT.up r1.fz hq', ok1 (RZ.ItzT X.K _ _) F1 H1 cs1 .refl r1 (feeds_zipT hq dl hq' dl')⟩⟩
  · exact ok1.elim
end
end Sv
end
section
set_option linter.all false
set_option maxRecDepth 100000
set_option maxHeartbeats 4000000
/-! SvComp: targets, comprehensions. -/
namespace Sv
open PySem PySem.Spec PyProof.Rows L2

/-! ### targets -/
def gsOf : List Nat → TGs
  | [] => gNil
  | i :: r => gCons (gName i) (gsOf r)
def gOf (K : PySem.W.Frag) : Tg → TG
  | .nm i => gName i
  | .tp is => gTup K is.length (gsOf is)
theorem wipe_in {σ : L2.St} {j : Nat} : ∀ {vs : List Nat}, j ∈ vs → (L2.wipe σ vs)[j]? = if j < σ.length then some none else none
  | [], h => by cases h
  | v :: vs, h => by
    unfold L2.wipe
    by_cases e : v = j
    · subst e
      by_cases hl : v < σ.length
      · rw [List.getElem?_set_self (by rw [wipe_length]; exact hl), if_pos hl]
      · rw [if_neg hl, List.getElem?_eq_none (by rw [List.length_set, wipe_length]; omega)]
    · rw [List.getElem?_set_ne e]
      exact wipe_in ((List.mem_cons.mp h).resolve_left fun z => e z.symm)
theorem wipe_eq {σ τ : L2.St} {vs : List Nat} (hl : σ.length = τ.length) (h : ∀ j, j ∉ vs → σ[j]? = τ[j]?) : L2.wipe σ vs = L2.wipe τ vs := by
  refine List.ext_getElem? fun j => ?_
  by_cases hj : j ∈ vs
  · rw [wipe_in hj, wipe_in hj, hl]
  · rw [wipe_out hj, wipe_out hj]; exact h j hj
theorem wipe_set {σ : L2.St} {vs : List Nat} {i : Nat} {x : Option V} (hi : i ∈ vs) : L2.wipe (σ.set i x) vs = L2.wipe σ vs :=
  wipe_eq (by simp) fun j hj => List.getElem?_set_ne (fun e : i = j => hj (e ▸ hi))
theorem wipe_idem {σ : L2.St} {vs : List Nat} : L2.wipe (L2.wipe σ vs) vs = L2.wipe σ vs := wipe_eq (wipe_length _ _) fun j hj => wipe_out hj

section
variable {K : PySem.W.Frag} {cl : Nat → Addr} {F H : Hp} {cs : List Addr}
theorem setAll_ok {Q : L2.St → Hp → Prop} : ∀ {is : List Nat} {xs : List T} {vs : List V} {sl sl' : Slt} {σ : L2.St}, setAll is xs sl = some sl' → DnL K cl F cs xs vs → SlOk K cl F cs sl σ →
    (∀ σ', SlOk K cl F cs sl' σ' → (∀ ws : List Nat, (∀ i ∈ is, i ∈ ws) → L2.wipe σ' ws = L2.wipe σ ws) → Q σ' H) → is.length = vs.length ∧ gsOf is vs σ H Q
  | [], [], _, sl, sl', σ, h, .nil, so, q => by
    cases h
    exact ⟨rfl, rfl, q σ so fun _ _ => rfl⟩
  | i :: is, x :: xs, _, sl, sl', σ, h, .cons d dl, so, q => by
    obtain ⟨hl, g⟩ := setAll_ok (is := is) (xs := xs) h dl (so.set i d) fun σ' so' hw => q σ' so' fun ws hws => by
      rw [hw ws fun j hj => hws j (List.mem_cons_of_mem _ hj)]
      exact wipe_set (hws i List.mem_cons_self)
    exact ⟨by simp [hl], _, _, rfl, g⟩
  | [], x :: xs, _, sl, sl', σ, h, _, so, q => by cases h
  | i :: is, [], _, sl, sl', σ, h, _, so, q => by cases h
theorem asg_ok {tg : Tg} {x : T} {sl sl' : Slt} {st : Stor} {σ : L2.St} {v : V} {Q : L2.St → Hp → Prop} (h : asgT tg x sl st = some sl') (r : RelH K cl F H cs st) (d : Dn K cl F cs x v) (so : SlOk K cl F cs sl σ)
    (q : ∀ σ', SlOk K cl F cs sl' σ' → (∀ ws : List Nat, (∀ i ∈ tgIx tg, i ∈ ws) → L2.wipe σ' ws = L2.wipe σ ws) → Q σ' H) : gOf K tg v σ H Q := by
  cases tg with
  | nm i =>
    cases h
    exact q _ (so.set i d) fun ws hws => wipe_set (hws i (by simp [tgIx]))
  | tp is =>
    cases d with
    | tup hq dl =>
      obtain ⟨hl, g⟩ := setAll_ok h dl so q
      exact ⟨_, _, rfl, SqT.up r.fz hq, hl.symm, g⟩
    | _ => cases h

/-! ### a thing beside: tracked, not frozen, no cell -/
theorem RelH.side {st : Stor} {D : Addr} {o : HO} (r : RelH K cl F H cs st) (hF : F D = none) (hc : D ∉ cs) : RelH K cl F (upd H D o) cs st where
  fz := fun a u h => by
    rw [upd_ne (fun e => by rw [e, hF] at h; cases h)]; exact r.fz a u h
  len := r.len
  nd := r.nd
  cell := fun n c a h1 h2 => (r.cell n c a h1 h2).up .refl (fun _ _ h => h) (upd_ne fun e => hc (e ▸ List.mem_of_getElem? h2)) (fun h => h)
theorem Ext.side {F1 H1 : Hp} {cs1 : List Addr} {D : Addr} {o : HO} (e : Ext F H cs F1 H1 cs1) (h0 : H D = none) : Ext F H cs F1 (upd H1 D o) cs1 :=
  ⟨e.fz, e.cx, fun b u h1 h2 h3 => by
    obtain ⟨q1, q2, q3⟩ := e.kp b u h1 h2 h3
    exact ⟨by rw [upd_ne (fun z => by rw [z, h0] at h1; cases h1)]; exact q1, q2, q3⟩, fun a h => by
    by_cases z : a = D
    · rw [z]; exact h0
    · rw [upd_ne z] at h; exact e.dom a h⟩
/-- what is made is frozen -/
theorem DnR.frz {st : Stor} {F1 H1 : Hp} {cs1 : List Addr} {a : R} {v : V} (e : Ext F H cs F1 H1 cs1) (r : RelH K cl F1 H1 cs1 st) (d : DnR K cl H a F1 H1 cs1 v) : ∃ F2, Ext F H cs F2 H1 cs1 ∧ RelH K cl F2 H1 cs1 st ∧ Dn K cl F2 cs1 a.fz v := by
  cases a with
  | val t => exact ⟨F1, e, r, d⟩
  | new c =>
    obtain ⟨ng, a, rfl, h0, hc, ca⟩ := d
    cases c with
    | gone => exact absurd rfl ng
    | lst xs =>
      obtain ⟨hn, vs, ha, dl⟩ := ca
      exact ⟨_, e.freeze (o := .lst vs) h0 hn, r.freeze ha hc, .lst upd_same (dl.up (upd_up hn) fun _ _ h => h)⟩
    | dic xs =>
      obtain ⟨hn, vs, ha, ek, dl⟩ := ca
      exact ⟨_, e.freeze (o := .dK vs) h0 hn, r.freeze ha hc, .dic (.inl upd_same) ek (dl.up (upd_up hn) fun _ _ h => h)⟩
    | ins cc xs =>
      obtain ⟨hn, dx, vs, ha, ek, dl⟩ := ca
      exact ⟨_, e.freeze (o := .ins (cl cc) dx vs) h0 hn, r.freeze ha hc, .ins upd_same ek (dl.up (upd_up hn) fun _ _ h => h)⟩
/-- within a block: no exception leaves; the answer's own base stays -/
theorem okG.calmB {α β γ δ : Type} {Wx Wy : XK} {F0 H0 : Hp} {cs0 : List Addr} {k1 : Dk α β} {k2 : Dk γ δ} {m : Rs α} {f : α → Stor → Rs γ} {Q : δ → Hp → Prop} {Q1 : β → Hp → Prop} (h : okG K cl Wx F0 H0 cs0 k2 (m.calm.bind f) Q)
    (hk : ∀ a st v F1 H1 cs1, Ext F H cs F1 H1 cs1 → RelH K cl F1 H1 cs1 st → k1.D H a F1 H1 cs1 v → okG K cl Wx F0 H0 cs0 k2 (f a st) Q → Q1 v H1) : okG K cl Wy F H cs k1 m Q1 := by
  cases m with
  | no => exact h
  | ok a st => exact fun v F' H' cs' e r d => hk a st v F' H' cs' e r d h
  | ex x st => exact h.elim
theorem okG.calmF {γ δ : Type} {Wx Wy : XK} {F0 H0 : Hp} {cs0 : List Addr} {k2 : Dk γ δ} {m : Rs R} {f : R → Stor → Rs γ} {Q : δ → Hp → Prop} {Q1 : V → Hp → Prop} (h : okG K cl Wx F0 H0 cs0 k2 (m.calm.bind f) Q)
    (hk : ∀ a st v F1 H1 cs1, Ext F H cs F1 H1 cs1 → RelH K cl F1 H1 cs1 st → Dn K cl F1 cs1 a.fz v → okG K cl Wx F0 H0 cs0 k2 (f a st) Q → Q1 v H1) : okG K cl Wy F H cs (kR K cl) m Q1 :=
  h.calmB (k1 := kR K cl) fun a st v F1 H1 cs1 e r d ok => by
    obtain ⟨F2, e2, r2, d2⟩ := DnR.frz e r d
    exact hk a st v F2 H1 cs1 e2 r2 d2 ok
end

/-! ### tests of a clause -/
def tWTs (X : Cx) (ifs : List Expr) : TT := fun σ H Q => ∀ (pins : List (Addr × Obj)) (s : Shared), Inv X pins σ H s →
  wpAny (model X.prog X.w) X.A (forIn ifs true fun c r => if r = true then do let ok ← isTrue c X.env (eval c X.env); pure (ForInStep.yield ok) else pure (ForInStep.yield r)) (TP X pins σ Q) X.xe s
theorem ptsW {X : Cx} {ifs : List Expr} : PTs X ifs (tWTs X ifs) := ⟨fun pins s σ H Q I h => h pins s I⟩
def SimTs (X : Cx) (cl : Nat → Addr) (W : WX) (E : Ev) (c : C) (ifs : List Expr) : Prop := ∀ (σ : L2.St) (H F : Hp) (cs : List Addr) (sl : Slt) (st : Stor) (Q : Bool → Hp → Prop), RelH X.K cl F H cs st → SlOk X.K cl F cs sl σ →
  okG X.K cl (fun c d H' => W c d σ H') F H cs kB (evT E c sl st) Q → tWTs X ifs σ H Q
theorem simTs_nil {X : Cx} {cl : Nat → Addr} {W : WX} {E : Ev} : SimTs X cl W E .nil [] := fun σ H F cs sl st Q r so ok pins s I => pts_nil.run pins s σ H Q I (ok true F H cs .refl r rfl)
theorem simTs_one {X : Cx} {cl : Nat → Addr} {W : WX} {E : Ev} {c : C} {e : Expr} (h : SimT X cl W E c e) : SimTs X cl W E c [e] := fun σ H F cs sl st Q r so ok pins s I => (pts_one ptW).run pins s σ H Q I (h σ H F cs sl st Q r so ok)

/-- no exception -/
def WN : WX := fun _ _ _ _ => False

/-! ### the loop of a list comprehension, by turns -/
def lcGo (turn : T → Stor → Rs (Option T)) (s : Src) : Nat → Nat → List T → Stor → Rs (List T)
  | 0, i, acc, st => match srcAt s st i with
    | some none => .ok acc st
    | _ => .no
  | k + 1, i, acc, st => match srcAt s st i with
    | none => .no
    | some none => .ok acc st
    | some (some x) => (turn x st).bind fun r st => match r with
      | none => lcGo turn s k (i + 1) acc st
      | some y => if acc.length < 16777216 then lcGo turn s k (i + 1) (acc ++ [y]) st else .no
theorem lcFix_go {turn : T → Stor → Rs (Option T)} {xs : List T} : ∀ (ys : List T) (i : Nat) (acc : List T) (st : Stor), ys = xs.drop i → lcFix turn ys acc st = lcGo turn (.fix xs) ys.length i acc st
  | [], i, acc, st, h => by
    have hx : xs[i]? = none := List.getElem?_eq_none (List.drop_eq_nil_iff.mp h.symm)
    simp only [lcFix, List.length_nil, lcGo, srcAt, hx]
  | y :: ys, i, acc, st, h => by
    have hx : xs[i]? = some y := by
      have := congrArg (fun l : List T => l[0]?) h
      simpa using this.symm
    have hd : ys = xs.drop (i + 1) := by
      have := congrArg List.tail h
      simpa using this
    simp only [lcFix, List.length_cons, lcGo, srcAt, hx]
    congr 1
    funext r st
    cases r with
    | none => exact lcFix_go ys (i + 1) acc st hd
    | some z => simp only [lcFix_go ys (i + 1) (acc ++ [z]) st hd]
theorem lcCell_go {turn : T → Stor → Rs (Option T)} {n : Nat} : ∀ (k i : Nat) (acc : List T) (st : Stor), lcCell turn n k i acc st = lcGo turn (.cell n) k i acc st
  | 0, i, acc, st => by
    simp only [lcCell, lcGo, srcAt]
    cases h : st[n]? with
    | none => rfl
    | some c =>
      cases c with
      | lst xs =>
        simp only
        by_cases hl : xs.length ≤ i
        · rw [if_pos hl, List.getElem?_eq_none hl]
        · rw [if_neg hl, List.getElem?_eq_getElem (by omega)]
      | _ => rfl
  | k + 1, i, acc, st => by
    simp only [lcCell, lcGo, srcAt]
    cases h : st[n]? with
    | none => rfl
    | some c =>
      cases c with
      | lst xs =>
        simp only
        cases hx : xs[i]? with
        | none => rfl
        | some x =>
          simp only
          congr 1
          funext r st
          cases r with
          | none => exact lcCell_go k (i + 1) acc st
          | some z => simp only [lcCell_go k (i + 1) (acc ++ [z]) st]
      | _ => rfl
theorem lcSrc_go {turn : T → Stor → Rs (Option T)} {s : Src} {st : Stor} : ∃ m, lcSrc turn s st = lcGo turn s m 0 [] st := by
  cases s with
  | fix xs => exact ⟨xs.length, lcFix_go xs 0 [] st (by simp)⟩
  | cell n => exact ⟨lenC st n, lcCell_go _ 0 [] st⟩

section
variable {X : Cx} {cl : Nat → Addr} {W : WX} {E : Ev}
abbrev BlkAll (X : Cx) (scope : Scope) (P : Cx → Prop) : Prop := ∀ (s : Shared) (H : Hp) (C : Addr) (cells : List (Str × Addr)) (fp : List Addr), P (X.blk s H scope (compEnvC scope cells C X.env) fp)
abbrev ttB (X : Cx) (scope : Scope) (ifs : List Expr) : TT := fun σ H Q => ∀ (s : Shared) (H0 : Hp) (C : Addr) (cells : List (Str × Addr)) (fp : List Addr), tWTs (X.blk s H0 scope (compEnvC scope cells C X.env) fp) ifs σ H Q
abbrev teB (X : Cx) (scope : Scope) (e : Expr) : TE := fun σ H Q => ∀ (s : Shared) (H0 : Hp) (C : Addr) (cells : List (Str × Addr)) (fp : List Addr), tW (X.blk s H0 scope (compEnvC scope cells C X.env) fp) e σ H Q
abbrev tiB (X : Cx) (scope : Scope) (tg it : Expr) : TI := fun σ H R => ∀ (s : Shared) (H0 : Hp) (C : Addr) (cells : List (Str × Addr)) (fp : List Addr), tWI (X.blk s H0 scope (compEnvC scope cells C X.env) fp) tg it σ H R
def lcTurn (E : Ev) (g : Tg) (ct ce : C) (sl : Slt) (x : T) (st : Stor) : Rs (Option T) := (ofO st (asgT g x sl st)).bind fun sl st => (evT E ct sl st).calm.bind fun b st => if b then (evE E ce sl st).calm.bind fun y st => .ok (some y.fz) st else .ok none st
/-- a turn: D stands beside -/
theorem lc_turn {γ δ : Type} {Wx : XK} {scope : Scope} {elt : Expr} {ifs : List Expr} {ct ce : C} {g : Tg} {vs : List Nat} {F0 H0 F H : Hp} {cs0 cs : List Addr} {st : Stor} {sl : Slt} {σ : L2.St} {x : T} {v : V} {k2 : Dk γ δ} {f : Option T → Stor → Rs γ} {Q : δ → Hp → Prop} {Nx : Hp → Prop} {D : Addr} {o : List V}
    (ht : BlkAll X scope fun B => SimTs B cl WN E ct ifs) (he : BlkAll X scope fun B => SimE B cl WN E ce elt) (hgi : ∀ i ∈ tgIx g, i ∈ vs)
    (r : RelH X.K cl F H cs st) (so : SlOk X.K cl F cs sl σ) (d : Dn X.K cl F cs x v) (hD : H D = some (.lst o)) (hF : F D = none) (hc : D ∉ cs) (ok : okG X.K cl Wx F0 H0 cs0 k2 ((lcTurn E g ct ce sl x st).bind f) Q)
    (k0 : ∀ F1 H1 cs1 st1, Ext F H cs F1 H1 cs1 → RelH X.K cl F1 H1 cs1 st1 → okG X.K cl Wx F0 H0 cs0 k2 (f none st1) Q → Nx H1)
    (k1 : ∀ F1 H1 cs1 st1 y w, Ext F H cs F1 H1 cs1 → RelH X.K cl F1 H1 cs1 st1 → Dn X.K cl F1 cs1 y w → okG X.K cl Wx F0 H0 cs0 k2 (f (some y) st1) Q → o.length < sizeLine ∧ Nx (upd H1 D (.lst (o ++ [w])))) :
    gOf X.K g v σ H fun σ2 H2 => L2.wipe σ2 vs = L2.wipe σ vs ∧ (fun σ H Q => ∀ (s : Shared) (H0 : Hp) (C : Addr) (cells : List (Str × Addr)) (fp : List Addr), tWTs (X.blk s H0 scope (compEnvC scope cells C X.env) fp) ifs σ H Q) σ2 H2 fun b H3 =>
      if b = true then (fun σ H Q => ∀ (s : Shared) (H0 : Hp) (C : Addr) (cells : List (Str × Addr)) (fp : List Addr), tW (X.blk s H0 scope (compEnvC scope cells C X.env) fp) elt σ H Q) σ2 H3 fun y H4 => ∃ acc, H4 D = some (.lst acc) ∧ acc.length < sizeLine ∧ Nx (upd H4 D (.lst (acc ++ [y]))) else Nx H3 := by
  unfold lcTurn at ok
  cases ha : asgT g x sl st with
  | none => rw [ha] at ok; exact ok.elim
  | some sl2 =>
    rw [ha] at ok
    refine asg_ok ha r d so fun σ2 so2 hw => ⟨hw vs hgi, fun s H0 C cells fp => ?_⟩
    replace ok : okG X.K cl Wx F0 _ cs0 k2 (((evT E ct sl2 st).calm.bind fun b st => if b then (evE E ce sl2 st).calm.bind fun y st => .ok (some y.fz) st else .ok none st).bind f) Q := ok
    rw [Rs.bind_assoc] at ok
    refine ht s H0 C cells fp σ2 H F cs sl2 st _ r so2 (ok.calmB (k1 := kB) fun b st1 b' F1 H1 cs1 e1 r1 hb ok1 => ?_)
    cases (show b = b' from hb)
    cases b with
    | false => exact k0 F1 H1 cs1 st1 e1 r1 ok1
    | true =>
      intro s H0 C cells fp
      replace ok1 : okG X.K cl Wx F0 _ cs0 k2 (((evE E ce sl2 st1).calm.bind fun y st => .ok (some y.fz) st).bind f) Q := ok1
      rw [Rs.bind_assoc] at ok1
      refine he s H0 C cells fp σ2 H1 F1 cs1 sl2 st1 _ r1 (so2.ext e1) (ok1.calmF fun y st2 w F2 H2 cs2 e2 r2 dw ok2 => ?_)
      obtain ⟨q1, q2⟩ := k1 F2 H2 cs2 st2 y.fz w (e1.trans e2) r2 dw ok2
      exact ⟨o, ((e1.trans e2).kp D _ hD hF hc).1, q1, q2⟩
theorem lc_ok {elt tg it : Expr} {ifs : List Expr} {scope : Scope} {own : List (Str × Nat)} {ce ci ct : C} {g : Tg} (hgi : ∀ i ∈ tgIx g, i ∈ own.map (·.2))
    (hi : SimI X cl W E ci tg it) (ht : BlkAll X scope fun B => SimTs B cl WN E ct ifs) (he : BlkAll X scope fun B => SimE B cl WN E ce elt) {σ : L2.St} {H F : Hp} {cs : List Addr} {sl : Slt} {st : Stor} {Q : VK} (r : RelH X.K cl F H cs st) (so : SlOk X.K cl F cs sl σ)
    (ok : okG X.K cl (fun c d H' => W c d σ H') F H cs (kR X.K cl) (evE E (.lc ce g ci ct (own.map (·.2))) sl st) Q) : tLc (tWI X tg it) (gOf X.K g) (ttB X scope ifs) (teB X scope elt) (own.map (·.2)) σ H Q := by
  simp only [evE] at ok
  refine hi σ H F cs sl st _ r so (ok.bind (k1 := kS X.K cl) fun s st1 J F1 H1 cs1 e1 r1 fd ok1 => ?_)
  obtain ⟨m0, hm0⟩ := lcSrc_go (turn := lcTurn E g ct ce (wipeT sl (own.map (·.2)))) (s := s) (st := st1)
  intro D hD
  replace ok1 : okG X.K cl (fun c d H' => W c d σ H') F1 H1 cs1 (kR X.K cl) ((lcSrc (lcTurn E g ct ce (wipeT sl (own.map (·.2)))) s st1).bind fun xs st => .ok (.new (.lst xs)) st) Q := ok1
  rw [hm0] at ok1
  have so1 : SlOk X.K cl F1 cs1 (wipeT sl (own.map (·.2))) (L2.wipe σ (own.map (·.2))) := (so.ext e1).wipe _
  refine ⟨fun i m H => ∃ F cs st acc accV, Ext F1 H1 cs1 F H cs ∧ RelH X.K cl F H cs st ∧ H D = some (.lst accV) ∧ F D = none ∧ D ∉ cs ∧ DnL X.K cl F cs acc accV ∧
      okG X.K cl (fun c d H' => W c d σ H') F1 H1 cs1 (kR X.K cl) ((lcGo (lcTurn E g ct ce (wipeT sl (own.map (·.2)))) s m i acc st).bind fun xs st => .ok (.new (.lst xs)) st) Q,
    ⟨m0, F1, cs1, st1, [], [], r1.allocE hD, r1.alloc hD, upd_same, (r1.fresh hD).1, (r1.fresh hD).2, .nil, ok1⟩, ?_⟩
  rintro i m H2 ⟨F2, cs2, st2, acc, accV, e2, r2, hD2, hF2, hc2, dl2, ok2⟩
  have fa := fd F2 H2 cs2 st2 i e2.e2 r2
  have stop : srcAt s st2 i = some none → okG X.K cl (fun c d H' => W c d σ H') F1 H1 cs1 (kR X.K cl) (.ok (.new (.lst acc)) st2) Q → J.stop i H2 ∧ Q (.ref D) H2 := fun hs ok => ⟨fa.stop hs, ok (.ref D) F2 H2 cs2 e2 r2 ⟨(fun z => nomatch z), D, rfl, hD, hc2, hF2, accV, hD2, dl2⟩⟩
  cases hsr : srcAt s st2 i with
  | none => cases m <;> (simp only [lcGo, hsr] at ok2; exact ok2.elim)
  | some y =>
    cases y with
    | none => exact .inl (stop hsr (by cases m <;> (simp only [lcGo, hsr] at ok2; exact ok2)))
    | some x =>
      cases m with
      | zero => simp only [lcGo, hsr] at ok2; exact ok2.elim
      | succ k =>
        simp only [lcGo, hsr] at ok2
        rw [Rs.bind_assoc] at ok2
        obtain ⟨go, yld⟩ := fa.go x hsr
        refine .inr ⟨go, fun H => ∃ F cs st acc accV, Ext F1 H1 cs1 F H cs ∧ RelH X.K cl F H cs st ∧ H D = some (.lst accV) ∧ F D = none ∧ D ∉ cs ∧ DnL X.K cl F cs acc accV ∧
          okG X.K cl (fun c d H' => W c d σ H') F1 H1 cs1 (kR X.K cl) ((lcGo (lcTurn E g ct ce (wipeT sl (own.map (·.2)))) s k (i + 1) acc st).bind fun xs st => .ok (.new (.lst xs)) st) Q, fun H' w => ⟨k, Nat.lt_succ_self k, w⟩, fun v H3 hy => ?_⟩
        obtain ⟨F3, e3, r3, d3⟩ := yld v H3 hy
        obtain ⟨hD3, hF3, hc3⟩ := e3.kp D _ hD2 hF2 hc2
        have e13 := e2.trans e3
        have z := lc_turn (Nx := fun H => ∃ F cs st acc accV, Ext F1 H1 cs1 F H cs ∧ RelH X.K cl F H cs st ∧ H D = some (.lst accV) ∧ F D = none ∧ D ∉ cs ∧ DnL X.K cl F cs acc accV ∧
          okG X.K cl (fun c d H' => W c d σ H') F1 H1 cs1 (kR X.K cl) ((lcGo (lcTurn E g ct ce (wipeT sl (own.map (·.2)))) s k (i + 1) acc st).bind fun xs st => .ok (.new (.lst xs)) st) Q) ht he hgi r3 (so1.ext e13) d3 hD3 hF3 hc3 ok2
          (fun F4 H4 cs4 st4 e4 r4 ok4 => by
            obtain ⟨hD4, hF4, hc4⟩ := e4.kp D _ hD3 hF3 hc3
            exact ⟨F4, cs4, st4, acc, accV, e13.trans e4, r4, hD4, hF4, hc4, (dl2.ext e3).ext e4, ok4⟩)
          (fun F4 H4 cs4 st4 y w e4 r4 d4 ok4 => by
            obtain ⟨hD4, hF4, hc4⟩ := e4.kp D _ hD3 hF3 hc3
            simp only at ok4
            split at ok4
            · rename_i hlen
              refine ⟨by rw [← dl2.length]; exact hlen, F4, cs4, st4, acc ++ [y], accV ++ [w], (e13.trans e4).side hD, r4.side hF4 hc4, upd_same, hF4, hc4, ((dl2.ext e3).ext e4).append (.one d4), ok4⟩
            · exact ok4.elim)
        rw [wipe_idem] at z
        exact z
theorem sim_lc {elt tg it : Expr} {ifs : List Expr} {scope : Scope} {own : List (Str × Nat)} {pos : Pos} {ce ci ct : C} {g : Tg} (hc : X.calm = true) (hN : X.N.Nodup) (hok : BlkOk X.N X.env.scope scope own) (hg : BlkAll X scope fun B => PG B tg (gOf X.K g)) (hgi : ∀ i ∈ tgIx g, i ∈ own.map (·.2))
    (hi : SimI X cl W E ci tg it) (ht : BlkAll X scope fun B => SimTs B cl WN E ct ifs) (he : BlkAll X scope fun B => SimE B cl WN E ce elt) (hs : ∀ x, foldedSetIterable it X.env x = pure x) :
    SimE X cl W E (.lc ce g ci ct (own.map (·.2))) (.ListComp elt [⟨tg, it, ifs, 0⟩] scope pos) := fun σ H F cs sl st Q r so ok =>
  tW_of (pe_lc hc hN piW hok hg (fun s H0 C cells fp => ⟨fun pins s' σ H Q I h => h s H0 C cells fp pins s' I⟩) (fun s H0 C cells fp => ⟨fun pins s' σ H Q I h => h s H0 C cells fp pins s' I⟩) hs) (lc_ok hgi hi ht he r so ok)
/-! ### dict comprehensions -/
def dcTurn (E : Ev) (g : Tg) (ct ck cv : C) (sl : Slt) (x : T) (st : Stor) : Rs (Option (Key × T)) := (ofO st (asgT g x sl st)).bind fun sl st => (evT E ct sl st).calm.bind fun b st => if b then
  (evE E ck sl st).calm.bind fun kx st => match keyOf kx.fz with
    | some kk => (evE E cv sl st).calm.bind fun y st => .ok (some (kk, y.fz)) st
    | none => .no
  else .ok none st
theorem dc_ok {kx vx tg it : Expr} {ifs : List Expr} {scope : Scope} {own : List (Str × Nat)} {ck cv ci ct : C} {g : Tg} (hgi : ∀ i ∈ tgIx g, i ∈ own.map (·.2))
    (hi : SimI X cl W E ci tg it) (ht : BlkAll X scope fun B => SimTs B cl WN E ct ifs) (hk : BlkAll X scope fun B => SimE B cl WN E ck kx) (he : BlkAll X scope fun B => SimE B cl WN E cv vx) {σ : L2.St} {H F : Hp} {cs : List Addr} {sl : Slt} {st : Stor} {Q : VK} (r : RelH X.K cl F H cs st) (so : SlOk X.K cl F cs sl σ)
    (ok : okG X.K cl (fun c d H' => W c d σ H') F H cs (kR X.K cl) (evE E (.dc ck cv g ci ct (own.map (·.2))) sl st) Q) : tDc (tWI X tg it) (gOf X.K g) (ttB X scope ifs) (teB X scope kx) (teB X scope vx) (own.map (·.2)) σ H Q := by
  simp only [evE] at ok
  refine hi σ H F cs sl st _ r so (ok.bind (k1 := kS X.K cl) fun s st1 J F1 H1 cs1 e1 r1 fd ok1 => ?_)
  cases s with
  | cell n => exact ok1.elim
  | fix xs =>
  intro D hD
  replace ok1 : okG X.K cl (fun c d H' => W c d σ H') F1 H1 cs1 (kR X.K cl) ((dcFix (dcTurn E g ct ck cv (wipeT sl (own.map (·.2)))) xs [] st1).bind fun xs st => .ok (.new (.dic xs)) st) Q := ok1
  have so1 : SlOk X.K cl F1 cs1 (wipeT sl (own.map (·.2))) (L2.wipe σ (own.map (·.2))) := (so.ext e1).wipe _
  refine ⟨fun i m H => ∃ F cs st acc accV ys, ys = xs.drop i ∧ m = ys.length ∧ Ext F1 H1 cs1 F H cs ∧ RelH X.K cl F H cs st ∧ H D = some (.dK accV) ∧ F D = none ∧ D ∉ cs ∧ DnKV X.K cl F cs acc accV ∧
      okG X.K cl (fun c d H' => W c d σ H') F1 H1 cs1 (kR X.K cl) ((dcFix (dcTurn E g ct ck cv (wipeT sl (own.map (·.2)))) ys acc st).bind fun xs st => .ok (.new (.dic xs)) st) Q,
    ⟨xs.length, F1, cs1, st1, [], [], xs, by simp, rfl, r1.allocE hD, r1.alloc hD, upd_same, (r1.fresh hD).1, (r1.fresh hD).2, .nil, ok1⟩, ?_⟩
  rintro i m H2 ⟨F2, cs2, st2, acc, accV, ys, hys, rfl, e2, r2, hD2, hF2, hc2, dl2, ok2⟩
  have fa := fd F2 H2 cs2 st2 i e2.e2 r2
  cases ys with
  | nil =>
    have hx : xs[i]? = none := List.getElem?_eq_none (List.drop_eq_nil_iff.mp hys.symm)
    exact .inl ⟨fa.stop (by simp only [srcAt, hx]), ok2 (.ref D) F2 H2 cs2 e2 r2 ⟨(fun z => nomatch z), D, rfl, hD, hc2, hF2, accV, hD2, dl2⟩⟩
  | cons x ys =>
    have hx : xs[i]? = some x := by
      have := congrArg (fun l : List T => l[0]?) hys
      simpa using this.symm
    have hd : ys = xs.drop (i + 1) := by
      have := congrArg List.tail hys
      simpa using this
    simp only [dcFix] at ok2
    rw [Rs.bind_assoc] at ok2
    obtain ⟨go, yld⟩ := fa.go x (by simp only [srcAt, hx])
    have hNx : ∀ Nx : Hp → Prop, (Nx = fun H => ∃ F cs st acc accV, Ext F1 H1 cs1 F H cs ∧ RelH X.K cl F H cs st ∧ H D = some (.dK accV) ∧ F D = none ∧ D ∉ cs ∧ DnKV X.K cl F cs acc accV ∧
      okG X.K cl (fun c d H' => W c d σ H') F1 H1 cs1 (kR X.K cl) ((dcFix (dcTurn E g ct ck cv (wipeT sl (own.map (·.2)))) ys acc st).bind fun xs st => .ok (.new (.dic xs)) st) Q) → ∀ v H', J.yld i H2 v H' → gOf X.K g v (L2.wipe σ (own.map (·.2))) H' fun σ2 H2 => L2.wipe σ2 (own.map (·.2)) = L2.wipe σ (own.map (·.2)) ∧ (fun σ H Q => ∀ (s : Shared) (H0 : Hp) (C : Addr) (cells : List (Str × Addr)) (fp : List Addr), tWTs (X.blk s H0 scope (compEnvC scope cells C X.env) fp) ifs σ H Q) σ2 H2 fun b H3 =>
        if b = true then (fun σ H Q => ∀ (s : Shared) (H0 : Hp) (C : Addr) (cells : List (Str × Addr)) (fp : List Addr), tW (X.blk s H0 scope (compEnvC scope cells C X.env) fp) kx σ H Q) σ2 H3 fun y H4 => (fun σ H Q => ∀ (s : Shared) (H0 : Hp) (C : Addr) (cells : List (Str × Addr)) (fp : List Addr), tW (X.blk s H0 scope (compEnvC scope cells C X.env) fp) vx σ H Q) σ2 H4 fun z H5 => ∃ kvs k, y = kV k ∧ H5 D = some (.dK kvs) ∧ kvs.length < sizeLine ∧ Nx (upd H5 D (.dK (putK kvs k z))) else Nx H3 := by
      intro Nx hNx v H3 hy
      obtain ⟨F3, e3, r3, d3⟩ := yld v H3 hy
      obtain ⟨hD3, hF3, hc3⟩ := e3.kp D _ hD2 hF2 hc2
      have e13 := e2.trans e3
      generalize hT : dcTurn E g ct ck cv (wipeT sl (own.map (·.2))) = turn at ok2 hNx
      have hT1 : turn x st2 = (ofO st2 (asgT g x (wipeT sl (own.map (·.2))) st2)).bind fun sl st => (evT E ct sl st).calm.bind fun b st => if b then
          (evE E ck sl st).calm.bind fun kx st => match keyOf kx.fz with
            | some kk => (evE E cv sl st).calm.bind fun y st => .ok (some (kk, y.fz)) st
            | none => .no
          else .ok none st := by rw [← hT]; rfl
      rw [hT1] at ok2
      cases ha : asgT g x (wipeT sl (own.map (·.2))) st2 with
      | none => rw [ha] at ok2; exact ok2.elim
      | some sl2 =>
        rw [ha] at ok2
        refine asg_ok ha r3 d3 (so1.ext e13) fun σ2 so2 hw => ⟨by rw [hw _ hgi, wipe_idem], fun s H0 C cells fp => ?_⟩
        replace ok2 : okG X.K cl (fun c d H' => W c d σ H') F1 H1 cs1 (kR X.K cl) (((evT E ct sl2 st2).calm.bind fun b st => if b then
            (evE E ck sl2 st).calm.bind fun kx st => match keyOf kx.fz with
              | some kk => (evE E cv sl2 st).calm.bind fun y st => .ok (some (kk, y.fz)) st
              | none => .no
            else .ok none st).bind fun r st => (match r with
              | none => dcFix turn ys acc st
              | some (k, y) => if acc.length < 16777216 then dcFix turn ys (putD acc k y) st else .no).bind fun xs st => .ok (.new (.dic xs)) st) Q := ok2
        rw [Rs.bind_assoc] at ok2
        refine ht s H0 C cells fp σ2 H3 F3 cs2 sl2 st2 _ r3 so2 (ok2.calmB (k1 := kB) fun b st4 b' F4 H4 cs4 e4 r4 hb ok4 => ?_)
        cases (show b = b' from hb)
        obtain ⟨hD4, hF4, hc4⟩ := e4.kp D _ hD3 hF3 hc3
        cases b with
        | false =>
          rw [hNx]
          exact ⟨F4, cs4, st4, acc, accV, e13.trans e4, r4, hD4, hF4, hc4, ⟨dl2.1, (dl2.2.ext e3).ext e4⟩, ok4⟩
        | true =>
          intro s H0 C cells fp
          simp only [if_true] at ok4
          rw [Rs.bind_assoc] at ok4
          refine hk s H0 C cells fp σ2 H4 F4 cs4 sl2 st4 _ r4 (so2.ext e4) (ok4.calmF fun kx st5 kv F5 H5 cs5 e5 r5 d5 ok5 => ?_)
          cases hk : keyOf kx.fz with
          | none => rw [hk] at ok5; exact ok5.elim
          | some kk =>
            simp only [hk] at ok5
            rw [Rs.bind_assoc] at ok5
            intro s H0 C cells fp
            refine he s H0 C cells fp σ2 H5 F5 cs5 sl2 st5 _ r5 ((so2.ext e4).ext e5) (ok5.calmF fun y st6 w F6 H6 cs6 e6 r6 d6 ok6 => ?_)
            have e46 := (e4.trans e5).trans e6
            obtain ⟨hD6, hF6, hc6⟩ := e46.kp D _ hD3 hF3 hc3
            replace ok6 : okG X.K cl (fun c d H' => W c d σ H') F1 H1 cs1 (kR X.K cl) ((if acc.length < 16777216 then dcFix turn ys (putD acc kk y.fz) st6 else .no).bind fun xs st => .ok (.new (.dic xs)) st) Q := ok6
            by_cases hlen : acc.length < 16777216
            · rw [if_pos hlen] at ok6
              refine ⟨accV, kk, keyOf_ok d5 hk, hD6, by rw [← dl2.length]; exact hlen, ?_⟩
              rw [hNx]
              exact ⟨F6, cs6, st6, putD acc kk y.fz, putK accV kk w, (e13.trans e46).side hD, r6.side hF6 hc6, upd_same, hF6, hc6, DnKV.put (DnKV.up e46.fz e46.cx (DnKV.up e3.fz e3.cx dl2)) d6, ok6⟩
            · rw [if_neg hlen] at ok6
              exact ok6.elim
    refine .inr ⟨go, _, fun H' w => ?_, hNx _ rfl⟩
    obtain ⟨F, cs, st, acc, accV, w⟩ := w
    exact ⟨ys.length, by simp, F, cs, st, acc, accV, ys, hd, rfl, w⟩
theorem sim_dc {kx vx tg it : Expr} {ifs : List Expr} {scope : Scope} {own : List (Str × Nat)} {pos : Pos} {ck cv ci ct : C} {g : Tg} (hc : X.calm = true) (hN : X.N.Nodup) (hok : BlkOk X.N X.env.scope scope own) (hg : BlkAll X scope fun B => PG B tg (gOf X.K g)) (hgi : ∀ i ∈ tgIx g, i ∈ own.map (·.2))
    (hi : SimI X cl W E ci tg it) (ht : BlkAll X scope fun B => SimTs B cl WN E ct ifs) (hk : BlkAll X scope fun B => SimE B cl WN E ck kx) (he : BlkAll X scope fun B => SimE B cl WN E cv vx) (hs : ∀ x, foldedSetIterable it X.env x = pure x) :
    SimE X cl W E (.dc ck cv g ci ct (own.map (·.2))) (.DictComp kx vx [⟨tg, it, ifs, 0⟩] scope pos) := fun σ H F cs sl st Q r so ok =>
  tW_of (pe_dc hc hN piW hok hg (fun s H0 C cells fp => ⟨fun pins s' σ H Q I h => h s H0 C cells fp pins s' I⟩) (fun s H0 C cells fp => ⟨fun pins s' σ H Q I h => h s H0 C cells fp pins s' I⟩) (fun s H0 C cells fp => ⟨fun pins s' σ H Q I h => h s H0 C cells fp pins s' I⟩) hs) (dc_ok hgi hi ht hk he r so ok)
end
end Sv
end
section
set_option linter.all false
set_option maxRecDepth 100000
set_option maxHeartbeats 4000000
/-! SvComp2: two fors. -/
namespace Sv
open PySem PySem.Spec PyProof.Rows L2
section
variable {X : Cx} {cl : Nat → Addr} {W : WX} {E : Ev}
theorem drop_cons {xs ys : List T} {x : T} {i : Nat} (h : x :: ys = xs.drop i) : xs[i]? = some x ∧ ys = xs.drop (i + 1) :=
  ⟨by have := congrArg (fun l : List T => l[0]?) h; simpa using this.symm, by have := congrArg List.tail h; simpa using this⟩
def lc2Turn (E : Ev) (g : Tg) (ct c1 : C) (g1 : Tg) (ct1 ce : C) (own1 : List Nat) (sl : Slt) (x : T) (acc : List T) (st : Stor) : Rs (List T) :=
  (ofO st (asgT g x sl st)).bind fun sl1 st => (evT E ct sl1 st).calm.bind fun b st => if b then
    (evI E c1 sl1 st).calm.bind fun s1 st => match s1 with
      | .fix ys => lcFix (lcTurn E g1 ct1 ce (wipeT sl1 own1)) ys acc st
      | .cell _ => .no
    else .ok acc st
theorem lc2_ok {elt tg it tg1 it1 : Expr} {ifs ifs1 : List Expr} {scope : Scope} {own : List (Str × Nat)} {ce ci ct ci1 ct1 : C} {g g1 : Tg} {vs1 : List Nat}
    (hgi : ∀ i ∈ tgIx g, i ∈ own.map (·.2)) (hgi1 : ∀ i ∈ tgIx g1, i ∈ vs1)
    (hi : SimI X cl W E ci tg it) (ht : BlkAll X scope fun B => SimTs B cl WN E ct ifs) (hi1 : BlkAll X scope fun B => SimI B cl WN E ci1 tg1 it1) (ht1 : BlkAll X scope fun B => SimTs B cl WN E ct1 ifs1) (he : BlkAll X scope fun B => SimE B cl WN E ce elt)
    {σ : L2.St} {H F : Hp} {cs : List Addr} {sl : Slt} {st : Stor} {Q : VK} (r : RelH X.K cl F H cs st) (so : SlOk X.K cl F cs sl σ)
    (ok : okG X.K cl (fun c d H' => W c d σ H') F H cs (kR X.K cl) (evE E (.lc2 ce g ci ct g1 ci1 ct1 (own.map (·.2)) vs1) sl st) Q) :
    tLc2 (tWI X tg it) (gOf X.K g) (ttB X scope ifs) (tiB X scope tg1 it1) (gOf X.K g1) (ttB X scope ifs1) (teB X scope elt) (own.map (·.2)) vs1 σ H Q := by
  simp only [evE] at ok
  refine hi σ H F cs sl st _ r so (ok.bind (k1 := kS X.K cl) fun s st1 J F1 H1 cs1 e1 r1 fd ok1 => ?_)
  cases s with
  | cell n => exact ok1.elim
  | fix xs =>
  intro D hD
  replace ok1 : okG X.K cl (fun c d H' => W c d σ H') F1 H1 cs1 (kR X.K cl) ((lcFix2 (lc2Turn E g ct ci1 g1 ct1 ce vs1 (wipeT sl (own.map (·.2)))) xs [] st1).bind fun xs st => .ok (.new (.lst xs)) st) Q := ok1
  have so1 : SlOk X.K cl F1 cs1 (wipeT sl (own.map (·.2))) (L2.wipe σ (own.map (·.2))) := (so.ext e1).wipe _
  generalize hT : lc2Turn E g ct ci1 g1 ct1 ce vs1 (wipeT sl (own.map (·.2))) = turn at ok1
  -- the state between turns
  have hSt : ∀ (P : List T → Hp → Prop), (P = fun ys H => ∃ F cs st acc accV, Ext F1 H1 cs1 F H cs ∧ RelH X.K cl F H cs st ∧ H D = some (.lst accV) ∧ F D = none ∧ D ∉ cs ∧ DnL X.K cl F cs acc accV ∧
      okG X.K cl (fun c d H' => W c d σ H') F1 H1 cs1 (kR X.K cl) ((lcFix2 turn ys acc st).bind fun xs st => .ok (.new (.lst xs)) st) Q) → ∃ W : Nat → Nat → Hp → Prop, (∃ m, W 0 m (upd H1 D (.lst []))) ∧ ∀ i m H, W i m H →
      (J.stop i H ∧ Q (.ref D) H) ∨ (J.go i H ∧ ∃ Nx : Hp → Prop, (∀ H', Nx H' → ∃ m', m' < m ∧ W (i + 1) m' H') ∧ ∀ x H', J.yld i H x H' → gOf X.K g x (L2.wipe σ (own.map (·.2))) H' fun σ2 H2 => L2.wipe σ2 (own.map (·.2)) = L2.wipe σ (own.map (·.2)) ∧ (∀ (s : Shared) (H0 : Hp) (C : Addr) (cells : List (Str × Addr)) (fp : List Addr), tWTs (X.blk s H0 scope (compEnvC scope cells C X.env) fp) ifs σ2 H2 fun b H3 =>
        if b = true then (∀ (s : Shared) (H0 : Hp) (C : Addr) (cells : List (Str × Addr)) (fp : List Addr), tWI (X.blk s H0 scope (compEnvC scope cells C X.env) fp) tg1 it1 σ2 H3 fun J1 H4 => ∃ W1 : Nat → Nat → Hp → Prop, (∃ m, W1 0 m H4) ∧ ∀ j k H, W1 j k H →
          (J1.stop j H ∧ Nx H) ∨ (J1.go j H ∧ ∃ Nx1 : Hp → Prop, (∀ H', Nx1 H' → ∃ k', k' < k ∧ W1 (j + 1) k' H') ∧ ∀ x H', J1.yld j H x H' → gOf X.K g1 x (L2.wipe σ2 vs1) H' fun σ3 H5 => L2.wipe σ3 vs1 = L2.wipe σ2 vs1 ∧ (fun σ H Q => ∀ (s : Shared) (H0 : Hp) (C : Addr) (cells : List (Str × Addr)) (fp : List Addr), tWTs (X.blk s H0 scope (compEnvC scope cells C X.env) fp) ifs1 σ H Q) σ3 H5 fun b H6 =>
            if b = true then (fun σ H Q => ∀ (s : Shared) (H0 : Hp) (C : Addr) (cells : List (Str × Addr)) (fp : List Addr), tW (X.blk s H0 scope (compEnvC scope cells C X.env) fp) elt σ H Q) σ3 H6 fun y H7 => ∃ acc, H7 D = some (.lst acc) ∧ acc.length < sizeLine ∧ Nx1 (upd H7 D (.lst (acc ++ [y]))) else Nx1 H6))
        else Nx H3)) := by
    intro P hP
    refine ⟨fun i m H => ∃ ys, ys = xs.drop i ∧ m = ys.length ∧ P ys H, ⟨xs.length, xs, by simp, rfl, ?_⟩, ?_⟩
    · rw [hP]
      exact ⟨F1, cs1, st1, [], [], r1.allocE hD, r1.alloc hD, upd_same, (r1.fresh hD).1, (r1.fresh hD).2, .nil, ok1⟩
    rintro i m H2 ⟨ys, hys, rfl, p⟩
    rw [hP] at p
    obtain ⟨F2, cs2, st2, acc, accV, e2, r2, hD2, hF2, hc2, dl2, ok2⟩ := p
    have fa := fd F2 H2 cs2 st2 i e2.e2 r2
    cases ys with
    | nil =>
      have hx : xs[i]? = none := List.getElem?_eq_none (List.drop_eq_nil_iff.mp hys.symm)
      exact .inl ⟨fa.stop (by simp only [srcAt, hx]), ok2 (.ref D) F2 H2 cs2 e2 r2 ⟨(fun z => nomatch z), D, rfl, hD, hc2, hF2, accV, hD2, dl2⟩⟩
    | cons x ys =>
      obtain ⟨hx, hd⟩ := drop_cons hys
      obtain ⟨go, yld⟩ := fa.go x (by simp only [srcAt, hx])
      refine .inr ⟨go, P ys, fun H' w => ⟨ys.length, by simp, ys, hd, rfl, w⟩, fun v H3 hy => ?_⟩
      simp only [lcFix2] at ok2
      rw [Rs.bind_assoc] at ok2
      have hT1 : turn x acc st2 = (ofO st2 (asgT g x (wipeT sl (own.map (·.2))) st2)).bind fun sl1 st => (evT E ct sl1 st).calm.bind fun b st => if b then
          (evI E ci1 sl1 st).calm.bind fun s1 st => match s1 with
            | .fix ys => lcFix (lcTurn E g1 ct1 ce (wipeT sl1 vs1)) ys acc st
            | .cell _ => .no
          else .ok acc st := by rw [← hT]; rfl
      rw [hT1] at ok2
      obtain ⟨F3, e3, r3, d3⟩ := yld v H3 hy
      obtain ⟨hD3, hF3, hc3⟩ := e3.kp D _ hD2 hF2 hc2
      have e13 := e2.trans e3
      cases ha : asgT g x (wipeT sl (own.map (·.2))) st2 with
      | none => rw [ha] at ok2; exact ok2.elim
      | some sl2 =>
        rw [ha] at ok2
        refine asg_ok ha r3 d3 (so1.ext e13) fun σ2 so2 hw => ⟨by rw [hw _ hgi, wipe_idem], fun s H0 C cells fp => ?_⟩
        replace ok2 : okG X.K cl (fun c d H' => W c d σ H') F1 H1 cs1 (kR X.K cl) (((evT E ct sl2 st2).calm.bind fun b st => if b then
            (evI E ci1 sl2 st).calm.bind fun s1 st => match s1 with
              | .fix ys => lcFix (lcTurn E g1 ct1 ce (wipeT sl2 vs1)) ys acc st
              | .cell _ => .no
            else .ok acc st).bind fun acc st => (lcFix2 turn ys acc st).bind fun xs st => .ok (.new (.lst xs)) st) Q := ok2
        rw [Rs.bind_assoc] at ok2
        refine ht s H0 C cells fp σ2 H3 F3 cs2 sl2 st2 _ r3 so2 (ok2.calmB (k1 := kB) fun b st4 b' F4 H4 cs4 e4 r4 hb ok4 => ?_)
        cases (show b = b' from hb)
        obtain ⟨hD4, hF4, hc4⟩ := e4.kp D _ hD3 hF3 hc3
        have e14 := e13.trans e4
        have dl4 := (dl2.ext e3).ext e4
        cases b with
        | false =>
          rw [hP]
          exact ⟨F4, cs4, st4, acc, accV, e14, r4, hD4, hF4, hc4, dl4, ok4⟩
        | true =>
          intro s H0 C cells fp
          simp only [if_true] at ok4
          rw [Rs.bind_assoc] at ok4
          refine hi1 s H0 C cells fp σ2 H4 F4 cs4 sl2 st4 _ r4 (so2.ext e4) (ok4.calmB (k1 := kS X.K cl) fun s1 st5 J1 F5 H5 cs5 e5 r5 fd1 ok5 => ?_)
          cases s1 with
          | cell n => exact ok5.elim
          | fix zs =>
          obtain ⟨hD5, hF5, hc5⟩ := e5.kp D _ hD4 hF4 hc4
          have e15 := e14.trans e5
          have so5 : SlOk X.K cl F5 cs5 (wipeT sl2 vs1) (L2.wipe σ2 vs1) := ((so2.ext e4).ext e5).wipe _
          generalize hT5 : lcTurn E g1 ct1 ce (wipeT sl2 vs1) = turn1 at ok5
          have hIn : ∀ (P1 : List T → Hp → Prop), (P1 = fun ys1 H => ∃ F cs st acc accV, Ext F1 H1 cs1 F H cs ∧ Ex2 F5 cs5 F cs ∧ RelH X.K cl F H cs st ∧ H D = some (.lst accV) ∧ F D = none ∧ D ∉ cs ∧ DnL X.K cl F cs acc accV ∧
            okG X.K cl (fun c d H' => W c d σ H') F1 H1 cs1 (kR X.K cl) ((lcFix turn1 ys1 acc st).bind fun acc st => (lcFix2 turn ys acc st).bind fun xs st => .ok (.new (.lst xs)) st) Q) → ∃ W1 : Nat → Nat → Hp → Prop, (∃ m, W1 0 m H5) ∧ ∀ j k H, W1 j k H →
            (J1.stop j H ∧ P ys H) ∨ (J1.go j H ∧ ∃ Nx1 : Hp → Prop, (∀ H', Nx1 H' → ∃ k', k' < k ∧ W1 (j + 1) k' H') ∧ ∀ x H', J1.yld j H x H' → gOf X.K g1 x (L2.wipe σ2 vs1) H' fun σ3 H5 => L2.wipe σ3 vs1 = L2.wipe σ2 vs1 ∧ (fun σ H Q => ∀ (s : Shared) (H0 : Hp) (C : Addr) (cells : List (Str × Addr)) (fp : List Addr), tWTs (X.blk s H0 scope (compEnvC scope cells C X.env) fp) ifs1 σ H Q) σ3 H5 fun b H6 =>
              if b = true then (fun σ H Q => ∀ (s : Shared) (H0 : Hp) (C : Addr) (cells : List (Str × Addr)) (fp : List Addr), tW (X.blk s H0 scope (compEnvC scope cells C X.env) fp) elt σ H Q) σ3 H6 fun y H7 => ∃ acc, H7 D = some (.lst acc) ∧ acc.length < sizeLine ∧ Nx1 (upd H7 D (.lst (acc ++ [y]))) else Nx1 H6) := by
            intro P1 hP1
            refine ⟨fun j k H => ∃ ys1, ys1 = zs.drop j ∧ k = ys1.length ∧ P1 ys1 H, ⟨zs.length, zs, by simp, rfl, ?_⟩, ?_⟩
            · rw [hP1]
              exact ⟨F5, cs5, st5, acc, accV, e15, .refl, r5, hD5, hF5, hc5, dl4.ext e5, ok5⟩
            rintro j k H6 ⟨ys1, hys1, rfl, p1⟩
            rw [hP1] at p1
            obtain ⟨F6, cs6, st6, acc6, accV6, e6, x6, r6, hD6, hF6, hc6, dl6, ok6⟩ := p1
            have fa1 := fd1 F6 H6 cs6 st6 j x6 r6
            cases ys1 with
            | nil =>
              have hx1 : zs[j]? = none := List.getElem?_eq_none (List.drop_eq_nil_iff.mp hys1.symm)
              refine .inl ⟨fa1.stop (by simp only [srcAt, hx1]), ?_⟩
              rw [hP]
              exact ⟨F6, cs6, st6, acc6, accV6, e6, r6, hD6, hF6, hc6, dl6, ok6⟩
            | cons x1 ys1 =>
              obtain ⟨hx1, hd1⟩ := drop_cons hys1
              obtain ⟨go1, yld1⟩ := fa1.go x1 (by simp only [srcAt, hx1])
              refine .inr ⟨go1, P1 ys1, fun H' w => ⟨ys1.length, by simp, ys1, hd1, rfl, w⟩, fun v1 H7 hy1 => ?_⟩
              obtain ⟨F7, e7, r7, d7⟩ := yld1 v1 H7 hy1
              obtain ⟨hD7, hF7, hc7⟩ := e7.kp D _ hD6 hF6 hc6
              simp only [lcFix] at ok6
              rw [Rs.bind_assoc, ← hT5] at ok6
              have so7 : SlOk X.K cl F7 cs6 (wipeT sl2 vs1) (L2.wipe σ2 vs1) := ⟨so5.1, fun i t h => let ⟨v, h1, h2⟩ := so5.2 i t h; ⟨v, h1, (h2.up x6.fz x6.cx).ext e7⟩⟩
              have z := lc_turn (Nx := P1 ys1) ht1 he hgi1 r7 so7 d7 hD7 hF7 hc7 ok6
                (fun F8 H8 cs8 st8 e8 r8 ok8 => by
                  obtain ⟨hD8, hF8, hc8⟩ := e8.kp D _ hD7 hF7 hc7
                  rw [hT5] at ok8
                  rw [hP1]
                  exact ⟨F8, cs8, st8, acc6, accV6, (e6.trans e7).trans e8, (x6.trans e7.e2).trans e8.e2, r8, hD8, hF8, hc8, (dl6.ext e7).ext e8, ok8⟩)
                (fun F8 H8 cs8 st8 y w e8 r8 d8 ok8 => by
                  obtain ⟨hD8, hF8, hc8⟩ := e8.kp D _ hD7 hF7 hc7
                  rw [hT5] at ok8
                  simp only at ok8
                  by_cases hlen : acc6.length < 16777216
                  · rw [if_pos hlen] at ok8
                    rw [hP1]
                    exact ⟨by rw [← dl6.length]; exact hlen, F8, cs8, st8, acc6 ++ [y], accV6 ++ [w], ((e6.trans e7).trans e8).side hD, (x6.trans e7.e2).trans e8.e2, r8.side hF8 hc8, upd_same, hF8, hc8, ((dl6.ext e7).ext e8).append (.one d8), ok8⟩
                  · rw [if_neg hlen] at ok8
                    exact ok8.elim)
              rw [wipe_idem] at z
              exact z
          exact hIn _ rfl
  exact hSt _ rfl
theorem sim_lc2 {elt tg it tg1 it1 : Expr} {ifs ifs1 : List Expr} {scope : Scope} {own : List (Str × Nat)} {pos : Pos} {ce ci ct ci1 ct1 : C} {g g1 : Tg} {vs1 : List Nat} (hc : X.calm = true) (hN : X.N.Nodup) (hok : BlkOk X.N X.env.scope scope own)
    (hg : BlkAll X scope fun B => PG B tg (gOf X.K g)) (hgi : ∀ i ∈ tgIx g, i ∈ own.map (·.2)) (hg1 : BlkAll X scope fun B => PG B tg1 (gOf X.K g1)) (hgi1 : ∀ i ∈ tgIx g1, i ∈ vs1) (hv : ∀ i ∈ vs1, i ∈ own.map (·.2))
    (hi : SimI X cl W E ci tg it) (ht : BlkAll X scope fun B => SimTs B cl WN E ct ifs) (hi1 : BlkAll X scope fun B => SimI B cl WN E ci1 tg1 it1) (ht1 : BlkAll X scope fun B => SimTs B cl WN E ct1 ifs1) (he : BlkAll X scope fun B => SimE B cl WN E ce elt)
    (hs : ∀ x, foldedSetIterable it X.env x = pure x) (hs1 : ∀ env x, foldedSetIterable it1 env x = pure x) :
    SimE X cl W E (.lc2 ce g ci ct g1 ci1 ct1 (own.map (·.2)) vs1) (.ListComp elt [⟨tg, it, ifs, 0⟩, ⟨tg1, it1, ifs1, 0⟩] scope pos) := fun σ H F cs sl st Q r so ok =>
  tW_of (pe_lc2 hc hN piW hok hv hg (fun s H0 C cells fp => ⟨fun pins s' σ H Q I h => h s H0 C cells fp pins s' I⟩) (fun s H0 C cells fp => ⟨fun pins s' σ H Q I h => h s H0 C cells fp pins s' I⟩) hg1 (fun s H0 C cells fp => ⟨fun pins s' σ H Q I h => h s H0 C cells fp pins s' I⟩) (fun s H0 C cells fp => ⟨fun pins s' σ H Q I h => h s H0 C cells fp pins s' I⟩) hs hs1)
    (lc2_ok hgi hgi1 hi ht hi1 ht1 he r so ok)
end
end Sv
end
section
set_option linter.all false
set_option maxRecDepth 100000
set_option maxHeartbeats 4000000
/-! SvStm: statements do what the interpreter says. -/
namespace Sv
open PySem PySem.Spec PyProof.Rows L2

def flK (K : PySem.W.Frag) (cl : Nat → Addr) (H : Hp) (fl : Fl) (D : Ends) (σ' : L2.St) (F' H' : Hp) (cs' : List Addr) : Prop :=
  match fl with
  | .nx => D.nx σ' H'
  | .bk => D.bk σ' H'
  | .ct => D.ct σ' H'
  | .rt r => ∀ v, DnR K cl H r F' H' cs' v → D.rt v H'
def okS (K : PySem.W.Frag) (cl : Nat → Addr) (W : WX) (F H : Hp) (cs : List Addr) (r : Rs (Fl × Slt)) (D : Ends) : Prop :=
  match r with
  | .no => False
  | .ok p st => ∀ σ' F' H' cs', Ext F H cs F' H' cs' → RelH K cl F' H' cs' st → SlOk K cl F' cs' p.2 σ' → flK K cl H p.1 D σ' F' H' cs'
  | .ex x st => ∀ c d σ' F' H' cs', Ext F H cs F' H' cs' → RelH K cl F' H' cs' st → DnX K cl F' H' cs' x c d → W c d σ' H'

def tWS (X : Cx) (b : Stmt) : TS := fun D σ H => ∀ (pins : List (Addr × Obj)) (s : Shared), Inv X pins σ H s → wpAny (model X.prog X.w) X.A (exec b X.env) (SP X pins D) X.xe s
def tWSs (X : Cx) (b : List Stmt) : TS := fun D σ H => ∀ (pins : List (Addr × Obj)) (s : Shared), Inv X pins σ H s → wpAny (model X.prog X.w) X.A (execs b X.env) (SP X pins D) X.xe s
theorem psW {X : Cx} {b : Stmt} : PS X b (tWS X b) := ⟨fun pins s σ H D I h => h pins s I⟩
theorem pssW {X : Cx} {b : List Stmt} : PSs X b (tWSs X b) := ⟨fun pins s σ H D I h => h pins s I⟩
theorem tWS_of {X : Cx} {b : Stmt} {t : TS} {D : Ends} {σ : L2.St} {H : Hp} (h : PS X b t) (q : t D σ H) : tWS X b D σ H := fun pins s I => h.run pins s σ H D I q
theorem tWSs_of {X : Cx} {b : List Stmt} {t : TS} {D : Ends} {σ : L2.St} {H : Hp} (h : PSs X b t) (q : t D σ H) : tWSs X b D σ H := fun pins s I => h.run pins s σ H D I q
def SimS (X : Cx) (cl : Nat → Addr) (W : WX) (E : Ev) (c : S) (b : Stmt) : Prop := ∀ (σ : L2.St) (H F : Hp) (cs : List Addr) (sl : Slt) (st : Stor) (D : Ends), RelH X.K cl F H cs st → SlOk X.K cl F cs sl σ → okS X.K cl W F H cs (evS E c sl st) D → tWS X b D σ H
def SimSs (X : Cx) (cl : Nat → Addr) (W : WX) (E : Ev) (c : S) (b : List Stmt) : Prop := ∀ (σ : L2.St) (H F : Hp) (cs : List Addr) (sl : Slt) (st : Stor) (D : Ends), RelH X.K cl F H cs st → SlOk X.K cl F cs sl σ → okS X.K cl W F H cs (evS E c sl st) D → tWSs X b D σ H

section
variable {K : PySem.W.Frag} {cl : Nat → Addr} {W : WX} {F H F0 H0 : Hp} {cs cs0 : List Addr}
theorem DnR.rb {H1 : Hp} {r : R} {F' H' : Hp} {cs' : List Addr} {v : V} (hd : ∀ p, H1 p = none → H p = none) (d : DnR K cl H1 r F' H' cs' v) : DnR K cl H r F' H' cs' v := (kR K cl).rb hd d
theorem flK.rb {H1 : Hp} {fl : Fl} {D : Ends} {σ' : L2.St} {F' H' : Hp} {cs' : List Addr} (hd : ∀ p, H1 p = none → H p = none) (h : flK K cl H fl D σ' F' H' cs') : flK K cl H1 fl D σ' F' H' cs' := by
  cases fl with
  | rt r => exact fun v d => h v (d.rb hd)
  | _ => exact h
theorem okS.rebase {r : Rs (Fl × Slt)} {D : Ends} (e : Ext F0 H0 cs0 F H cs) (h : okS K cl W F0 H0 cs0 r D) : okS K cl W F H cs r D := by
  cases r with
  | no => exact h
  | ok p st => exact fun σ' F' H' cs' e' r' s' => (h σ' F' H' cs' (e.trans e') r' s').rb e.dom
  | ex x st => exact fun c d σ' F' H' cs' e' r' s' => h c d σ' F' H' cs' (e.trans e') r' s'
theorem okS.bind {α β : Type} {k1 : Dk α β} {m : Rs α} {f : α → Stor → Rs (Fl × Slt)} {D : Ends} {Q1 : β → Hp → Prop} {σ : L2.St} (h : okS K cl W F H cs (m.bind f) D)
    (hk : ∀ a st v F1 H1 cs1, Ext F H cs F1 H1 cs1 → RelH K cl F1 H1 cs1 st → k1.D H a F1 H1 cs1 v → okS K cl W F1 H1 cs1 (f a st) D → Q1 v H1) : okG K cl (fun c d H' => W c d σ H') F H cs k1 m Q1 := by
  cases m with
  | no => exact h
  | ok a st => exact fun v F' H' cs' e r d => hk a st v F' H' cs' e r d (okS.rebase e h)
  | ex x st => exact fun c d F' H' cs' e r dx => h c d σ F' H' cs' e r dx
theorem okS.bind0 {α β : Type} {k1 : Dk α β} {m : Rs α} {f : α → Stor → Rs (Fl × Slt)} {D : Ends} {Q1 : β → Hp → Prop} {σ : L2.St} (h : okS K cl W F H cs (m.bind f) D)
    (hk : ∀ a st v F1 H1 cs1, Ext F H cs F1 H1 cs1 → RelH K cl F1 H1 cs1 st → k1.D H a F1 H1 cs1 v → okS K cl W F H cs (f a st) D → Q1 v H1) : okG K cl (fun c d H' => W c d σ H') F H cs k1 m Q1 := by
  cases m with
  | no => exact h
  | ok a st => exact fun v F' H' cs' e r d => hk a st v F' H' cs' e r d h
  | ex x st => exact fun c d F' H' cs' e r dx => h c d σ F' H' cs' e r dx
theorem okS.bindF {m : Rs R} {f : R → Stor → Rs (Fl × Slt)} {D : Ends} {Q1 : V → Hp → Prop} {σ : L2.St} (h : okS K cl W F H cs (m.bind f) D)
    (hk : ∀ a st v F1 H1 cs1, Ext F H cs F1 H1 cs1 → RelH K cl F1 H1 cs1 st → Dn K cl F1 cs1 a.fz v → okS K cl W F1 H1 cs1 (f a st) D → Q1 v H1) : okG K cl (fun c d H' => W c d σ H') F H cs (kR K cl) m Q1 := by
  refine h.bind0 (k1 := kR K cl) fun a st v F1 H1 cs1 e r d ok => ?_
  obtain ⟨F2, e2, r2, d2⟩ := DnR.frz e r d
  exact hk a st v F2 H1 cs1 e2 r2 d2 (okS.rebase e2 ok)
theorem okS.nx {sl : Slt} {st : Stor} {σ : L2.St} {D : Ends} (h : okS K cl W F H cs (.ok (.nx, sl) st) D) (r : RelH K cl F H cs st) (so : SlOk K cl F cs sl σ) : D.nx σ H := h σ F H cs .refl r so
/-- a store -/
theorem asg_end {g : Tg} {x : T} {v : V} {sl : Slt} {st : Stor} {σ : L2.St} {D : Ends} (h : okS K cl W F H cs ((ofO st (asgT g x sl st)).bind fun sl st => .ok (.nx, sl) st) D) (r : RelH K cl F H cs st) (d : Dn K cl F cs x v) (so : SlOk K cl F cs sl σ) : gOf K g v σ H D.nx := by
  cases ha : asgT g x sl st with
  | none => rw [ha] at h; exact h.elim
  | some sl' =>
    rw [ha] at h
    exact asg_ok ha r d so fun σ' so' _ => okS.nx h r so'
end

section
variable {X : Cx} {cl : Nat → Addr} {W : WX} {E : Ev}
theorem simS_no {c : S} {b : Stmt} (h : ∀ sl st, evS E c sl st = .no) : SimS X cl W E c b := fun σ H F cs sl st D r so ok => by rw [h] at ok; exact ok.elim
theorem simSs_nil : SimSs X cl W E .nil [] := fun σ H F cs sl st D r so ok => tWSs_of pss_nil (okS.nx ok r so)
theorem simSs_cons {c r : S} {b : Stmt} {bs : List Stmt} (h : SimS X cl W E c b) (hr : SimSs X cl W E r bs) : SimSs X cl W E (.seq c r) (b :: bs) := fun σ H F cs sl st D rr so ok => by
  simp only [evS] at ok
  refine tWSs_of (pss_cons psW pssW) (h σ H F cs sl st { D with nx := tWSs X bs D } rr so ?_)
  cases hm : evS E c sl st with
  | no => rw [hm] at ok; exact ok
  | ex x st1 => rw [hm] at ok; exact ok
  | ok p st1 =>
    rw [hm] at ok
    obtain ⟨fl, sl1⟩ := p
    intro σ' F' H' cs' e1 r1 so1
    cases fl with
    | nx => exact hr σ' H' F' cs' sl1 st1 D r1 so1 (okS.rebase e1 ok)
    | bk => exact ok σ' F' H' cs' e1 r1 so1
    | ct => exact ok σ' F' H' cs' e1 r1 so1
    | rt v => exact ok σ' F' H' cs' e1 r1 so1
/-- a cell is frozen -/
theorem simSs_frz {i : Nat} {r : S} {bs : List Stmt} (hr : SimSs X cl W E r bs) : SimSs X cl W E (.seq (.frz i) r) bs := fun σ H F cs sl st D rr so ok => by
  simp only [evS] at ok
  have same : okS X.K cl W F H cs (evS E r sl st) D → tWSs X bs D σ H := fun ok => hr σ H F cs sl st D rr so ok
  split at ok
  · rename_i n hsl
    have key : ∀ (c : Cell) (t : T), st[n]? = some c → ((∃ xs, c = .lst xs ∧ t = .lst xs) ∨ ∃ xs, c = .dic xs ∧ t = .dic xs) → okS X.K cl W F H cs (evS E r (sl.set i (some t)) (st.set n .gone)) D → tWSs X bs D σ H := fun c t hn hct ok => by
      obtain ⟨v, hv, dv⟩ := so.2 i _ hsl
      cases dv with
      | @cell _ a ha =>
        have hl : n < st.length := (List.getElem?_eq_some_iff.mp hn).1
        -- the new frozen heap
        have main : ∀ o : HO, H a = some o → F a = none → ∃ F', (F' = upd F a o) ∧ Ext F H cs F' H cs ∧ RelH X.K cl F' H cs (st.set n .gone) ∧ SlOk X.K cl F' cs sl σ := fun o ho hF => by
          have up : UpF F (upd F a o) := upd_up hF
          refine ⟨_, rfl, ⟨up, fun _ _ h => h, fun b u h1 h2 h3 => ⟨h1, ?_, h3⟩, fun _ h => h⟩, ⟨fun x u h => ?_, by simp [rr.len], rr.nd, fun m c2 b h1 h2 => ?_⟩, ⟨so.1, fun j t h => let ⟨w, q1, q2⟩ := so.2 j t h; ⟨w, q1, q2.up up fun _ _ h => h⟩⟩⟩
          · rw [upd_ne (fun e : b = a => h3 (by rw [e]; exact List.mem_of_getElem? ha))]; exact h2
          · by_cases e : x = a
            · subst e; rw [upd_same] at h; cases h; exact ho
            · rw [upd_ne e] at h; exact rr.fz x u h
          · by_cases e : m = n
            · subst e
              rw [List.getElem?_set_self hl] at h1
              cases h1
              rw [ha] at h2
              cases h2
              exact ⟨o, ho⟩
            · rw [List.getElem?_set_ne (Ne.symm e)] at h1
              have nb : b ≠ a := fun z => by
                subst z
                obtain ⟨i1, e1⟩ := List.getElem?_eq_some_iff.mp h2
                obtain ⟨i2, e2⟩ := List.getElem?_eq_some_iff.mp ha
                exact e ((List.getElem_inj rr.nd).mp (e1.trans e2.symm))
              exact (rr.cell m c2 b h1 h2).up up (fun _ _ h => h) rfl (fun h => by rw [upd_ne nb]; exact h)
        have ca := rr.cell n c a hn ha
        have fin : ∀ (o : HO), H a = some o → F a = none → (∀ F', F' = upd F a o → Dn X.K cl F' cs t (.ref a)) → tWSs X bs D σ H := fun o ho hF hd => by
          obtain ⟨F', eF, e1, r1, so1⟩ := main o ho hF
          refine hr σ H F' cs (sl.set i (some t)) (st.set n .gone) D r1 ⟨by simp [so1.1], fun j u h => ?_⟩ (okS.rebase e1 ok)
          by_cases e : i = j
          · subst e
            by_cases hi : i < sl.length
            · rw [List.getElem?_set_self hi] at h
              cases h
              exact ⟨_, hv, hd F' eF⟩
            · rw [List.getElem?_eq_none (by simpa using hi)] at h; cases h
          · rw [List.getElem?_set_ne e] at h
            exact so1.2 j u h
        rcases hct with ⟨xs, rfl, rfl⟩ | ⟨xs, rfl, rfl⟩
        · obtain ⟨hF, vs, ho, dl⟩ := ca
          exact fin _ ho hF fun F' eF => by subst eF; exact .lst upd_same (dl.up (upd_up hF) fun _ _ h => h)
        · obtain ⟨hF, vs, ho, ek, dl⟩ := ca
          exact fin _ ho hF fun F' eF => by subst eF; exact .dic (.inl upd_same) ek (dl.up (upd_up hF) fun _ _ h => h)
    split at ok
    · rename_i xs hn
      exact key _ _ hn (.inl ⟨xs, rfl, rfl⟩) ok
    · rename_i xs hn
      exact key _ _ hn (.inr ⟨xs, rfl, rfl⟩) ok
    · exact ok.elim
  · exact same ok

theorem sim_pass {pos : Pos} : SimS X cl W E .pass (.Pass pos) := fun σ H F cs sl st D r so ok => tWS_of ps_pass (okS.nx ok r so)
theorem sim_brk {pos : Pos} : SimS X cl W E .brk (.Break pos) := fun σ H F cs sl st D r so ok => tWS_of ps_break (ok σ F H cs .refl r so)
theorem sim_cnt {pos : Pos} : SimS X cl W E .cnt (.Continue pos) := fun σ H F cs sl st D r so ok => tWS_of ps_continue (ok σ F H cs .refl r so)
theorem sim_retN {pos : Pos} : SimS X cl W E .retN (.Return none pos) := fun σ H F cs sl st D r so ok => tWS_of ps_retN (ok σ F H cs .refl r so .non .non)
theorem sim_ret {e : Expr} {c : C} {pos : Pos} (h : SimE X cl W E c e) : SimS X cl W E (.ret c) (.Return (some e) pos) := fun σ H F cs sl st D r so ok => by
  simp only [evS] at ok
  refine tWS_of (ps_ret peW) (h σ H F cs sl st _ r so (ok.bind0 (k1 := kR X.K cl) fun x st1 v F1 H1 cs1 e1 r1 d1 ok1 => ?_))
  exact ok1 σ F1 H1 cs1 e1 r1 (so.ext e1) v d1
theorem sim_ex {e : Expr} {c : C} {pos : Pos} (h : SimE X cl W E c e) (hs : swapsWith e none pos.line X.env = pure false) : SimS X cl W E (.ex c) (.Expr e pos) := fun σ H F cs sl st D r so ok => by
  simp only [evS] at ok
  refine tWS_of (ps_expr peW hs) (h σ H F cs sl st _ r so (ok.bindF fun x st1 v F1 H1 cs1 e1 r1 d1 ok1 => ?_))
  exact okS.nx ok1 r1 (so.ext e1)
theorem sim_ife {c : Expr} {a b : List Stmt} {cc : C} {ca cb : S} {pos : Pos} (hc : SimT X cl W E cc c) (ha : SimSs X cl W E ca a) (hb : SimSs X cl W E cb b) : SimS X cl W E (.ife cc ca cb) (.If c a b pos) := fun σ H F cs sl st D r so ok => by
  simp only [evS] at ok
  refine tWS_of (ps_if ptW pssW pssW) (hc σ H F cs sl st _ r so (ok.bind (k1 := kB) fun k st1 k' F1 H1 cs1 e1 r1 d1 ok1 => ?_))
  cases (show k = k' from d1)
  cases k with
  | true => exact iteT (ha σ H1 F1 cs1 sl st1 D r1 (so.ext e1) ok1)
  | false => exact iteF (hb σ H1 F1 cs1 sl st1 D r1 (so.ext e1) ok1)
theorem sim_asg {tg e : Expr} {c : C} {g : Tg} {pos : Pos} (hg : PG X tg (gOf X.K g)) (h : SimE X cl W E c e) (hs : swapsWithSole [tg] e pos.line X.env = pure false) (hw : swappedStores [tg] e X.env = pure none) (h1 : (assignEach [tg] X.env).map (·.2) = [assign tg X.env]) :
    SimS X cl W E (.asg g c) (.Assign [tg] e pos) := fun σ H F cs sl st D r so ok => by
  simp only [evS] at ok
  exact tWS_of (ps_asg peW hg hs hw h1) (h σ H F cs sl st _ r so (ok.bindF fun x st1 v F1 H1 cs1 e1 r1 d1 ok1 => asg_end ok1 r1 d1 (so.ext e1)))
/-! ### loops -/
def forGo (body : T → Slt → Stor → Rs (Fl × Slt)) (s : Src) : Nat → Nat → Slt → Stor → Rs (Fl × Slt)
  | 0, i, sl, st => match srcAt s st i with
    | some none => .ok (.nx, sl) st
    | _ => .no
  | k + 1, i, sl, st => match srcAt s st i with
    | none => .no
    | some none => .ok (.nx, sl) st
    | some (some x) => (body x sl st).bind fun r st => match r.1 with
      | .nx => forGo body s k (i + 1) r.2 st
      | .ct => forGo body s k (i + 1) r.2 st
      | .bk => .ok (.nx, r.2) st
      | .rt v => .ok (.rt v, r.2) st
theorem forFix_go {body : T → Slt → Stor → Rs (Fl × Slt)} {xs : List T} : ∀ (ys : List T) (i : Nat) (sl : Slt) (st : Stor), ys = xs.drop i → forFix body ys sl st = forGo body (.fix xs) ys.length i sl st
  | [], i, sl, st, h => by
    have hx : xs[i]? = none := List.getElem?_eq_none (List.drop_eq_nil_iff.mp h.symm)
    simp only [forFix, List.length_nil, forGo, srcAt, hx]
  | y :: ys, i, sl, st, h => by
    obtain ⟨hx, hd⟩ := drop_cons h
    simp only [forFix, List.length_cons, forGo, srcAt, hx]
    congr 1
    funext r st
    obtain ⟨fl, sl1⟩ := r
    cases fl with
    | nx => exact forFix_go ys (i + 1) sl1 st hd
    | ct => exact forFix_go ys (i + 1) sl1 st hd
    | _ => rfl
theorem forCell_go {body : T → Slt → Stor → Rs (Fl × Slt)} {n : Nat} : ∀ (k i : Nat) (sl : Slt) (st : Stor), forCell body n k i sl st = forGo body (.cell n) k i sl st
  | 0, i, sl, st => by
    simp only [forCell, forGo, srcAt]
    cases h : st[n]? with
    | none => rfl
    | some c =>
      cases c with
      | lst xs =>
        simp only
        by_cases hl : xs.length ≤ i
        · rw [if_pos hl, List.getElem?_eq_none hl]
        · rw [if_neg hl, List.getElem?_eq_getElem (by omega)]
      | _ => rfl
  | k + 1, i, sl, st => by
    simp only [forCell, forGo, srcAt]
    cases h : st[n]? with
    | none => rfl
    | some c =>
      cases c with
      | lst xs =>
        simp only
        cases hx : xs[i]? with
        | none => rfl
        | some x =>
          simp only
          congr 1
          funext r st
          obtain ⟨fl, sl1⟩ := r
          cases fl with
          | nx => exact forCell_go k (i + 1) sl1 st
          | ct => exact forCell_go k (i + 1) sl1 st
          | _ => rfl
      | _ => rfl
theorem forSrc_go {body : T → Slt → Stor → Rs (Fl × Slt)} {s : Src} {sl : Slt} {st : Stor} : ∃ m, forSrc body s sl st = forGo body s m 0 sl st := by
  cases s with
  | fix xs => exact ⟨xs.length, forFix_go xs 0 sl st (by simp)⟩
  | cell n => exact ⟨lenC st n, forCell_go _ 0 sl st⟩
/-- a turn of a loop: what its body is to reach -/
theorem turn_ok {b : S} {body : List Stmt} {F1 H1 F H : Hp} {cs1 cs : List Addr} {sl : Slt} {st : Stor} {σ : L2.St} {D : Ends} {N : L2.St → Hp → Prop} {f : Slt → Stor → Rs (Fl × Slt)} (hb : SimSs X cl W E b body) (e : Ext F1 H1 cs1 F H cs) (r : RelH X.K cl F H cs st) (so : SlOk X.K cl F cs sl σ)
    (ok : okS X.K cl W F1 H1 cs1 ((evS E b sl st).bind fun r st => match r.1 with
      | .nx => f r.2 st
      | .ct => f r.2 st
      | .bk => .ok (.nx, r.2) st
      | .rt v => .ok (.rt v, r.2) st) D)
    (hN : ∀ σ' F' H' cs' sl' st', Ext F1 H1 cs1 F' H' cs' → RelH X.K cl F' H' cs' st' → SlOk X.K cl F' cs' sl' σ' → okS X.K cl W F1 H1 cs1 (f sl' st') D → N σ' H') : tWSs X body { D with nx := N, ct := N, bk := D.nx } σ H := by
  refine hb σ H F cs sl st _ r so ?_
  cases hm : evS E b sl st with
  | no => rw [hm] at ok; exact ok
  | ex x st1 => rw [hm] at ok; exact fun c d σ' F' H' cs' e' r' dx => ok c d σ' F' H' cs' (e.trans e') r' dx
  | ok p st1 =>
    rw [hm] at ok
    obtain ⟨fl, sl1⟩ := p
    intro σ' F' H' cs' e1 r1 so1
    cases fl with
    | nx => exact hN σ' F' H' cs' sl1 st1 (e.trans e1) r1 so1 ok
    | ct => exact hN σ' F' H' cs' sl1 st1 (e.trans e1) r1 so1 ok
    | bk => exact ok σ' F' H' cs' (e.trans e1) r1 so1
    | rt v => exact fun w dw => ok σ' F' H' cs' (e.trans e1) r1 so1 w (dw.rb e.dom)
theorem sim_for {tg it : Expr} {body : List Stmt} {g : Tg} {ci : C} {b : S} {pos : Pos} (hp : PassesOwn (model X.prog X.w) X.A X.env X.xe) (hc : X.calm = true) (hg : PG X tg (gOf X.K g)) (hi : SimI X cl W E ci tg it) (hb : SimSs X cl W E b body) (hs : ∀ x, foldedSetIterable it X.env x = pure x) :
    SimS X cl W E (.for_ g ci b) (.For tg it body [] pos) := fun σ H F cs sl st D r so ok => by
  simp only [evS] at ok
  refine tWS_of (ps_for hp hc piW hg pssW hs) (hi σ H F cs sl st _ r so (ok.bind (k1 := kS X.K cl) fun s st1 J F1 H1 cs1 e1 r1 fd ok1 => ?_))
  obtain ⟨m0, hm0⟩ := forSrc_go (body := fun x sl st => (ofO st (asgT g x sl st)).bind fun sl st => evS E b sl st) (s := s) (sl := sl) (st := st1)
  rw [hm0] at ok1
  refine ⟨fun i m σ H => ∃ F cs sl st, Ext F1 H1 cs1 F H cs ∧ RelH X.K cl F H cs st ∧ SlOk X.K cl F cs sl σ ∧ okS X.K cl W F1 H1 cs1 (forGo (fun x sl st => (ofO st (asgT g x sl st)).bind fun sl st => evS E b sl st) s m i sl st) D,
    ⟨m0, F1, cs1, sl, st1, .refl, r1, so.ext e1, ok1⟩, ?_⟩
  rintro i m σ2 H2 ⟨F2, cs2, sl2, st2, e2, r2, so2, ok2⟩
  have fa := fd F2 H2 cs2 st2 i e2.e2 r2
  cases hsr : srcAt s st2 i with
  | none => cases m <;> (simp only [forGo, hsr] at ok2; exact ok2.elim)
  | some y =>
    cases y with
    | none => exact .inl ⟨fa.stop hsr, by cases m <;> (simp only [forGo, hsr] at ok2; exact ok2 σ2 F2 H2 cs2 e2 r2 so2)⟩
    | some x =>
      cases m with
      | zero => simp only [forGo, hsr] at ok2; exact ok2.elim
      | succ k =>
        simp only [forGo, hsr] at ok2
        rw [Rs.bind_assoc] at ok2
        obtain ⟨go, yld⟩ := fa.go x hsr
        refine .inr ⟨go, fun σ H => ∃ F cs sl st, Ext F1 H1 cs1 F H cs ∧ RelH X.K cl F H cs st ∧ SlOk X.K cl F cs sl σ ∧ okS X.K cl W F1 H1 cs1 (forGo (fun x sl st => (ofO st (asgT g x sl st)).bind fun sl st => evS E b sl st) s k (i + 1) sl st) D, fun σ' H' w => ⟨k, Nat.lt_succ_self k, w⟩, fun v H3 hy => ?_⟩
        obtain ⟨F3, e3, r3, d3⟩ := yld v H3 hy
        cases ha : asgT g x sl2 st2 with
        | none => rw [ha] at ok2; exact ok2.elim
        | some sl3 =>
          rw [ha] at ok2
          refine asg_ok ha r3 d3 (so2.ext e3) fun σ4 so4 _ => ?_
          exact turn_ok (f := fun sl st => forGo (fun x sl st => (ofO st (asgT g x sl st)).bind fun sl st => evS E b sl st) s k (i + 1) sl st) hb (e2.trans e3) r3 so4 ok2 fun σ' F' H' cs' sl' st' e' r' so' ok' => ⟨F', cs', sl', st', e', r', so', ok'⟩
theorem sim_whl {c : Expr} {body : List Stmt} {cc : C} {b : S} {pos : Pos} (hp : PassesOwn (model X.prog X.w) X.A X.env X.xe) (hc : SimT X cl W E cc c) (hb : SimSs X cl W E b body) : SimS X cl W E (.whl cc b) (.While c body [] pos) := fun σ H F cs sl st D r so ok => by
  simp only [evS] at ok
  refine tWS_of (ps_while hp ptW pssW) ⟨fun m σ H' => ∃ F' cs' sl st, Ext F H cs F' H' cs' ∧ RelH X.K cl F' H' cs' st ∧ SlOk X.K cl F' cs' sl σ ∧ okS X.K cl W F H cs (whileN (fun sl st => evT E cc sl st) (fun sl st => evS E b sl st) m sl st) D, ⟨100000, F, cs, sl, st, .refl, r, so, ok⟩, ?_⟩
  rintro m σ2 H2 ⟨F2, cs2, sl2, st2, e2, r2, so2, ok2⟩
  cases m with
  | zero => exact ok2.elim
  | succ k =>
    simp only [whileN] at ok2
    refine hc σ2 H2 F2 cs2 sl2 st2 _ r2 so2 ?_
    cases hm : evT E cc sl2 st2 with
    | no => rw [hm] at ok2; exact ok2
    | ex x st1 => rw [hm] at ok2; exact fun c d F' H' cs' e' r' dx => ok2 c d σ2 F' H' cs' (e2.trans e') r' dx
    | ok t st3 =>
      rw [hm] at ok2
      intro t' F3 H3 cs3 e3 r3 ht
      cases (show t = t' from ht)
      cases t with
      | false => exact iteF (ok2 σ2 F3 H3 cs3 (e2.trans e3) r3 (so2.ext e3))
      | true =>
        refine iteT ⟨fun σ H' => ∃ F' cs' sl st, Ext F H cs F' H' cs' ∧ RelH X.K cl F' H' cs' st ∧ SlOk X.K cl F' cs' sl σ ∧ okS X.K cl W F H cs (whileN (fun sl st => evT E cc sl st) (fun sl st => evS E b sl st) k sl st) D, fun σ' H' w => ⟨k, Nat.lt_succ_self k, w⟩, ?_⟩
        exact turn_ok (f := fun sl st => whileN (fun sl st => evT E cc sl st) (fun sl st => evS E b sl st) k sl st) hb (e2.trans e3) r3 (so2.ext e3) ok2 fun σ' F' H' cs' sl' st' e' r' so' ok' => ⟨F', cs', sl', st', e', r', so', ok'⟩
end
end Sv
end
section
set_option linter.all false
set_option maxRecDepth 100000
set_option maxHeartbeats 4000000
/-! SvStm2: more statements. -/
namespace Sv
open PySem PySem.Spec PyProof.Rows L2

/-- a reading that an expression's core serves -/
def SimR (X : Cx) (cl : Nat → Addr) (W : WX) (E : Ev) (c : C) (t : TE) : Prop := ∀ (σ : L2.St) (H F : Hp) (cs : List Addr) (sl : Slt) (st : Stor) (Q : VK), RelH X.K cl F H cs st → SlOk X.K cl F cs sl σ →
  okG X.K cl (fun c d H' => W c d σ H') F H cs (kR X.K cl) (evE E c sl st) Q → t σ H Q

section
variable {X : Cx} {cl : Nat → Addr} {W : WX} {E : Ev}
theorem simR_cel {t : TE} {c : C} (h : SimR X cl W E c t) : SimR X cl W E (.cel c) t := fun σ H F cs sl st Q r so ok => by
  simp only [evE] at ok
  refine h σ H F cs sl st Q r so (ok.bind0 (k1 := kR X.K cl) fun x st1 xv F1 H1 cs1 e1 r1 d1 ok1 => ?_)
  cases x with
  | val t => exact ok1.elim
  | new cc =>
    obtain ⟨ng, a, rfl, h0, hc, ca⟩ := d1
    have hup : ∀ (n : Nat) (b : Addr), cs1[n]? = some b → (cs1 ++ [a])[n]? = some b := fun n b hb => by
      rw [List.getElem?_append_left (List.getElem?_eq_some_iff.mp hb).1]; exact hb
    refine ok1 (.ref a) F1 H1 (cs1 ++ [a]) ⟨e1.fz, fun n b hb => hup n b (e1.cx n b hb), fun b o h1 h2 h3 => ?_, e1.dom⟩ ⟨r1.fz, by simp [r1.len], ?_, fun n c2 b hn hb => ?_⟩ (.cell ?_)
    · obtain ⟨q1, q2, q3⟩ := e1.kp b o h1 h2 h3
      refine ⟨q1, q2, fun hm => ?_⟩
      rcases List.mem_append.mp hm with hm | hm
      · exact q3 hm
      · rw [List.mem_singleton.mp hm, h0] at h1; cases h1
    · rw [List.nodup_append]
      refine ⟨r1.nd, by simp, fun x hx y hy => ?_⟩
      rw [List.mem_singleton.mp hy]
      exact fun z => hc (z ▸ hx)
    · by_cases hl : n < cs1.length
      · have hl2 : n < st1.length := by rw [← r1.len]; exact hl
        rw [List.getElem?_append_left hl2] at hn
        rw [List.getElem?_append_left hl] at hb
        exact (r1.cell n c2 b hn hb).up .refl hup rfl (fun h => h)
      · have hl2 : ¬ n < st1.length := by rw [← r1.len]; exact hl
        rw [List.getElem?_append_right (by omega)] at hn hb
        have e1 : n - st1.length = 0 := by
          have := (List.getElem?_eq_some_iff.mp hn).1
          simp at this
          omega
        have e2 : n - cs1.length = 0 := by rw [r1.len]; exact e1
        rw [e1] at hn
        rw [e2] at hb
        cases hn; cases hb
        exact ca.up .refl hup rfl (fun h => h)
    · rw [List.getElem?_append_right (by rw [r1.len]; exact Nat.le_refl _), r1.len]
      simp
/-- a store by a reading -/
theorem sim_setR {t : TE} {g : Tg} {c : C} {b : Stmt} (hb : PS X b (tAsg t (gOf X.K g))) (h : SimR X cl W E c t) : SimS X cl W E (.asg g c) b := fun σ H F cs sl st D r so ok => by
  simp only [evS] at ok
  exact tWS_of hb (h σ H F cs sl st _ r so (ok.bindF fun x st1 v F1 H1 cs1 e1 r1 d1 ok1 => asg_end ok1 r1 d1 (so.ext e1)))

/-- name = {..} on one line, the name a local -/
theorem ps_setDc {i : Nat} {y : Str} {py : Pos} {kx vx tg iter : Expr} {ifs : List Expr} {scope : Scope} {own : List (Str × Nat)} {pos spos : Pos} {wi : TI} {g : TG} {tt : TT} {tk tv : TE} (hc : X.calm = true) (hN : X.N.Nodup) (hy : X.N[i]? = some y) (hyl : X.env.scope.names.lookup y = some .local)
    (hsw : swapsWith (.DictComp kx vx [⟨tg, iter, ifs, 0⟩] scope pos) (some (.Name y py)) spos.line X.env = pure true) (hi : PI X tg iter wi) (ok : BlkOk X.N X.env.scope scope own)
    (hg : ∀ (s : Shared) (H : Hp) (C : Addr) (cl : List (Str × Addr)) (fp : List Addr), PG (X.blk s H scope (compEnvC scope cl C X.env) fp) tg g) (ht : ∀ (s : Shared) (H : Hp) (C : Addr) (cl : List (Str × Addr)) (fp : List Addr), PTs (X.blk s H scope (compEnvC scope cl C X.env) fp) ifs tt)
    (hk : ∀ (s : Shared) (H : Hp) (C : Addr) (cl : List (Str × Addr)) (fp : List Addr), PE (X.blk s H scope (compEnvC scope cl C X.env) fp) kx tk)
    (he : ∀ (s : Shared) (H : Hp) (C : Addr) (cl : List (Str × Addr)) (fp : List Addr), PE (X.blk s H scope (compEnvC scope cl C X.env) fp) vx tv) (hs : ∀ x, foldedSetIterable iter X.env x = pure x) :
    PS X (.Assign [.Name y py] (.DictComp kx vx [⟨tg, iter, ifs, 0⟩] scope pos) spos) (tAsg (tDc wi g tt tk tv (own.map (·.2))) (gName i)) := by
  refine ⟨fun pins s σ H D I h => ?_⟩
  rw [exec_Assign_Name_used _ _ _ _ hsw]
  refine wpAny_bind (wpAny_standAt (wpAny_bind ?_))
  show wpAny _ X.A (do let _ ← comprehension (.DictComp kx vx [⟨tg, iter, ifs, 0⟩] scope pos) scope X.env (firstIterPos [⟨tg, iter, ifs, 0⟩] pos) newDict false (eval iter X.env) (some (assign (.Name y py) X.env))) _ _ s
  have h : tDc wi g tt tk tv (own.map (·.2)) σ H (fun x H1 => gName i x σ H1 D.nx) := h
  refine wpAny_bind (thn (dc_core (Qf := fun _ s' => SP X pins D .next s') hc hN I hi ok hg ht hk he hs h fun L C s' m H' I' q hn f => ?_) fun _ s' hq => wpAny_pure (wpAny_pure hq))
  show wpAny _ _ (assign (.Name y py) X.env (.ref L)) _ _ _
  refine wpAny_assign_Name (store_ok2 (v := V.ref L) I' hN hy (.inl hyl) rfl (fun s2 I2 ⟨a, sb, ha⟩ => ?_) (.inr hyl))
  obtain ⟨f0, f1, f2, f3, f4, f5⟩ := f
  have haC : C ≠ a := by
    rcases ha with z | z
    · rw [z]; exact f1
    · exact fun e => f4 y a z e.symm
  refine ⟨m, hn.sameBut sb haC, fun h3 sb3 => ?_⟩
  exact ⟨_, H', I2.turned (t' := s2.toks) (fun b o hb e => (sb3.2 b hb).trans e) f0 f1 f3 f4 f5, q⟩

/-! ### o[i] = e -/
def rSet2 : TSet := fun o i v H Q => rSetL o i v H Q ∨ rSetD o i v H Q
theorem set2 (hu : X.A.units + 1 < cLine) : PSet X rSet2 := by
  intro pins s σ H o i v ov iv u Q I ro ri rv h
  rcases h with h | h
  · exact set_list pins s σ H o i v ov iv u Q I ro ri rv h
  · exact set_dict hu pins s σ H o i v ov iv u Q I ro ri rv h
theorem swaps_sub {e o i : Expr} {p : Pos} {l : Nat} {env : Env} : swapsWithSole [.Subscript o i p] e l env = pure false := by cases e <;> rfl
theorem stores_sub {e o i : Expr} {p : Pos} {env : Env} : swappedStores [.Subscript o i p] e env = pure none := by cases e <;> rfl
theorem sim_sub {o i e : Expr} {co ci ce : C} {tp pos : Pos} (hu : X.A.units + 64 < cLine) (hi : ∀ a b c p, i ≠ .Slice a b c p) (ho : SimE X cl W E co o) (h2 : SimE X cl W E ci i) (he : SimE X cl W E ce e) : SimS X cl W E (.sub co ci ce) (.Assign [.Subscript o i tp] e pos) := fun σ H F cs sl st D r so ok => by
  simp only [evS] at ok
  refine tWS_of (ps_asg peW (pg_sub peW peW (set2 (by omega)) (fun v => ?_)) swaps_sub stores_sub rfl) (he σ H F cs sl st _ r so (ok.bindF fun x st1 xv F1 H1 cs1 e1 r1 d1 ok1 => ?_))
  · cases i <;> first | rfl | exact absurd rfl (hi _ _ _ _)
  refine ho σ H1 F1 cs1 sl st1 _ r1 (so.ext e1) (ok1.bindF fun y st2 yv F2 H2 cs2 e2 r2 d2 ok2 => ?_)
  refine h2 σ H2 F2 cs2 sl st2 _ r2 ((so.ext e1).ext e2) (ok2.bindF fun z st3 zv F3 H3 cs3 e3 r3 d3 ok3 => ?_)
  have so3 := ((so.ext e1).ext e2).ext e3
  have dx := (d1.ext e2).ext e3
  have dy := d2.ext e3
  split at ok3
  · rename_i n hy
    rw [hy] at dy
    split at ok3
    · rename_i xs hn
      obtain ⟨a, vs, rfl, ha, hF, hH, dl⟩ := atCell r3 dy hn
      split at ok3
      · rename_i k hz
        rw [hz] at d3
        cases d3
        split at ok3
        · rename_i j hj
          refine .inl ⟨a, vs, k, j, rfl, rfl, hH, by rw [← dl.length]; exact hj, ?_⟩
          exact ok3 σ F3 _ cs3 (r3.putE ha) (r3.put hn ha hF ⟨hF, _, upd_same, dl.set dx j⟩) so3
        · exact ok3.elim
      · exact ok3.elim
    · rename_i kvs hn
      cases dy with
      | cell ec =>
      obtain ⟨a, ea, hF, gs, hH, dk⟩ := r3.at hn
      rw [ec] at ea; cases ea
      split at ok3
      · rename_i k hz
        split at ok3
        · rename_i hlen
          have dk' : DnKV X.K cl F3 cs3 kvs gs := dk
          refine .inr ⟨_, _, rfl, .inl ⟨gs, k, hH, keyOf_ok d3 hz, by rw [← dk'.length]; exact hlen, rfl⟩, ?_⟩
          exact ok3 σ F3 _ cs3 (r3.putE ec) (r3.put hn ec hF ⟨hF, _, upd_same, dk'.put dx⟩) so3
        · exact ok3.elim
      · exact ok3.elim
    · exact ok3.elim
  · exact ok3.elim

/-! ### o.f = e -/
theorem DnKV.putF {f : Str} {t : T} {v : V} {F : Hp} {cs : List Addr} (d : Dn X.K cl F cs t v) : ∀ {fs : List (Str × T)} {gs : List (Str × V)}, DnKV X.K cl F cs fs gs → DnKV X.K cl F cs (putFT f t fs) (L2.putF f v gs)
  | [], gs, h => by
    cases gs with
    | nil => exact DnKV.cons d DnKV.nil
    | cons g r => have := h.1; simp at this
  | (k, t') :: r, gs, h => by
    obtain ⟨w, gr, rfl, dw, h'⟩ := h.cases
    unfold putFT L2.putF
    by_cases e : k = f
    · rw [if_pos e, if_pos e]; exact DnKV.cons d h'
    · rw [if_neg e, if_neg e]; exact DnKV.cons dw (DnKV.putF d h')
theorem swaps_att {e o : Expr} {f : Str} {p : Pos} {l : Nat} {env : Env} : swapsWith e (some (.Attribute o f p)) l env = pure false := by cases e <;> rfl
theorem sim_fld {lv : Nat} {o e : Expr} {f : Str} {co ce : C} {tp pos : Pos} (O : Own X cl lv E) (ho : SimE X cl W E co o) (he : SimE X cl W E ce e) : SimS X cl W E (.fld co f ce) (.Assign [.Attribute o f tp] e pos) := fun σ H F cs sl st D r so ok => by
  simp only [evS] at ok
  refine tWS_of (ps_fld peW peW swaps_att) (he σ H F cs sl st _ r so (ok.bindF fun x st1 xv F1 H1 cs1 e1 r1 d1 ok1 => ?_))
  refine ho σ H1 F1 cs1 sl st1 _ r1 (so.ext e1) (ok1.bindF fun y st2 yv F2 H2 cs2 e2 r2 d2 ok2 => ?_)
  split at ok2
  · rename_i n hy
    rw [hy] at d2
    split at ok2
    · rename_i c fs hn
      split at ok2
      · rename_i hl
        cases d2 with
        | cell ec =>
        obtain ⟨a, ea, hF, dxx, gs, hH, dk⟩ := r2.at hn
        rw [ec] at ea; cases ea
        have dk' : DnKV X.K cl F2 cs2 fs gs := dk
        obtain ⟨hc, hna⟩ := O.fld c f hl.2
        refine ⟨_, _, dxx, gs, rfl, hH, O.cf.cls c hc, hna, by rw [← dk'.length]; exact hl.1, ?_⟩
        exact ok2 σ F2 _ cs2 (r2.putE ec) (r2.put hn ec hF ⟨hF, _, _, upd_same, dk'.putF (d1.ext e2)⟩) ((so.ext e1).ext e2)
      · exact ok2.elim
    · exact ok2.elim
  · exact ok2.elim

/-! ### x += e -/
theorem sim_aug {i : Nat} {x : Str} {e : Expr} {c : C} {op : Operator} {p pos : Pos} (hN : X.N.Nodup) (hi : X.N[i]? = some x) (hx : Loc X.env.scope x) (hf : X.fn x = true ∨ X.env.scope.names.lookup x = some .local) (he : SimE X cl W E c e) :
    SimS X cl W E (.aug i op c) (.AugAssign (.Name x p) op e pos) := fun σ H F cs sl st D r so ok => by
  simp only [evS] at ok
  split at ok
  · rename_i a ha
    obtain ⟨v, hv, dv⟩ := so.2 i _ ha
    cases dv
    have key : ∀ (f : Int → Int → Int), PIp X op (ipI f) → okG X.K cl (fun c d H' => W c d σ H') F H cs (kR X.K cl) (evE E c sl st) (fun y H1 => ipI f (.int a) y H1 fun z H2 => D.nx (σ.set i (some z)) H2) → tWS X (.AugAssign (.Name x p) op e pos) D σ H := fun f hp q =>
      tWS_of (ps_aug hN hi hx peW hp hf) ⟨.int a, hv, he σ H F cs sl st _ r so q⟩
    cases op with
    | Add =>
      refine key (fun i j => i + j) ip_add (ok.bind (k1 := kR X.K cl) fun y st1 yv F1 H1 cs1 e1 r1 d1 ok1 => ?_)
      split at ok1
      · rename_i b
        cases d1
        exact ⟨a, b, rfl, rfl, okS.nx ok1 r1 ((so.ext e1).set i (.int _))⟩
      · exact ok1.elim
    | Sub =>
      refine key (fun i j => i - j) ip_sub (ok.bind (k1 := kR X.K cl) fun y st1 yv F1 H1 cs1 e1 r1 d1 ok1 => ?_)
      split at ok1
      · rename_i b
        cases d1
        exact ⟨a, b, rfl, rfl, okS.nx ok1 r1 ((so.ext e1).set i (.int _))⟩
      · exact ok1.elim
    | _ => exact ok.elim
  · exact ok.elim
end
end Sv
end
section
set_option linter.all false
set_option maxRecDepth 100000
set_option maxHeartbeats 4000000
/-! SvMain: the compiler's answer simulates. -/
namespace Sv
open PySem PySem.Spec PyProof.Rows L2

/-- the defaults that are left of a call -/
def DflOk (K : PySem.W.Frag) (cl : Nat → Addr) (fd : FuncData) (ps : List Str) (dts : List T) : Prop := ∃ (dvs : List V) (ds : List Value), Binds K fd ps ds ∧ Vals dvs ds ∧ ∀ F cs, DnL K cl F cs dts dvs
structure Gx (cl : Nat → Addr) (lv : Nat) (E : Ev) (W : WX) (X : Cx) (t : CT) : Prop where
  N : X.N = t.N
  nd : t.N.Nodup
  sc : X.env.scope = t.sc
  fn : X.fn = t.fn
  calm : X.calm = true
  takes : Takes X W
  room : Room (lv + 1) X.A
  own : Own X cl lv E
  free : ∀ x, x ∈ t.free → X.mg x = none
  glo : ∀ x u, t.glo.lookup x = some u → E.G.glo x = some u ∧ ∃ v w, X.mg x = some w ∧ RelV v w ∧ ∀ F cs, Dn X.K cl F cs u v
  fns : ∀ x s, t.fns.lookup x = some s → ∃ f fd, FnF X cl lv f fd s.ps (E.cal s.f) ∧ X.mg x = some (.ref f) ∧ (∀ n dts, withDfl s.ps s.ds n = some dts → DflOk X.K cl fd s.ps dts) ∧ ∀ n ks pm ds, E.G.kw s.f n ks = some (pm, ds) → KwF X.K cl fd s.ps n ks pm ds
  cls : ∀ x cs, t.cls.lookup x = some cs → X.mg x = some (.ref (cl cs.1)) ∧ ∃ f fd, Mk X.K (cl cs.1) f ∧ FnF X cl lv f fd cs.2.ps (E.cal cs.2.f) ∧ (∀ n dts, withDfl (cs.2.ps.drop 1) cs.2.ds n = some dts → DflOk X.K cl fd cs.2.ps dts) ∧ ∀ n ks pm ds, E.G.kw cs.2.f n ks = some (pm, ds) → KwF X.K cl fd cs.2.ps n ks pm ds

section
variable {X : Cx} {cl : Nat → Addr} {W : WX} {E : Ev} {lv : Nat} {t : CT}
theorem Gx.units (g : Gx cl lv E W X t) : X.A.units + 64 < cLine := g.room.units
theorem Gx.gl {x : Str} (g : Gx cl lv E W X t) (h : t.isGl x = true) : Gl X x := by
  unfold CT.isGl at h
  show X.env.scope.names.lookup x = _
  rw [g.sc]
  exact of_decide_eq_true h
theorem Gx.blt {x : Str} (g : Gx cl lv E W X t) (h : t.isFree x = true) : Gl X x ∧ X.mg x = none := by
  unfold CT.isFree at h
  rw [Bool.and_eq_true] at h
  refine ⟨g.gl h.1, g.free x ?_⟩
  obtain ⟨y, hy, e⟩ := List.any_eq_true.mp h.2
  rw [← of_decide_eq_true e]
  exact hy
theorem ixOf_get {N : List Str} {x : Str} {i : Nat} (h : ixOfName N x = some i) : N[i]? = some x := by
  unfold ixOfName at h
  obtain ⟨h1, h2, _⟩ := List.findIdx?_eq_some_iff_getElem.mp h
  rw [List.getElem?_eq_getElem h1]
  exact congrArg some (of_decide_eq_true h2)
theorem Gx.slot {x : Str} {i : Nat} (g : Gx cl lv E W X t) (h : t.slot x = some i) : X.N[i]? = some x ∧ Vis X.env.scope x := by
  unfold CT.slot at h
  rw [g.N]
  unfold Vis
  rw [g.sc]
  split at h
  · rename_i hk; exact ⟨ixOf_get h, .inl hk⟩
  · rename_i hk; exact ⟨ixOf_get h, .inr (.inl hk)⟩
  · rename_i hk; exact ⟨ixOf_get h, .inr (.inr hk)⟩
  · cases h
theorem Gx.stq {x : Str} {i : Nat} (g : Gx cl lv E W X t) (h : t.stq x = some i) : X.N[i]? = some x ∧ Loc X.env.scope x ∧ (X.fn x = true ∨ X.env.scope.names.lookup x = some .local) := by
  unfold CT.stq at h
  rw [g.N, g.fn]
  unfold L2.Loc
  rw [g.sc]
  split at h
  · rename_i hk; exact ⟨ixOf_get h, .inl hk, .inr hk⟩
  · rename_i hk
    split at h
    · rename_i hf; exact ⟨ixOf_get h, .inr hk, .inl hf⟩
    · cases h
  · cases h
theorem mapO_cons {α β : Type} {f : α → Option β} {x : α} {xs : List α} {ys : List β} (h : mapO f (x :: xs) = some ys) : ∃ y r, ys = y :: r ∧ f x = some y ∧ mapO f xs = some r := by
  simp only [mapO] at h
  cases h1 : f x with
  | none => rw [h1] at h; cases h
  | some y =>
    rw [h1] at h
    cases h2 : mapO f xs with
    | none => rw [h2] at h; cases h
    | some r => rw [h2] at h; cases h; exact ⟨y, r, rfl, rfl, rfl⟩
theorem Gx.pgs (g : Gx cl lv E W X t) : ∀ {es : List Expr} {is : List Nat}, mapO (stqE t) es = some is → PGs X es (gsOf is) ∧ (assignEach es X.env).length = is.length ∧ (assignEach es X.env).findIdx? (·.1) = none
  | [], is, h => by cases h; exact ⟨pgs_nil, rfl, rfl⟩
  | e :: es, is, h => by
    obtain ⟨i, r, rfl, h1, h2⟩ := mapO_cons h
    obtain ⟨p, l, q⟩ := g.pgs h2
    cases e <;> simp only [stqE] at h1 <;> first | cases h1 | skip
    rename_i x pos
    obtain ⟨hi, hx, hf⟩ := g.stq h1
    refine ⟨pgs_cons (pg_name (g.N ▸ g.nd) hi hx hf) p rfl, ?_, ?_⟩
    · show ((false, assign (.Name x pos) X.env) :: assignEach es X.env).length = _
      simp [l]
    · show ((false, assign (.Name x pos) X.env) :: assignEach es X.env).findIdx? (·.1) = none
      rw [List.findIdx?_cons]
      simp [q]
theorem Gx.pg {tg : Expr} {d : Tg} (g : Gx cl lv E W X t) (h : tgOf t tg = some d) : PG X tg (gOf X.K d) := by
  cases tg <;> simp only [tgOf] at h <;> first | cases h | skip
  · rename_i x pos
    cases h1 : t.stq x with
    | none => rw [h1] at h; cases h
    | some i =>
      rw [h1] at h
      cases h
      obtain ⟨hi, hx, hf⟩ := g.stq h1
      exact pg_name (g.N ▸ g.nd) hi hx hf
  · rename_i es k pos
    cases h1 : mapO (stqE t) es with
    | none => rw [h1] at h; cases h
    | some is =>
      rw [h1] at h
      cases h
      obtain ⟨p, l, q⟩ := g.pgs h1
      exact pg_tup g.calm p l q
/-- the block of a comprehension -/
theorem Gx.blk {scope : Scope} (g : Gx cl lv E W X t) : BlkAll X scope fun B => Gx cl lv E WN B (t.blk scope) := fun s H C cells fp => by
  refine ⟨g.N, g.nd, ?_, rfl, g.calm, ?_, g.room, ⟨g.own.cf, g.own.fld, fun c m f h => ?_, fun c m f h => ?_⟩, g.free, g.glo, fun x s h => ?_, fun x cs h => ?_⟩
  · show relS scope X.env.scope = relS scope t.sc
    rw [g.sc]
  · exact fun u s' ⟨a, B, sI, pins, σ, H, cls, d, e, I, nb, up, sky, na, os, ag, w⟩ => w
  · obtain ⟨h1, a, fd, ps, h2, h3, h4⟩ := g.own.meth c m f h
    exact ⟨h1, a, fd, ps, h2, ⟨h3.ok, h3.kp⟩, h4⟩
  · obtain ⟨h1, p, a, fd, ps, h2, h3, h4⟩ := g.own.prop c m f h
    exact ⟨h1, p, a, fd, ps, h2, ⟨h3.ok, h3.kp⟩, h4⟩
  · obtain ⟨f, fd, h1, h2, h3⟩ := g.fns x s h
    exact ⟨f, fd, ⟨h1.ok, h1.kp⟩, h2, h3⟩
  · obtain ⟨h0, f, fd, h1, h2, h3⟩ := g.cls x cs h
    exact ⟨h0, f, fd, h1, ⟨h2.ok, h2.kp⟩, h3⟩
end
end Sv
end
section
set_option linter.all false
set_option maxRecDepth 100000
set_option maxHeartbeats 4000000
/-! SvMain2: expressions. -/
namespace Sv
open PySem PySem.Spec PyProof.Rows L2
section
variable {X : Cx} {cl : Nat → Addr} {W : WX} {E : Ev} {lv : Nat} {t : CT}
theorem sim_nil {e : Expr} : SimE X cl W E .nil e := sim_no fun _ _ => rfl
theorem simA_of {f : Expr → C} (h : ∀ e, SimE X cl W E (f e) e) : ∀ es : List Expr, SimA X cl W E (argsC f es) es
  | [] => simA_nil
  | e :: es => by
    cases hs : isStar e with
    | true =>
      cases e <;> first | cases hs | skip
      rename_i e p
      exact simA_star (h e) (simA_of h es)
    | false =>
      have e1 : argsC f (e :: es) = .cons (f e) (argsC f es) := by cases e <;> first | rfl | cases hs
      rw [e1]
      exact simA_cons (starEach_cons hs) (h e) (simA_of h es)
theorem sim_name {x : Str} {p : Pos} (g : Gx cl lv E W X t) : SimE X cl W E (nameX t x) (.Name x p) := by
  unfold nameX
  split
  · exact sim_nil
  · rename_i hx
    simp only [Bool.or_eq_true, decide_eq_true_eq, not_or] at hx
    have h1 : (x == ("__debug__" : Str)) = false := by simpa using hx.1
    have h2 : (x == ("__classdict__" : Str)) = false := by simpa using hx.2
    split
    · rename_i i hs
      obtain ⟨hi, hv⟩ := g.slot hs
      exact sim_var hi hv h1 h2
    · split
      · rename_i hg
        split
        · rename_i u hu
          obtain ⟨e1, v, w, e2, rv, d⟩ := g.glo x u hu
          exact sim_glo (g.gl hg) e2 rv h1 e1 d
        · exact sim_nil
      · exact sim_nil
theorem noSt {e : Expr} (h : noStar [e] = true) : isStar e = false := (noStar_cons h).1
theorem simI_iter {f : Expr → C} {tg : Expr} (g : Gx cl lv E W X t) (h : ∀ e, SimE X cl W E (f e) e) (e : Expr) : SimI X cl W E (iterC t f tg e) tg e := by
  unfold iterC
  split
  · exact simI_no fun _ _ => rfl
  · rename_i x p args pos
    split
    · rename_i hb
      rw [Bool.and_eq_true] at hb
      obtain ⟨gl, hm⟩ := g.blt hb.1
      split
      · rename_i hx
        subst hx
        split
        · rename_i a
          have h1 := (noStar_cons hb.2).1
          exact sim_rng1 gl hm (simA_cons (starEach_cons h1) (h a) simA_nil) (starEach_cons h1)
        · rename_i a b
          obtain ⟨h1, h2⟩ := noStar_cons hb.2
          have h2 := (noStar_cons h2).1
          exact sim_rng2 gl hm (simA_cons (starEach_cons h1) (h a) (simA_cons (starEach_cons h2) (h b) simA_nil)) (by rw [starEach_cons h1, starEach_cons h2]; rfl) (starEach_cons h2)
        · exact simI_no fun _ _ => rfl
      · split
        · rename_i hx
          subst hx
          split
          · rename_i a
            split
            · rename_i ht
              cases tg <;> first | cases ht | skip
              have h1 := (noStar_cons hb.2).1
              exact sim_enum gl hm (simA_cons (starEach_cons h1) (h a) simA_nil) (starEach_cons h1)
            · exact simI_no fun _ _ => rfl
          · exact simI_no fun _ _ => rfl
        · split
          · rename_i hx
            subst hx
            split
            · rename_i a b
              split
              · rename_i ht
                cases tg <;> first | cases ht | skip
                obtain ⟨h1, h2'⟩ := noStar_cons hb.2
                have h2 := (noStar_cons h2').1
                exact sim_zip gl hm (simA_cons (starEach_cons h1) (h a) (simA_cons (starEach_cons h2) (h b) simA_nil)) (starEach_cons h1) (noStar_any h2')
              · exact simI_no fun _ _ => rfl
            · exact simI_no fun _ _ => rfl
          · exact sim_itr (h _)
    · exact sim_itr (h _)
  · exact sim_itr (h _)
theorem folded {it : Expr} (h : ∀ a b c, it ≠ .Set a b c) (env : Env) (x : Value) : foldedSetIterable it env x = pure x := by
  cases it <;> first | rfl | exact absurd rfl (h _ _ _)
/-- and, or -/
theorem sim_bools_and {f : Expr → C} {pos : Pos} (h : ∀ e, SimE X cl W E (f e) e) : ∀ es : List Expr, SimE X cl W E (boolC .and .nil f es) (.BoolOp .And es pos)
  | [] => sim_nil
  | [e] => sim_one (h e)
  | e :: e2 :: r => sim_and (h e) (sim_bools_and h (e2 :: r))
theorem sim_bools_or {f : Expr → C} {pos : Pos} (h : ∀ e, SimE X cl W E (f e) e) : ∀ es : List Expr, SimE X cl W E (boolC .or .nil f es) (.BoolOp .Or es pos)
  | [] => sim_nil
  | [e] => sim_one (h e)
  | e :: e2 :: r => sim_or (h e) (sim_bools_or h (e2 :: r))
theorem simT_fst {c : C} {e : Expr} : SimT X cl W E (.fst c) e := fun σ H F cs sl st Q r so ok => ok.elim
theorem simW_fst {c : C} {e : Expr} : SimW X cl W E (.fst c) e := fun σ H F cs sl st Q r so ok => ok.elim
theorem simT_bools_and {f : Expr → C} {pos : Pos} (h : ∀ e, SimT X cl W E (f e) e) : ∀ es : List Expr, SimW X cl W E (boolC .and (.fst .nil) f es) (.BoolOp .And es pos)
  | [] => simW_fst
  | [e] => simW_and1 (h e)
  | e :: e2 :: r => simW_and (h e) (simT_bools_and h (e2 :: r))
theorem simT_bools_or {f : Expr → C} {pos : Pos} (h : ∀ e, SimT X cl W E (f e) e) : ∀ es : List Expr, SimW X cl W E (boolC .or (.fst .nil) f es) (.BoolOp .Or es pos)
  | [] => simW_fst
  | [e] => simW_or1 (h e)
  | e :: e2 :: r => simW_or (h e) (simT_bools_or h (e2 :: r))

/-! ### comprehensions -/
def AllE (cl : Nat → Addr) (lv : Nat) (E : Ev) (fe : CT → Expr → C) : Prop := ∀ (X : Cx) (t : CT) (W : WX), Gx cl lv E W X t → ∀ e, SimE X cl W E (fe t e) e
def AllT (cl : Nat → Addr) (lv : Nat) (E : Ev) (ft : CT → Expr → C) : Prop := ∀ (X : Cx) (t : CT) (W : WX), Gx cl lv E W X t → ∀ e, SimT X cl W E (ft t e) e
theorem tgIn_ok {g : Tg} {own : List (Str × Nat)} (h : tgIn g own = true) : ∀ i ∈ tgIx g, i ∈ own.map (·.2) := fun i hi => of_decide_eq_true (List.all_eq_true.mp h i hi)
theorem simTs_of {ft : CT → Expr → C} {ifs : List Expr} {ct : C} (h : (ifs = [] ∧ ct = .nil) ∨ ∃ c, ifs = [c] ∧ ct = ft t c) (hft : AllT cl lv E ft) (g : Gx cl lv E W X t) : SimTs X cl W E ct ifs := by
  rcases h with ⟨rfl, rfl⟩ | ⟨c, rfl, rfl⟩
  · exact simTs_nil
  · exact simTs_one (hft X t W g c)
def Stuck (E : Ev) (c : C) : Prop := ∀ sl st, evE E c sl st = .no
theorem set_or (it : Expr) : (∃ a b c, it = .Set a b c) ∨ ∀ a b c, it ≠ .Set a b c := by
  cases it <;> first | exact .inl ⟨_, _, _, rfl⟩ | exact .inr fun _ _ _ h => nomatch h
/-- a list comprehension: stuck, or all that its rule asks -/
theorem lcX_cases {fe ft : CT → Expr → C} {elt tg it : Expr} {ifs : List Expr} {scope : Scope} (hft : AllT cl lv E ft) (g : Gx cl lv E W X t) :
    Stuck E (lcX fe ft t elt tg it ifs scope) ∨ ∃ d ct, lcX fe ft t elt tg it ifs scope = .lc (fe (t.blk scope) elt) d (iterC t (fe t) tg it) ct ((ownOf t.N scope).map (·.2)) ∧ BlkOk X.N X.env.scope scope (ownOf t.N scope) ∧ (BlkAll X scope fun B => PG B tg (gOf X.K d)) ∧
      (∀ i ∈ tgIx d, i ∈ (ownOf t.N scope).map (·.2)) ∧ (BlkAll X scope fun B => SimTs B cl WN E ct ifs) ∧ ∀ a b c, it ≠ .Set a b c := by
  unfold lcX
  split
  · rename_i hb
    split
    · rename_i d hd
      split
      · rename_i hi
        rcases set_or it with ⟨a, b, c, rfl⟩ | hS
        · left
          split <;> exact fun _ _ => rfl
        · have hok : BlkOk X.N X.env.scope scope (ownOf t.N scope) := by rw [g.N, g.sc]; exact blkOk_by hb
          have hpg : BlkAll X scope fun B => PG B tg (gOf X.K d) := fun s H C cells fp => (g.blk s H C cells fp).pg hd
          split
          · exact .inr ⟨d, _, rfl, hok, hpg, tgIn_ok hi, fun s H C cells fp => simTs_nil, hS⟩
          · exact .inr ⟨d, _, rfl, hok, hpg, tgIn_ok hi, fun s H C cells fp => simTs_one (hft _ _ _ (g.blk s H C cells fp) _), hS⟩
          · exact .inl fun _ _ => rfl
      · exact .inl fun _ _ => rfl
    · exact .inl fun _ _ => rfl
  · exact .inl fun _ _ => rfl
theorem dcX_cases {fe ft : CT → Expr → C} {kx vx tg it : Expr} {ifs : List Expr} {scope : Scope} (hft : AllT cl lv E ft) (g : Gx cl lv E W X t) :
    Stuck E (dcX fe ft t kx vx tg it ifs scope) ∨ ∃ d ct, dcX fe ft t kx vx tg it ifs scope = .dc (fe (t.blk scope) kx) (fe (t.blk scope) vx) d (iterC t (fe t) tg it) ct ((ownOf t.N scope).map (·.2)) ∧ BlkOk X.N X.env.scope scope (ownOf t.N scope) ∧ (BlkAll X scope fun B => PG B tg (gOf X.K d)) ∧
      (∀ i ∈ tgIx d, i ∈ (ownOf t.N scope).map (·.2)) ∧ (BlkAll X scope fun B => SimTs B cl WN E ct ifs) ∧ ∀ a b c, it ≠ .Set a b c := by
  unfold dcX
  split
  · rename_i hb
    split
    · rename_i d hd
      split
      · rename_i hi
        rcases set_or it with ⟨a, b, c, rfl⟩ | hS
        · left
          split <;> exact fun _ _ => rfl
        · have hok : BlkOk X.N X.env.scope scope (ownOf t.N scope) := by rw [g.N, g.sc]; exact blkOk_by hb
          have hpg : BlkAll X scope fun B => PG B tg (gOf X.K d) := fun s H C cells fp => (g.blk s H C cells fp).pg hd
          split
          · exact .inr ⟨d, _, rfl, hok, hpg, tgIn_ok hi, fun s H C cells fp => simTs_nil, hS⟩
          · exact .inr ⟨d, _, rfl, hok, hpg, tgIn_ok hi, fun s H C cells fp => simTs_one (hft _ _ _ (g.blk s H C cells fp) _), hS⟩
          · exact .inl fun _ _ => rfl
      · exact .inl fun _ _ => rfl
    · exact .inl fun _ _ => rfl
  · exact .inl fun _ _ => rfl
theorem lc2X_cases {fe ft : CT → Expr → C} {elt tg it tg1 it1 : Expr} {ifs1 : List Expr} {scope : Scope} (hfe : AllE cl lv E fe) (hft : AllT cl lv E ft) (g : Gx cl lv E W X t) :
    Stuck E (lc2X fe ft t elt tg it tg1 it1 ifs1 scope) ∨ ∃ d d1 ct, lc2X fe ft t elt tg it tg1 it1 ifs1 scope = .lc2 (fe (t.blk scope) elt) d (iterC t (fe t) tg it) .nil d1 (iterC (t.blk scope) (fe (t.blk scope)) tg1 it1) ct ((ownOf t.N scope).map (·.2)) (tgIx d1) ∧ BlkOk X.N X.env.scope scope (ownOf t.N scope) ∧
      (BlkAll X scope fun B => PG B tg (gOf X.K d)) ∧ (∀ i ∈ tgIx d, i ∈ (ownOf t.N scope).map (·.2)) ∧ (BlkAll X scope fun B => PG B tg1 (gOf X.K d1)) ∧ (∀ i ∈ tgIx d1, i ∈ (ownOf t.N scope).map (·.2)) ∧ (BlkAll X scope fun B => SimTs B cl WN E ct ifs1) ∧
      (BlkAll X scope fun B => SimI B cl WN E (iterC (t.blk scope) (fe (t.blk scope)) tg1 it1) tg1 it1) ∧ (∀ a b c, it ≠ .Set a b c) ∧ (∀ a b c, it1 ≠ .Set a b c) := by
  unfold lc2X
  split
  · rename_i hb
    split
    · rename_i d hd
      split
      · rename_i d1 hd1
        split
        · rename_i hi
          rw [Bool.and_eq_true, Bool.and_eq_true] at hi
          have hS1 : ∀ a b c, it1 ≠ .Set a b c := fun a b c h => by subst h; cases hi.2
          replace hi := hi.1
          rcases set_or it with ⟨a, b, c, rfl⟩ | hS
          · left
            split <;> exact fun _ _ => rfl
          · have hok : BlkOk X.N X.env.scope scope (ownOf t.N scope) := by rw [g.N, g.sc]; exact blkOk_by hb
            have hpg : BlkAll X scope fun B => PG B tg (gOf X.K d) := fun s H C cells fp => (g.blk s H C cells fp).pg hd
            have hpg1 : BlkAll X scope fun B => PG B tg1 (gOf X.K d1) := fun s H C cells fp => (g.blk s H C cells fp).pg hd1
            have hin : BlkAll X scope fun B => SimI B cl WN E (iterC (t.blk scope) (fe (t.blk scope)) tg1 it1) tg1 it1 := fun s H C cells fp => simI_iter (g.blk s H C cells fp) (hfe _ _ _ (g.blk s H C cells fp)) it1
            split
            · exact .inr ⟨d, d1, _, rfl, hok, hpg, tgIn_ok hi.1, hpg1, tgIn_ok hi.2, fun s H C cells fp => simTs_nil, hin, hS, hS1⟩
            · exact .inr ⟨d, d1, _, rfl, hok, hpg, tgIn_ok hi.1, hpg1, tgIn_ok hi.2, fun s H C cells fp => simTs_one (hft _ _ _ (g.blk s H C cells fp) _), hin, hS, hS1⟩
            · exact .inl fun _ _ => rfl
        · exact .inl fun _ _ => rfl
      · exact .inl fun _ _ => rfl
    · exact .inl fun _ _ => rfl
  · exact .inl fun _ _ => rfl
theorem sim_lcX {fe ft : CT → Expr → C} {elt tg it : Expr} {ifs : List Expr} {scope : Scope} {pos : Pos} (hfe : AllE cl lv E fe) (hft : AllT cl lv E ft) (g : Gx cl lv E W X t) : SimE X cl W E (lcX fe ft t elt tg it ifs scope) (.ListComp elt [⟨tg, it, ifs, 0⟩] scope pos) := by
  rcases lcX_cases (elt := elt) (tg := tg) (it := it) (ifs := ifs) (scope := scope) (fe := fe) hft g with h | ⟨d, ct, e, hok, hpg, hgi, ht, hS⟩
  · exact sim_no h
  · rw [e]
    exact sim_lc g.calm (g.N ▸ g.nd) hok hpg hgi (simI_iter g (hfe X t W g) it) ht (fun s H C cells fp => hfe _ _ _ (g.blk s H C cells fp) elt) (folded hS X.env)
theorem sim_dcX {fe ft : CT → Expr → C} {kx vx tg it : Expr} {ifs : List Expr} {scope : Scope} {pos : Pos} (hfe : AllE cl lv E fe) (hft : AllT cl lv E ft) (g : Gx cl lv E W X t) : SimE X cl W E (dcX fe ft t kx vx tg it ifs scope) (.DictComp kx vx [⟨tg, it, ifs, 0⟩] scope pos) := by
  rcases dcX_cases (kx := kx) (vx := vx) (tg := tg) (it := it) (ifs := ifs) (scope := scope) (fe := fe) hft g with h | ⟨d, ct, e, hok, hpg, hgi, ht, hS⟩
  · exact sim_no h
  · rw [e]
    exact sim_dc g.calm (g.N ▸ g.nd) hok hpg hgi (simI_iter g (hfe X t W g) it) ht (fun s H C cells fp => hfe _ _ _ (g.blk s H C cells fp) kx) (fun s H C cells fp => hfe _ _ _ (g.blk s H C cells fp) vx) (folded hS X.env)
theorem sim_lc2X {fe ft : CT → Expr → C} {elt tg it tg1 it1 : Expr} {ifs1 : List Expr} {scope : Scope} {pos : Pos} (hfe : AllE cl lv E fe) (hft : AllT cl lv E ft) (g : Gx cl lv E W X t) : SimE X cl W E (lc2X fe ft t elt tg it tg1 it1 ifs1 scope) (.ListComp elt [⟨tg, it, [], 0⟩, ⟨tg1, it1, ifs1, 0⟩] scope pos) := by
  rcases lc2X_cases (elt := elt) (tg := tg) (it := it) (tg1 := tg1) (it1 := it1) (ifs1 := ifs1) (scope := scope) (fe := fe) hfe hft g with h | ⟨d, d1, ct, e, hok, hpg, hgi, hpg1, hgi1, ht, hin, hS, hS1⟩
  · exact sim_no h
  · rw [e]
    exact sim_lc2 g.calm (g.N ▸ g.nd) hok hpg hgi hpg1 (fun i h => h) hgi1 (simI_iter g (hfe X t W g) it) (fun s H C cells fp => simTs_nil) hin ht (fun s H C cells fp => hfe _ _ _ (g.blk s H C cells fp) elt) (folded hS X.env) (folded hS1)
end
end Sv
end
section
set_option linter.all false
set_option maxRecDepth 100000
set_option maxHeartbeats 4000000
/-! SvMain3: calls. -/
namespace Sv
open PySem PySem.Spec PyProof.Rows L2
section
variable {X : Cx} {cl : Nat → Addr} {W : WX} {E : Ev} {lv : Nat} {t : CT}
theorem tyE_of {x : Str} {ty : Ty} {p : Pos} (g : Gx cl lv E W X t) (h : tyOf t x = some ty) : TyE X cl (.Name x p) ty := by
  refine ⟨?_, rfl⟩
  unfold tyOf at h
  split at h
  · rename_i hf
    obtain ⟨gl, hm⟩ := g.blt hf
    repeat' split at h
    all_goals first
      | (rename_i hx; subst hx; cases h; exact pe_bltn gl hm boot_int rfl)
      | (rename_i hx; subst hx; cases h; exact pe_bltn gl hm boot_bool rfl)
      | (rename_i hx; subst hx; cases h; exact pe_bltn gl hm boot_str rfl)
      | (rename_i hx; subst hx; cases h; exact pe_bltn gl hm boot_list rfl)
      | (rename_i hx; subst hx; cases h; exact pe_bltn gl hm boot_tuple rfl)
      | (rename_i hx; subst hx; cases h; exact pe_bltn gl hm boot_dict rfl)
      | cases h
  · split at h
    · rename_i hg
      rw [Bool.and_eq_true] at hg
      have hd : (x == ("__debug__" : Str)) = false := by simpa using hg.2
      replace hg := hg.1
      cases hc : t.cls.lookup x with
      | none => rw [hc] at h; cases h
      | some cs =>
        rw [hc] at h
        cases h
        exact pe_glob (g.gl hg) (g.cls x cs hc).1 rfl hd
    · cases h
theorem tysOf_tup {es : List Expr} {k : Nat} {p : Pos} {tys : List Ty} (g : Gx cl lv E W X t) (h : tysOf t (.Tuple es k p) = some tys) : Paired (fun e ty => TyE X cl e ty) es tys := by
  simp only [tysOf] at h
  induction es generalizing tys with
  | nil => cases h; exact .nil
  | cons e es ih =>
    obtain ⟨ty, r, rfl, h1, h2⟩ := mapO_cons h
    refine .cons ?_ (ih h2)
    cases e <;> simp only at h1 <;> first | cases h1 | skip
    exact tyE_of g h1
theorem biOf_boot {x : Str} {b : Bi} (h : biOf.lookup x = some b) : bootBuiltins x = some (biVal b) ∧ plainB b = true ∧ x ≠ "__name__" ∧ (x == ("__debug__" : Str)) = false := by
  simp only [biOf, List.lookup_cons] at h
  repeat' split at h
  all_goals first
    | (rename_i hx; have hx := eq_of_beq hx; subst hx; cases h; exact ⟨by decide +kernel, rfl, by decide, by decide⟩)
    | (rename_i hx _; have hx := eq_of_beq hx; subst hx; cases h; exact ⟨by decide +kernel, rfl, by decide, by decide⟩)
    | cases h
/-- sorted(set(a)), len(set(a)) -/
def SetF (cl : Nat → Addr) (lv : Nat) (E : Ev) : Prop := ∀ (X : Cx) (t : CT) (W : WX), Gx cl lv E W X t → t.isFree "set" = true → ∀ (a : Expr) (c : C) (p p2 q pos : Pos), isStar a = false → SimE X cl W E c a →
  (t.isFree "sorted" = true → SimE X cl W E (.bi .sortedSet (.cons c .nil)) (.Call (.Name "sorted" p) [.Call (.Name "set" p2) [a] [] q] [] pos)) ∧ (t.isFree "len" = true → SimE X cl W E (.bi .lenSet (.cons c .nil)) (.Call (.Name "len" p) [.Call (.Name "set" p2) [a] [] q] [] pos))
theorem sim_biX {f : Expr → C} {x : Str} {args : List Expr} {p pos : Pos} (SF : SetF cl lv E) (g : Gx cl lv E W X t) (h : ∀ e, SimE X cl W E (f e) e) (hx : t.isFree x = true) (hs : noStar args = true) (hne : args ≠ []) : SimE X cl W E (biX f t x args) (.Call (.Name x p) args [] pos) := by
  obtain ⟨gl, hm⟩ := g.blt hx
  have plain : ∀ b, biOf.lookup x = some b → SimE X cl W E (.bi b (argsC f args)) (.Call (.Name x p) args [] pos) := fun b hb => by
    obtain ⟨h1, h2, h3, h4⟩ := biOf_boot hb
    cases args with
    | nil => exact absurd rfl hne
    | cons e es => exact sim_bi g.calm h2 gl hm h1 h3 h4 hs (simA_of h _)
  have nameOf : ∀ b, biOf.lookup x = some b → (b = .sorted → x = "sorted") ∧ (b = .len → x = "len") := fun b hb => by
    simp only [biOf, List.lookup_cons] at hb
    repeat' split at hb
    all_goals first
      | (rename_i hx; have hx := eq_of_beq hx; subst hx; cases hb; exact ⟨fun h => by cases h <;> rfl, fun h => by cases h <;> rfl⟩)
      | (rename_i hx _; have hx := eq_of_beq hx; subst hx; cases hb; exact ⟨fun h => by cases h <;> rfl, fun h => by cases h <;> rfl⟩)
      | cases hb
  unfold biX
  split
  · rename_i hb
    split
    · rename_i y p2 a q
      split
      · rename_i hy
        rw [Bool.and_eq_true, Bool.and_eq_true, decide_eq_true_eq] at hy
        obtain ⟨⟨rfl, hf⟩, ha⟩ := hy
        have hx' := (nameOf _ hb).1 rfl
        subst hx'
        exact (SF X t W g hf a (f a) p p2 q pos (by simpa using ha) (h a)).1 hx
      · exact plain _ hb
    · exact plain _ hb
  · rename_i hb
    split
    · rename_i y p2 a q
      split
      · rename_i hy
        rw [Bool.and_eq_true, Bool.and_eq_true, decide_eq_true_eq] at hy
        obtain ⟨⟨rfl, hf⟩, ha⟩ := hy
        have hx' := (nameOf _ hb).2 rfl
        subst hx'
        exact (SF X t W g hf a (f a) p p2 q pos (by simpa using ha) (h a)).2 hx
      · exact plain _ hb
    · exact plain _ hb
  · rename_i b _ _ hb
    exact plain _ hb
  · exact sim_nil
theorem sim_isiX {f : Expr → C} {args : List Expr} {p pos : Pos} (g : Gx cl lv E W X t) (h : ∀ e, SimE X cl W E (f e) e) (hx : t.isFree "isinstance" = true) (hs : noStar args = true) : SimE X cl W E (isiX f t args) (.Call (.Name "isinstance" p) args [] pos) := by
  obtain ⟨gl, hm⟩ := g.blt hx
  unfold isiX
  split
  · rename_i a ty
    split
    · rename_i tys ht
      split
      · exact sim_nil
      · rename_i hl
        simp only [Bool.or_eq_true, decide_eq_true_eq, not_or] at hl
        have h1 := (noStar_cons hs).1
        cases ty <;> first | (cases ht; done) | skip
        · rename_i x pos'
          simp only [tysOf] at ht
          cases h2 : tyOf t x with
          | none => rw [h2] at ht; cases ht
          | some y =>
            rw [h2] at ht
            cases ht
            exact sim_isi1 g.own.cf hm gl h1 (tyE_of g h2) (h a)
        · exact sim_isiT g.own.cf hm gl h1 (tysOf_tup g ht) (by omega) (h a)
    · exact sim_nil
  · exact sim_nil
theorem sim_callX {f : Expr → C} {x : Str} {args : List Expr} {kws : List Keyword} {p pos : Pos} (SF : SetF cl lv E) (g : Gx cl lv E W X t) (h : ∀ e, SimE X cl W E (f e) e) : SimE X cl W E (callX f t x args kws) (.Call (.Name x p) args kws pos) := by
  unfold callX
  split
  · rename_i hb
    rw [Bool.and_eq_true, Bool.and_eq_true] at hb
    obtain ⟨⟨hg, hs⟩, hd⟩ := hb
    have hd : (x == ("__debug__" : Str)) = false := by simpa using hd
    split
    · rename_i s hf
      obtain ⟨fa, fd, Fn, hm, hdf, hkw⟩ := g.fns x s hf
      split
      · split
        · rename_i ds hds
          obtain ⟨dvs, dsv, hb, hv, dd⟩ := hdf _ _ hds
          exact sim_call g.takes (g.room.mono (Nat.le_succ lv)) Fn (g.gl hg) hm hd hs hb hv dd (simA_of h args)
        · exact sim_nil
      · unfold kwX
        split
        · rename_i ks hks
          split
          · rename_i hsk
            exact sim_callK g.takes (g.room.mono (Nat.le_succ lv)) Fn (g.gl hg) hm hd hs hsk hks hkw h
          · exact sim_nil
        · exact sim_nil
    · split
      · rename_i cs hc
        obtain ⟨hm, fa, fd, M, Fn, hdf, hkw⟩ := g.cls x cs hc
        split
        · split
          · rename_i ds hds
            obtain ⟨dvs, dsv, hb, hv, dd⟩ := hdf _ _ hds
            exact sim_make g.takes g.room M Fn (g.gl hg) hm hd hs hb hv dd (simA_of h args)
          · exact sim_nil
        · unfold kwX
          split
          · rename_i ks hks
            split
            · rename_i hsk
              exact sim_makeK g.takes g.room M Fn (g.gl hg) hm hd hs hsk hks hkw h
            · exact sim_nil
          · exact sim_nil
      · split
        · split
          · rename_i hf
            unfold freeX
            split
            · rename_i hx
              subst hx
              exact sim_isiX g h hf hs
            · split
              · exact sim_nil
              · rename_i he
                exact sim_biX SF g h hf hs (fun z => by subst z; exact he rfl)
          · exact sim_nil
        · exact sim_nil
  · exact sim_nil
end
end Sv
end
section
set_option linter.all false
set_option maxRecDepth 100000
set_option maxHeartbeats 4000000
/-! SvMain4: all expressions. -/
namespace Sv
open PySem PySem.Spec PyProof.Rows L2
section
variable {X : Cx} {cl : Nat → Addr} {W : WX} {E : Ev} {lv : Nat} {t : CT}
theorem sim_dsp {pos : Pos} : SimE X cl W E (.dsp .nil) (.Dict [] [] pos) := fun σ H F cs sl st Q r so ok => by
  exact tW_of pe_dnewK (okG.newD (xs := []) (vs := []) ok r rfl .nil)
theorem simP_of {f : Expr → C} (h : ∀ e, SimE X cl W E (f e) e) (o : Option Expr) : SimP X cl W E (match o with | some l => f l | none => .lit .non) o := by
  cases o with
  | none => rfl
  | some l => exact h l
theorem sim_X {fe ft : CT → Expr → C} (SF : SetF cl lv E) (hfe : AllE cl lv E fe) (hft : AllT cl lv E ft) (g : Gx cl lv E W X t) (e : Expr) : SimE X cl W E (cmpX fe ft t e) e := by
  have h := hfe X t W g
  have ht := hft X t W g
  unfold cmpX
  split
  · exact sim_lit
  · exact sim_name g
  · exact sim_bin (h _) (h _)
  · exact sim_neg (h _)
  · exact sim_nt (h _)
  · exact sim_bools_and h _
  · exact sim_bools_or h _
  · split
    · exact sim_nil
    · rename_i hm
      exact sim_cmp g.units (by simpa using hm) (h _) (h _)
  · split
    · exact sim_nil
    · rename_i hm
      exact sim_chain g.units (by simpa using hm) (h _) (h _) (h _)
  · exact sim_ite (ht _) (h _) (h _)
  · exact sim_tup (simA_of h _)
  · exact sim_lst (simA_of h _)
  · exact sim_dsp
  · exact sim_lcX hfe hft g
  · exact sim_lc2X hfe hft g
  · exact sim_dcX hfe hft g
  · exact sim_callX SF g h
  · split
    · split
      · rename_i hb
        rw [Bool.and_eq_true, Bool.and_eq_true, Bool.and_eq_true] at hb
        obtain ⟨⟨⟨hb1, hb2⟩, hb3⟩, hb4⟩ := hb
        exact sim_mt g.own g.takes g.room g.units hb1 hb2 (of_decide_eq_true hb3) hb4 (h _) (simA_of h _) (fun z => by subst z; rfl)
      · exact sim_nil
    · split
      · rename_i hb
        rw [Bool.and_eq_true, Bool.and_eq_true, Bool.and_eq_true] at hb
        obtain ⟨⟨⟨hb1, hb2⟩, hb3⟩, hb4⟩ := hb
        unfold kwX
        split
        · rename_i ks hks
          split
          · rename_i hsk
            exact sim_mtK g.own g.takes g.room hb1 hb2 (of_decide_eq_true hb3) hb4 hsk hks (h _) h
          · exact sim_nil
        · exact sim_nil
      · exact sim_nil
  · split
    · rename_i hb
      exact sim_attr g.own g.room hb (h _)
    · exact sim_nil
  · exact sim_slc (h _) (simP_of h _) (simP_of h _)
  · exact sim_nil
  · rename_i hn1 hn2
    exact sim_idx g.units (fun a b c p z => by subst z; exact hn2 _ _ _ _ rfl) (h _) (h _)
  · exact sim_nil
theorem sim_TX {fe ft : CT → Expr → C} (hfe : AllE cl lv E fe) (hft : AllT cl lv E ft) (g : Gx cl lv E W X t) (e : Expr) : SimT X cl W E (cmpTX fe ft t e) e := by
  have h := hfe X t W g
  have ht := hft X t W g
  unfold cmpTX
  split
  · exact simT_not (ht _)
  · exact (simT_bools_and ht _).t
  · exact (simT_bools_or ht _).t
  · exact simT_fst
  · split
    · exact simT_fst
    · rename_i hm
      exact simT_cmp g.units (by simpa using hm) (h _) (h _)
  · split
    · exact simT_fst
    · rename_i hm
      exact simT_chain g.units (by simpa using hm) (h _) (h _) (h _)
  · exact simT_fst
  · rename_i n1 n2 n3 n4 n5 n6 n7
    refine simT_tru (h e) fun whole => ?_
    cases e <;> first
      | rfl
      | (exfalso; rename_i op _ _ _; cases op <;> first | exact n2 _ _ rfl | exact n3 _ _ rfl)
      | (exfalso; rename_i op _ _; cases op <;> first | exact n2 _ _ rfl | exact n3 _ _ rfl)
      | (rename_i op a p; cases op <;> first | rfl | exact absurd rfl (n1 _ _))
      | exact absurd rfl (n4 _ _ _ _)
      | exact absurd rfl (n7 _ _ _ _)
theorem all_cmp (SF : SetF cl lv E) : ∀ n, AllE cl lv E (cmpP n).1 ∧ AllT cl lv E (cmpP n).2
  | 0 => ⟨fun X t W g e => sim_nil, fun X t W g e => simT_fst⟩
  | n + 1 => by
    obtain ⟨h1, h2⟩ := all_cmp SF n
    refine ⟨fun X t W g e => ?_, fun X t W g e => sim_TX h1 h2 g e⟩
    show SimE X cl W E (if t.hints.any (fun p => decide (p = e.pos)) then .cel (cmpX (cmpP n).1 (cmpP n).2 t e) else cmpX (cmpP n).1 (cmpP n).2 t e) e
    split
    · exact sim_cel (sim_X SF h1 h2 g e)
    · exact sim_X SF h1 h2 g e
end
end Sv
end
section
set_option linter.all false
set_option maxRecDepth 100000
set_option maxHeartbeats 4000000
/-! SvMain5: all statements. -/
namespace Sv
open PySem PySem.Spec PyProof.Rows L2
section
variable {X : Cx} {cl : Nat → Addr} {W : WX} {E : Ev} {lv : Nat} {t : CT}
theorem simR_no {c : C} {r : TE} (h : Stuck E c) : SimR X cl W E c r := fun σ H F cs sl st Q rr so ok => by rw [h] at ok; exact ok.elim
/-- name = a comprehension: how the model stores it -/
theorem swaps_lc {elt : Expr} {gs : List Comprehension} {scope : Scope} {pos py : Pos} {y : Str} {l : Nat} {env : Env} : ∃ b : Bool, swapsWith (.ListComp elt gs scope pos) (some (.Name y py)) l env = pure b ∧ (b = true → env.scope.names.lookup y = some .local) := by
  refine ⟨env.blockKind == .function && env.kindOf y == some .local && py.line == pos.line && !(scope.names.any fun (n, k) => n == y && (k == .local || k == .cell)), rfl, fun h => ?_⟩
  simp only [Bool.and_eq_true] at h
  exact eq_of_beq h.1.1.2
theorem swaps_dc {k v : Expr} {gs : List Comprehension} {scope : Scope} {pos py : Pos} {y : Str} {l : Nat} {env : Env} : ∃ b : Bool, swapsWith (.DictComp k v gs scope pos) (some (.Name y py)) l env = pure b ∧ (b = true → env.scope.names.lookup y = some .local) := by
  refine ⟨env.blockKind == .function && env.kindOf y == some .local && py.line == pos.line && !(scope.names.any fun (n, k) => n == y && (k == .local || k == .cell)), rfl, fun h => ?_⟩
  simp only [Bool.and_eq_true] at h
  exact eq_of_beq h.1.1.2
theorem ptsB {scope : Scope} {ifs : List Expr} : BlkAll X scope fun B => PTs B ifs (ttB X scope ifs) := fun s H0 C cells fp => ⟨fun pins s' σ H Q I h => h s H0 C cells fp pins s' I⟩
theorem peB {scope : Scope} {e : Expr} : BlkAll X scope fun B => PE B e (teB X scope e) := fun s H0 C cells fp => ⟨fun pins s' σ H Q I h => h s H0 C cells fp pins s' I⟩
theorem piB {scope : Scope} {tg it : Expr} : BlkAll X scope fun B => PI B tg it (tiB X scope tg it) := fun s H0 C cells fp => ⟨fun pins s' σ H Q I h => h s H0 C cells fp pins s' I⟩
/-- a hint or none -/
def cOr (h : Bool) (c : C) : C := if h then .cel c else c
theorem simR_or {h : Bool} {c : C} {r : TE} (q : SimR X cl W E c r) : SimR X cl W E (cOr h c) r := by
  cases h with
  | true => exact simR_cel q
  | false => exact q
theorem asg_stuck {h : Bool} {c : C} {g : Tg} {b : Stmt} (hs : Stuck E c) : SimS X cl W E (.asg g (cOr h c)) b := simS_no fun sl st => by
  cases h with
  | true => simp only [cOr, if_true, evS, evE, hs sl st]; rfl
  | false => simp only [cOr, Bool.false_eq_true, if_false, evS, hs sl st]; rfl
theorem sim_setLcX {fe ft : CT → Expr → C} {h : Bool} {elt tg it : Expr} {ifs : List Expr} {scope : Scope} {i : Nat} {y : Str} {py pos spos : Pos} (hfe : AllE cl lv E fe) (hft : AllT cl lv E ft) (g : Gx cl lv E W X t) (hy : t.stq y = some i)
    (hsw : swapsWith (.ListComp elt [⟨tg, it, ifs, 0⟩] scope pos) (some (.Name y py)) spos.line X.env = pure true) (hl : X.env.scope.names.lookup y = some .local) :
    SimS X cl W E (.asg (.nm i) (cOr h (lcX fe ft t elt tg it ifs scope))) (.Assign [.Name y py] (.ListComp elt [⟨tg, it, ifs, 0⟩] scope pos) spos) := by
  rcases lcX_cases (elt := elt) (tg := tg) (it := it) (ifs := ifs) (scope := scope) (fe := fe) hft g with hs | ⟨d, ct, e, hok, hpg, hgi, ht, hS⟩
  · exact asg_stuck hs
  · rw [e]
    refine sim_setR (ps_setLc g.calm (g.N ▸ g.nd) (g.stq hy).1 hl hsw piW hok hpg ptsB peB (folded hS X.env))
      (simR_or fun σ H F cs sl st Q r so ok => lc_ok hgi (simI_iter g (hfe X t W g) it) ht (fun s H C cells fp => hfe _ _ _ (g.blk s H C cells fp) elt) r so ok)
theorem sim_setDcX {fe ft : CT → Expr → C} {h : Bool} {kx vx tg it : Expr} {ifs : List Expr} {scope : Scope} {i : Nat} {y : Str} {py pos spos : Pos} (hfe : AllE cl lv E fe) (hft : AllT cl lv E ft) (g : Gx cl lv E W X t) (hy : t.stq y = some i)
    (hsw : swapsWith (.DictComp kx vx [⟨tg, it, ifs, 0⟩] scope pos) (some (.Name y py)) spos.line X.env = pure true) (hl : X.env.scope.names.lookup y = some .local) :
    SimS X cl W E (.asg (.nm i) (cOr h (dcX fe ft t kx vx tg it ifs scope))) (.Assign [.Name y py] (.DictComp kx vx [⟨tg, it, ifs, 0⟩] scope pos) spos) := by
  rcases dcX_cases (kx := kx) (vx := vx) (tg := tg) (it := it) (ifs := ifs) (scope := scope) (fe := fe) hft g with hs | ⟨d, ct, e, hok, hpg, hgi, ht, hS⟩
  · exact asg_stuck hs
  · rw [e]
    refine sim_setR (ps_setDc g.calm (g.N ▸ g.nd) (g.stq hy).1 hl hsw piW hok hpg ptsB peB peB (folded hS X.env))
      (simR_or fun σ H F cs sl st Q r so ok => dc_ok hgi (simI_iter g (hfe X t W g) it) ht (fun s H C cells fp => hfe _ _ _ (g.blk s H C cells fp) kx) (fun s H C cells fp => hfe _ _ _ (g.blk s H C cells fp) vx) r so ok)
theorem sim_setLc2X {fe ft : CT → Expr → C} {h : Bool} {elt tg it tg1 it1 : Expr} {ifs1 : List Expr} {scope : Scope} {i : Nat} {y : Str} {py pos spos : Pos} (hfe : AllE cl lv E fe) (hft : AllT cl lv E ft) (g : Gx cl lv E W X t) (hy : t.stq y = some i)
    (hsw : swapsWith (.ListComp elt [⟨tg, it, [], 0⟩, ⟨tg1, it1, ifs1, 0⟩] scope pos) (some (.Name y py)) spos.line X.env = pure true) (hl : X.env.scope.names.lookup y = some .local) :
    SimS X cl W E (.asg (.nm i) (cOr h (lc2X fe ft t elt tg it tg1 it1 ifs1 scope))) (.Assign [.Name y py] (.ListComp elt [⟨tg, it, [], 0⟩, ⟨tg1, it1, ifs1, 0⟩] scope pos) spos) := by
  rcases lc2X_cases (elt := elt) (tg := tg) (it := it) (tg1 := tg1) (it1 := it1) (ifs1 := ifs1) (scope := scope) (fe := fe) hfe hft g with hs | ⟨d, d1, ct, e, hok, hpg, hgi, hpg1, hgi1, ht, hin, hS, hS1⟩
  · exact asg_stuck hs
  · rw [e]
    refine sim_setR (ps_setLc2 g.calm (g.N ▸ g.nd) (g.stq hy).1 hl hsw piW hok hgi1 hpg ptsB piB hpg1 ptsB peB (folded hS X.env) (folded hS1))
      (simR_or fun σ H F cs sl st Q r so ok => lc2_ok hgi (fun i h => h) (simI_iter g (hfe X t W g) it) (fun s H C cells fp => simTs_nil) hin ht (fun s H C cells fp => hfe _ _ _ (g.blk s H C cells fp) elt) r so ok)
end
end Sv
end
section
set_option linter.all false
set_option maxRecDepth 100000
set_option maxHeartbeats 4000000
/-! SvMain6: stores of tuples; all statements. -/
namespace Sv
open PySem PySem.Spec PyProof.Rows L2
section
variable {X : Cx} {cl : Nat → Addr} {W : WX} {E : Ev} {lv : Nat} {t : CT}
def namesK (t : CT) (ts : List Expr) : List Str := ts.filterMap fun
  | .Name id pos => if t.sc.names.lookup id == some .local && pos.line == (ts.head?.map (·.pos.line)).getD 0 then some id else none
  | _ => none
theorem stores_eq {ts vs : List Expr} {k k2 : Nat} {p p2 : Pos} {env : Env} (hk : env.blockKind = .function) (hsc : env.scope = t.sc) : swappedStores [.Tuple ts k p] (.Tuple vs k2 p2) env =
    if (!(ts.length == 2 || ts.length == 3) || vs.length != ts.length) = true then pure none else if vs.any isStar = true then pure none
    else if ((namesK t ts).length != ts.length || (namesK t ts).eraseDups.length != (namesK t ts).length) = true then pure none
    else if vs.all (foldedForSure 8) = true then pure none else if vs.all (constantsAlone 8) = true then unsupported "assign.tuple-of-constant-expressions:order-of-the-stores" else pure (some (namesK t ts)) := by
  unfold swappedStores
  have e1 : (ScopeKind.function != ScopeKind.function) = false := by decide
  simp only [hk, Env.kindOf, hsc, e1, Bool.or_false]
  rfl
theorem swK_eq {ts vs : List Expr} : swK t ts vs =
    if (!(ts.length == 2 || ts.length == 3) || vs.length != ts.length) = true then some false else if vs.any isStar = true then some false
    else if ((namesK t ts).length != ts.length || (namesK t ts).eraseDups.length != (namesK t ts).length) = true then some false
    else if vs.all (foldedForSure 8) = true then some false else if vs.all (constantsAlone 8) = true then none else some true := rfl
theorem setAll_len : ∀ {is : List Nat} {xs : List T} {sl sl' : Slt}, setAll is xs sl = some sl' → is.length = xs.length
  | [], [], _, _, _ => rfl
  | i :: is, x :: xs, sl, sl', h => by simp [setAll_len (is := is) (xs := xs) h]
  | [], x :: xs, _, _, h => by cases h
  | i :: is, [], _, _, h => by cases h
/-- the values of a tuple go to names -/
theorem par_ok {f : Expr → C} {h : Bool} {es : List Expr} {is : List Nat} {σ : L2.St} {H F : Hp} {cs : List Addr} {sl : Slt} {st : Stor} {D : Ends} (ha : SimA X cl W E (argsC f es) es) (r : RelH X.K cl F H cs st) (so : SlOk X.K cl F cs sl σ)
    (ok : okS X.K cl W F H cs (evS E (.asg (.tp is) (cOr h (.tup (argsC f es)))) sl st) D) : tWA X es σ H fun vs H1 => ∃ xs F1 cs1 st1 sl1, DnL X.K cl F1 cs1 xs vs ∧ RelH X.K cl F1 H1 cs1 st1 ∧ setAll is xs sl = some sl1 ∧ SlOk X.K cl F1 cs1 sl σ ∧ okS X.K cl W F1 H1 cs1 (.ok (.nx, sl1) st1) D := by
  cases h with
  | true =>
    simp only [cOr, if_true, evS, evE, Rs.bind_assoc] at ok
    refine ha σ H F cs sl st _ r so (ok.bind (k1 := kL X.K cl) fun xs st1 vs F1 H1 cs1 e1 r1 d1 ok1 => ?_)
    split at ok1 <;> exact ok1.elim
  | false =>
    simp only [cOr, Bool.false_eq_true, if_false, evS, evE, Rs.bind_assoc] at ok
    refine ha σ H F cs sl st _ r so (ok.bind (k1 := kL X.K cl) fun xs st1 vs F1 H1 cs1 e1 r1 d1 ok1 => ?_)
    split at ok1
    · cases hs : setAll is xs sl with
      | none =>
        have : asgT (.tp is) (.tup xs) sl st1 = none := hs
        simp only [Rs.bind, R.fz, this] at ok1
        exact ok1.elim
      | some sl1 =>
        have : asgT (.tp is) (.tup xs) sl st1 = some sl1 := hs
        simp only [Rs.bind, R.fz, this] at ok1
        exact ⟨xs, F1, cs1, st1, sl1, d1, r1, hs, so.ext e1, ok1⟩
    · exact ok1.elim
theorem sim_par2 {f : Expr → C} {h : Bool} {a b : Expr} {x y : Str} {i j : Nat} {px py pt pos : Pos} {kt k2 : Nat} {pt2 : Pos} (ha : ∀ e, SimE X cl W E (f e) e) (g : Gx cl lv E W X t) (hi : t.stq x = some i) (hj : t.stq y = some j) (hxy : x ≠ y) (hx : t.sc.names.lookup x = some .local) (hy : t.sc.names.lookup y = some .local)
    (hw : swappedStores [.Tuple [.Name x px, .Name y py] kt pt] (.Tuple [a, b] k2 pt2) X.env = pure (some [x, y])) : SimS X cl W E (.asg (.tp [i, j]) (cOr h (.tup (argsC f [a, b])))) (.Assign [.Tuple [.Name x px, .Name y py] kt pt] (.Tuple [a, b] k2 pt2) pos) := fun σ H F cs sl st D r so ok => by
  have h1 := (g.stq hi).1
  have h2 := (g.stq hj).1
  have hij : i ≠ j := fun e => by subst e; rw [h1] at h2; cases h2; exact hxy rfl
  have key := par_ok (simA_of ha [a, b]) r so ok
  refine tWS_of (ps_par g.calm (g.N ▸ g.nd) h1 h2 hij (by rw [g.sc]; exact hx) (by rw [g.sc]; exact hy) paW hw rfl) (fun ps pins s I => thn (key ps pins s I) fun us s' ⟨vs, H1, I1, rv, xs, F1, cs1, st1, sl1, d1, r1, hs, so1, ok1⟩ => ⟨vs, H1, I1, rv, ?_⟩)
  have hl := setAll_len hs
  match xs, d1, hl, hs with
  | [x1, x2], .cons d1 (.cons d2 .nil), _, hs =>
    cases hs
    exact ⟨_, _, rfl, okS.nx ok1 r1 ((so1.set i d1).set j d2)⟩
theorem sim_par3 {f : Expr → C} {h : Bool} {a b c : Expr} {x y z : Str} {i j l : Nat} {px py pz pt pos : Pos} {kt k2 : Nat} {pt2 : Pos} (ha : ∀ e, SimE X cl W E (f e) e) (g : Gx cl lv E W X t) (hi : t.stq x = some i) (hj : t.stq y = some j) (hl : t.stq z = some l) (hxy : x ≠ y) (hxz : x ≠ z) (hyz : y ≠ z)
    (hx : t.sc.names.lookup x = some .local) (hy : t.sc.names.lookup y = some .local) (hz : t.sc.names.lookup z = some .local)
    (hw : swappedStores [.Tuple [.Name x px, .Name y py, .Name z pz] kt pt] (.Tuple [a, b, c] k2 pt2) X.env = pure (some [x, y, z])) : SimS X cl W E (.asg (.tp [i, j, l]) (cOr h (.tup (argsC f [a, b, c])))) (.Assign [.Tuple [.Name x px, .Name y py, .Name z pz] kt pt] (.Tuple [a, b, c] k2 pt2) pos) := fun σ H F cs sl st D r so ok => by
  have h1 := (g.stq hi).1
  have h2 := (g.stq hj).1
  have h3 := (g.stq hl).1
  have hij : i ≠ j := fun e => by subst e; rw [h1] at h2; cases h2; exact hxy rfl
  have hil : i ≠ l := fun e => by subst e; rw [h1] at h3; cases h3; exact hxz rfl
  have hjl : j ≠ l := fun e => by subst e; rw [h2] at h3; cases h3; exact hyz rfl
  have key := par_ok (simA_of ha [a, b, c]) r so ok
  refine tWS_of (ps_par3 g.calm (g.N ▸ g.nd) h1 h2 h3 hij hil hjl (by rw [g.sc]; exact hx) (by rw [g.sc]; exact hy) (by rw [g.sc]; exact hz) paW hw rfl) (fun ps pins s I => thn (key ps pins s I) fun us s' ⟨vs, H1, I1, rv, xs, F1, cs1, st1, sl1, d1, r1, hs, so1, ok1⟩ => ⟨vs, H1, I1, rv, ?_⟩)
  have hl := setAll_len hs
  match xs, d1, hl, hs with
  | [x1, x2, x3], .cons d1 (.cons d2 (.cons d3 .nil)), _, hs =>
    cases hs
    exact ⟨_, _, _, rfl, okS.nx ok1 r1 (((so1.set i d1).set j d2).set l d3)⟩
end
end Sv
end
section
set_option linter.all false
set_option maxRecDepth 100000
set_option maxHeartbeats 4000000
/-! SvMain7: all statements. -/
namespace Sv
open PySem PySem.Spec PyProof.Rows L2
section
variable {X : Cx} {cl : Nat → Addr} {W : WX} {E : Ev} {lv : Nat} {t : CT}
theorem Gx.kind (g : Gx cl lv E W X t) (hf : X.env.scope.kind = .function) : X.env.blockKind = .function := by
  unfold Env.blockKind; rw [hf]; rfl
theorem stores_none {ts vs : List Expr} {k k2 : Nat} {p p2 : Pos} {env : Env} (hk : env.blockKind = .function) (hsc : env.scope = t.sc) (h : swK t ts vs = some false) : swappedStores [.Tuple ts k p] (.Tuple vs k2 p2) env = pure none := by
  rw [swK_eq] at h
  rw [stores_eq hk hsc]
  by_cases c1 : (!(ts.length == 2 || ts.length == 3) || vs.length != ts.length) = true
  · rw [if_pos c1]
  · rw [if_neg c1] at h ⊢
    by_cases c2 : vs.any isStar = true
    · rw [if_pos c2]
    · rw [if_neg c2] at h ⊢
      by_cases c3 : ((namesK t ts).length != ts.length || (namesK t ts).eraseDups.length != (namesK t ts).length) = true
      · rw [if_pos c3]
      · rw [if_neg c3] at h ⊢
        by_cases c4 : vs.all (foldedForSure 8) = true
        · rw [if_pos c4]
        · rw [if_neg c4] at h ⊢
          by_cases c5 : vs.all (constantsAlone 8) = true
          · rw [if_pos c5] at h; cases h
          · rw [if_neg c5] at h; cases h
theorem stores_some {ts vs : List Expr} {k k2 : Nat} {p p2 : Pos} {env : Env} (hk : env.blockKind = .function) (hsc : env.scope = t.sc) (h : swK t ts vs = some true) : swappedStores [.Tuple ts k p] (.Tuple vs k2 p2) env = pure (some (namesK t ts)) ∧ (ts.length = 2 ∨ ts.length = 3) ∧ vs.length = ts.length ∧
    (namesK t ts).length = ts.length ∧ (namesK t ts).eraseDups.length = (namesK t ts).length := by
  rw [swK_eq] at h
  rw [stores_eq hk hsc]
  by_cases c1 : (!(ts.length == 2 || ts.length == 3) || vs.length != ts.length) = true
  · rw [if_pos c1] at h; cases h
  · rw [if_neg c1] at h ⊢
    by_cases c2 : vs.any isStar = true
    · rw [if_pos c2] at h; cases h
    · rw [if_neg c2] at h ⊢
      by_cases c3 : ((namesK t ts).length != ts.length || (namesK t ts).eraseDups.length != (namesK t ts).length) = true
      · rw [if_pos c3] at h; cases h
      · rw [if_neg c3] at h ⊢
        by_cases c4 : vs.all (foldedForSure 8) = true
        · rw [if_pos c4] at h; cases h
        · rw [if_neg c4] at h ⊢
          by_cases c5 : vs.all (constantsAlone 8) = true
          · rw [if_pos c5] at h; cases h
          · rw [if_neg c5]
            simp at c1 c3
            exact ⟨rfl, by omega, c1.2, c3.1, c3.2⟩
theorem swapsSole_tup {ts : List Expr} {k : Nat} {p : Pos} {e : Expr} {l : Nat} {env : Env} : swapsWithSole [.Tuple ts k p] e l env = pure false := by cases e <;> rfl
theorem cmpE_tup {n : Nat} {vs : List Expr} {k : Nat} {p : Pos} : cmpE n t (.Tuple vs k p) = .nil ∨ ∃ h m, cmpE n t (.Tuple vs k p) = cOr h (.tup (argsC ((cmpP m).1 t) vs)) := by
  cases n with
  | zero => exact .inl rfl
  | succ m => exact .inr ⟨t.hints.any (fun q => decide (q = (Expr.Tuple vs k p).pos)), m, rfl⟩
theorem stq_name {e : Expr} {i : Nat} (h : stqE t e = some i) : ∃ x p, e = .Name x p ∧ t.stq x = some i := by
  cases e <;> first | exact ⟨_, _, rfl, h⟩ | cases h
theorem dups3 {a b c : Str} (h : [a, b, c].eraseDups.length = [a, b, c].length) : a ≠ b ∧ a ≠ c ∧ b ≠ c := by
  by_cases h1 : b = a
  · subst h1
    by_cases h2 : c = b <;> simp [List.eraseDups_cons, List.filter_cons, h2] at h
  · by_cases h2 : c = a
    · subst h2
      simp [List.eraseDups_cons, List.filter_cons, h1] at h
    · by_cases h3 : c = b
      · subst h3
        simp [List.eraseDups_cons, List.filter_cons, h1] at h
      · exact ⟨fun e => h1 e.symm, fun e => h2 e.symm, fun e => h3 e.symm⟩
/-- all the targets are local names, on one line -/
theorem namesK_all {f : Expr → Option Str} : ∀ {l : List Expr}, (l.filterMap f).length = l.length → ∀ e ∈ l, ∃ x, f e = some x
  | [], _, e, h => by cases h
  | a :: l, hl, e, h => by
    rw [List.filterMap_cons] at hl
    cases ha : f a with
    | none =>
      rw [ha] at hl
      have := List.length_filterMap_le f l
      simp only [List.length_cons] at hl
      omega
    | some x =>
      rw [ha] at hl
      simp only [List.length_cons, Nat.add_right_cancel_iff] at hl
      rcases List.mem_cons.mp h with rfl | h
      · exact ⟨x, ha⟩
      · exact namesK_all hl e h
theorem namesK_loc {ts : List Expr} (h : (namesK t ts).length = ts.length) {x : Str} {p : Pos} (hx : Expr.Name x p ∈ ts) : t.sc.names.lookup x = some .local ∧ (p.line == (ts.head?.map (·.pos.line)).getD 0) = true := by
  obtain ⟨y, hy⟩ := namesK_all h _ hx
  simp only at hy
  split at hy
  · rename_i hc
    rw [Bool.and_eq_true] at hc
    exact ⟨eq_of_beq hc.1, hc.2⟩
  · cases hy
theorem sim_tupS {n : Nat} {ts vs : List Expr} {k k2 : Nat} {p p2 pos : Pos} {d : Tg} {b : Bool} (SF : SetF cl lv E) (g : Gx cl lv E W X t) (hf : X.env.scope.kind = .function) (hd : tgOf t (.Tuple ts k p) = some d) (hs : swK t ts vs = some b) :
    SimS X cl W E (.asg d (cmpE n t (.Tuple vs k2 p2))) (.Assign [.Tuple ts k p] (.Tuple vs k2 p2) pos) := by
  have hk := g.kind hf
  have h := (all_cmp (E := E) (lv := lv) SF n).1 X t W g
  cases b with
  | false => exact sim_asg (g.pg hd) (h _) swapsSole_tup (stores_none hk g.sc hs) rfl
  | true =>
    obtain ⟨e1, hlen, hv, hn, hdup⟩ := stores_some (k := k) (p := p) (k2 := k2) (p2 := p2) hk g.sc hs
    rcases cmpE_tup (t := t) (n := n) (vs := vs) (k := k2) (p := p2) with e2 | ⟨hh, m, e2⟩
    · rw [e2]
      exact simS_no fun _ _ => rfl
    · rw [e2]
      have h' := (all_cmp (E := E) (lv := lv) SF m).1 X t W g
      simp only [tgOf] at hd
      cases hm : mapO (stqE t) ts with
      | none => rw [hm] at hd; cases hd
      | some is =>
        rw [hm] at hd
        cases hd
        rcases hlen with hl | hl
        · match ts, vs, hl, hv, hm with
          | [a1, a2], [b1, b2], _, _, hm =>
            obtain ⟨i1, r1, rfl, q1, hm⟩ := mapO_cons hm
            obtain ⟨i2, r2, rfl, q2, hm⟩ := mapO_cons hm
            cases hm
            obtain ⟨x1, p1, rfl, s1⟩ := stq_name q1
            obtain ⟨x2, p2', rfl, s2⟩ := stq_name q2
            have l1 := namesK_loc hn (x := x1) (p := p1) (by simp)
            have l2 := namesK_loc hn (x := x2) (p := p2') (by simp)
            have en : namesK t [.Name x1 p1, .Name x2 p2'] = [x1, x2] := by
              unfold namesK
              simp only [List.filterMap_cons, List.filterMap_nil, l1.1, l1.2, l2.1, l2.2, beq_self_eq_true, Bool.and_self, if_true]
            rw [en] at e1 hdup
            have hne : x1 ≠ x2 := fun z => by subst z; simp [List.eraseDups_cons] at hdup
            exact sim_par2 h' g s1 s2 hne l1.1 l2.1 e1
        · match ts, vs, hl, hv, hm with
          | [a1, a2, a3], [b1, b2, b3], _, _, hm =>
            obtain ⟨i1, r1, rfl, q1, hm⟩ := mapO_cons hm
            obtain ⟨i2, r2, rfl, q2, hm⟩ := mapO_cons hm
            obtain ⟨i3, r3, rfl, q3, hm⟩ := mapO_cons hm
            cases hm
            obtain ⟨x1, p1, rfl, s1⟩ := stq_name q1
            obtain ⟨x2, p2', rfl, s2⟩ := stq_name q2
            obtain ⟨x3, p3', rfl, s3⟩ := stq_name q3
            have l1 := namesK_loc hn (x := x1) (p := p1) (by simp)
            have l2 := namesK_loc hn (x := x2) (p := p2') (by simp)
            have l3 := namesK_loc hn (x := x3) (p := p3') (by simp)
            have en : namesK t [.Name x1 p1, .Name x2 p2', .Name x3 p3'] = [x1, x2, x3] := by
              unfold namesK
              simp only [List.filterMap_cons, List.filterMap_nil, l1.1, l1.2, l2.1, l2.2, l3.1, l3.2, beq_self_eq_true, Bool.and_self, if_true]
            rw [en] at e1 hdup
            obtain ⟨h12, h13, h23⟩ := dups3 hdup
            exact sim_par3 h' g s1 s2 s3 h12 h13 h23 l1.1 l2.1 l3.1 e1
end
end Sv
end
section
set_option linter.all false
set_option maxRecDepth 100000
set_option maxHeartbeats 4000000
/-! SvMain8: all statements; defs. -/
namespace Sv
open PySem PySem.Spec PyProof.Rows L2
section
variable {X : Cx} {cl : Nat → Addr} {W : WX} {E : Ev} {lv : Nat} {t : CT}
theorem simSs_of {f : Stmt → S} (h : ∀ s, SimS X cl W E (f s) s) : ∀ b : List Stmt, SimSs X cl W E (stmtsC t f b) b
  | [] => simSs_nil
  | s :: r => by
    have base := simSs_cons (h s) (simSs_of h r)
    show SimSs X cl W E (frzC ((t.frz.lookup (posS s)).getD []) (.seq (f s) (stmtsC t f r))) (s :: r)
    generalize (t.frz.lookup (posS s)).getD [] = l
    induction l with
    | nil => exact base
    | cons i l ih => exact simSs_frz ih
theorem swaps_plain {e : Expr} {tg : Option Expr} {l : Nat} {env : Env} (h : isComp e = false) : swapsWith e tg l env = pure false := by
  cases e <;> first | rfl | cases h
theorem stores_name {x : Str} {p : Pos} {e : Expr} {env : Env} : swappedStores [.Name x p] e env = pure none := by cases e <;> rfl
theorem stores_tup {ts : List Expr} {k : Nat} {p : Pos} {e : Expr} {env : Env} (h : ∀ a b c, e ≠ .Tuple a b c) : swappedStores [.Tuple ts k p] e env = pure none := by
  cases e <;> first | rfl | exact absurd rfl (h _ _ _)
theorem cmpX_lc {fe ft : CT → Expr → C} {elt : Expr} {gs : List Comprehension} {scope : Scope} {cp : Pos} :
    (∃ tg it ifs, gs = [⟨tg, it, ifs, 0⟩] ∧ cmpX fe ft t (.ListComp elt gs scope cp) = lcX fe ft t elt tg it ifs scope) ∨
    (∃ tg it tg1 it1 ifs1, gs = [⟨tg, it, [], 0⟩, ⟨tg1, it1, ifs1, 0⟩] ∧ cmpX fe ft t (.ListComp elt gs scope cp) = lc2X fe ft t elt tg it tg1 it1 ifs1 scope) ∨ cmpX fe ft t (.ListComp elt gs scope cp) = .nil := by
  generalize he : Expr.ListComp elt gs scope cp = e
  unfold cmpX
  split <;> first | (cases he; done) | (cases he; exact .inl ⟨_, _, _, rfl, rfl⟩) | (cases he; exact .inr (.inl ⟨_, _, _, _, _, rfl, rfl⟩)) | exact .inr (.inr rfl)
theorem cmpX_dc {fe ft : CT → Expr → C} {kx vx : Expr} {gs : List Comprehension} {scope : Scope} {cp : Pos} :
    (∃ tg it ifs, gs = [⟨tg, it, ifs, 0⟩] ∧ cmpX fe ft t (.DictComp kx vx gs scope cp) = dcX fe ft t kx vx tg it ifs scope) ∨ cmpX fe ft t (.DictComp kx vx gs scope cp) = .nil := by
  generalize he : Expr.DictComp kx vx gs scope cp = e
  unfold cmpX
  split <;> first | (cases he; done) | (cases he; exact .inl ⟨_, _, _, rfl, rfl⟩) | exact .inr rfl
/-- name = e -/
theorem sim_nameS {n : Nat} {x : Str} {p pos : Pos} {e : Expr} {g : Tg} (SF : SetF cl lv E) (G : Gx cl lv E W X t) (hg : tgOf t (.Name x p) = some g) : SimS X cl W E (.asg g (cmpE n t e)) (.Assign [.Name x p] e pos) := by
  have hall := all_cmp (E := E) (lv := lv) SF n
  have h := hall.1 X t W G
  have plain : swapsWith e (some (.Name x p)) pos.line X.env = pure false → SimS X cl W E (.asg g (cmpE n t e)) (.Assign [.Name x p] e pos) := fun hs =>
    sim_asg (G.pg hg) (h e) hs stores_name rfl
  cases hc : isComp e with
  | false => exact plain (swaps_plain hc)
  | true =>
    have hstuck0 : n = 0 → SimS X cl W E (.asg g (cmpE n t e)) (.Assign [.Name x p] e pos) := fun hn => by subst hn; exact simS_no fun _ _ => rfl
    simp only [tgOf] at hg
    cases hx : t.stq x with
    | none => rw [hx] at hg; cases hg
    | some i =>
      rw [hx] at hg
      cases hg
      cases n with
      | zero => exact hstuck0 rfl
      | succ m =>
        have hm := all_cmp (E := E) (lv := lv) SF m
        cases e <;> first | cases hc | skip
        · rename_i elt gs scope cp
          obtain ⟨b, hb1, hb2⟩ := swaps_lc (elt := elt) (gs := gs) (scope := scope) (pos := cp) (py := p) (y := x) (l := pos.line) (env := X.env)
          cases b with
          | false => exact plain hb1
          | true =>
            have hl := hb2 rfl
            show SimS X cl W E (.asg (.nm i) (cOr (t.hints.any (fun q => decide (q = (Expr.ListComp elt gs scope cp).pos))) (cmpX (cmpP m).1 (cmpP m).2 t (.ListComp elt gs scope cp)))) _
            rcases cmpX_lc (fe := (cmpP m).1) (ft := (cmpP m).2) (t := t) (elt := elt) (gs := gs) (scope := scope) (cp := cp) with ⟨tg, it, ifs, rfl, e⟩ | ⟨tg, it, tg1, it1, ifs1, rfl, e⟩ | e
            · rw [e]; exact sim_setLcX hm.1 hm.2 G hx hb1 hl
            · rw [e]; exact sim_setLc2X hm.1 hm.2 G hx hb1 hl
            · rw [e]; exact asg_stuck fun _ _ => rfl
        · rename_i elt gs scope cp
          show SimS X cl W E (.asg (.nm i) (cOr (t.hints.any (fun q => decide (q = (Expr.SetComp elt gs scope cp).pos))) (cmpX (cmpP m).1 (cmpP m).2 t (.SetComp elt gs scope cp)))) _
          exact asg_stuck fun _ _ => rfl
        · rename_i kx vx gs scope cp
          obtain ⟨b, hb1, hb2⟩ := swaps_dc (k := kx) (v := vx) (gs := gs) (scope := scope) (pos := cp) (py := p) (y := x) (l := pos.line) (env := X.env)
          cases b with
          | false => exact plain hb1
          | true =>
            have hl := hb2 rfl
            show SimS X cl W E (.asg (.nm i) (cOr (t.hints.any (fun q => decide (q = (Expr.DictComp kx vx gs scope cp).pos))) (cmpX (cmpP m).1 (cmpP m).2 t (.DictComp kx vx gs scope cp)))) _
            rcases cmpX_dc (fe := (cmpP m).1) (ft := (cmpP m).2) (t := t) (kx := kx) (vx := vx) (gs := gs) (scope := scope) (cp := cp) with ⟨tg, it, ifs, rfl, e⟩ | e
            · rw [e]; exact sim_setDcX hm.1 hm.2 G hx hb1 hl
            · rw [e]; exact asg_stuck fun _ _ => rfl
theorem sim_S (SF : SetF cl lv E) (g : Gx cl lv E W X t) (hf : X.env.scope.kind = .function) (hp : PassesOwn (model X.prog X.w) X.A X.env X.xe) : ∀ (n : Nat) (s : Stmt), SimS X cl W E (cmpS n t s) s
  | 0, s => simS_no fun _ _ => rfl
  | n + 1, s => by
    have ih := sim_S SF g hf hp n
    have hall := all_cmp (E := E) (lv := lv) SF n
    have h := hall.1 X t W g
    have ht := hall.2 X t W g
    unfold cmpS
    split
    · split
      · exact simS_no fun _ _ => rfl
      · rename_i hn
        exact sim_sub g.units (fun a b c p z => by subst z; exact hn _ _ _ _ rfl) (h _) (h _) (h _)
    · exact sim_fld g.own (h _) (h _)
    · split
      · rename_i d hd
        exact sim_nameS SF g hd
      · exact simS_no fun _ _ => rfl
    · split
      · rename_i d b hd hs
        exact sim_tupS SF g hf hd hs
      · exact simS_no fun _ _ => rfl
    · rename_i hn
      split
      · rename_i d hd
        exact sim_asg (g.pg hd) (h _) swapsSole_tup (stores_tup fun a b c z => by subst z; exact hn _ _ _ rfl) rfl
      · exact simS_no fun _ _ => rfl
    · split
      · rename_i i hi
        obtain ⟨h1, h2, h3⟩ := g.stq hi
        exact sim_aug (g.N ▸ g.nd) h1 h2 h3 (h _)
      · exact simS_no fun _ _ => rfl
    · exact sim_ife (ht _) (simSs_of ih _) (simSs_of ih _)
    · rename_i tg it b pos
      split
      · rename_i d hd
        rcases set_or it with ⟨a, c, q, rfl⟩ | hS
        · exact simS_no fun _ _ => rfl
        · exact sim_for hp g.calm (g.pg hd) (simI_iter g h it) (simSs_of ih _) (folded hS X.env)
      · exact simS_no fun _ _ => rfl
    · exact sim_whl hp (ht _) (simSs_of ih _)
    · exact sim_ret (h _)
    · exact sim_retN
    · split
      · exact simS_no fun _ _ => rfl
      · rename_i hc
        exact sim_ex (h _) (swaps_plain (by simpa using hc))
    · exact sim_pass
    · exact sim_brk
    · exact sim_cnt
    · exact simS_no fun _ _ => rfl
theorem sim_Ss (SF : SetF cl lv E) (g : Gx cl lv E W X t) (hf : X.env.scope.kind = .function) (hp : PassesOwn (model X.prog X.w) X.A X.env X.xe) (n : Nat) (b : List Stmt) : SimSs X cl W E (cmpSs n t b) b := simSs_of (sim_S SF g hf hp n) b
end
end Sv
end
section
set_option linter.all false
set_option maxRecDepth 100000
set_option maxHeartbeats 4000000
/-! SvMain9: every def keeps what the interpreter says. -/
namespace Sv
open PySem PySem.Spec PyProof.Rows L2

/-- what a program's tables must keep -/
structure CtOk (K : PySem.W.Frag) (mg : Str → Option Value) (cl : Nat → Addr) (G : Tabs) (fnT : Nat → Option Fn) (fa : Nat → Addr) (fdt : Nat → FuncData) (pst : Nat → List Str) (t : CT) : Prop where
  fn : t.fn = fun _ => true
  free : ∀ x, x ∈ t.free → mg x = none
  glo : ∀ x u, t.glo.lookup x = some u → G.glo x = some u ∧ ∃ v w, mg x = some w ∧ RelV v w ∧ ∀ F cs, Dn K cl F cs u v
  fns : ∀ x s, t.fns.lookup x = some s → (fnT s.f).isSome = true ∧ pst s.f = s.ps ∧ mg x = some (.ref (fa s.f)) ∧ ∀ n dts, withDfl s.ps s.ds n = some dts → DflOk K cl (fdt s.f) s.ps dts
  cls : ∀ x cs, t.cls.lookup x = some cs → mg x = some (.ref (cl cs.1)) ∧ (fnT cs.2.f).isSome = true ∧ pst cs.2.f = cs.2.ps ∧ Mk K (cl cs.1) (fa cs.2.f) ∧ ∀ n dts, withDfl (cs.2.ps.drop 1) cs.2.ds n = some dts → DflOk K cl (fdt cs.2.f) cs.2.ps dts
structure PF (K : PySem.W.Frag) (mg : Str → Option Value) (cl : Nat → Addr) (G : Tabs) (fns : Nat → Option Fn) (fa : Nat → Addr) (fdt : Nat → FuncData) (pst : Nat → List Str) : Prop where
  defs : ∀ i F, fns i = some F → ∃ (x qual : Str) (params : Arguments) (body : List Stmt) (scope : Scope) (dvs : List V) (kws : List (Str × V)) (t : CT) (n : Nat),
    FunD K x qual params body scope dvs kws (fa i) (fdt i) ∧ FnScope t.N (pst i) scope ∧ F = ⟨t.N.length, (pst i).length, cmpSs n t body⟩ ∧ t.sc = scope ∧ CtOk K mg cl G fns fa fdt pst t
  cf : ClsF K cl G
  fld : ∀ c f, G.fld c f = true → G.cls c = true ∧ NoAttr K (cl c) f
  meth : ∀ c m f, G.meth c m = some f → G.cls c = true ∧ (fns f).isSome = true ∧ Meth K (cl c) m (fa f) ∧ Binds K (fdt f) (pst f) []
  kw : ∀ i n ks pm ds, G.kw i n ks = some (pm, ds) → KwF K cl (fdt i) (pst i) n ks pm ds
  prop : ∀ c m f, G.prop c m = some f → G.cls c = true ∧ (fns f).isSome = true ∧ ∃ p, PropOf K (cl c) m p (fa f) ∧ Binds K (fdt f) (pst f) []

section
variable {P : Program} {w : World} {K : PySem.W.Frag} {mg : Str → Option Value} {base : Heap} {cl : Nat → Addr} {G : Tabs} {fns : Nat → Option Fn} {fa : Nat → Addr} {fdt : Nat → FuncData} {pst : Nat → List Str}

theorem start_ok {N : List Str} {F : Hp} {cs : List Addr} {ts : List T} {vs : List V} (d : DnL K cl F cs ts vs) : SlOk K cl F cs (ts.map some ++ List.replicate (N.length - ts.length) none) (L2.start N vs) := by
  have hl := d.length
  refine ⟨by simp [L2.start, hl], fun i t h => ?_⟩
  by_cases hi : i < ts.length
  · rw [List.getElem?_append_left (by simpa using hi), List.getElem?_map] at h
    cases ht : ts[i]? with
    | none => rw [ht] at h; cases h
    | some u =>
      rw [ht] at h
      cases h
      obtain ⟨v, h1, h2⟩ := d.get ht
      refine ⟨v, ?_, h2⟩
      unfold L2.start
      rw [List.getElem?_append_left (by simpa [← hl] using hi), List.getElem?_map, h1]
      rfl
  · rw [List.getElem?_append_right (by simpa using hi)] at h
    rw [List.getElem?_replicate] at h
    split at h <;> cases h

theorem gx_of {CX' : CXT} {k : Nat} {E : XK} (p : PF K mg cl G fns fa fdt pst) (ih : ∀ i F, fns i = some F → FnOk P w K mg base (CX P w) (2 * k) (fa i) (fdt i) (pst i) (spOf K cl (run G fns k i)))
    {t : CT} {ps : List Str} {qual : Str} {f : Addr} {cdv : Value} {A : Around} {outer : List Env} {s : Shared} {H : Hp} (c : CtOk K mg cl G fns fa fdt pst t) (S : FnScope t.N ps t.sc)
    (hr : Room (2 * k + 1) (A.deeper (envOfC qual t.sc s.heap.objs.size f cdv))) :
    Gx cl (2 * k) ⟨G, run G fns k⟩ (fun cls d _ H => E cls d H) (cxOf (CX P w) P w K mg base t.N qual t.sc f cdv A outer s H E) t := by
  have kp : ∀ i F, fns i = some F → PySem.W.keepIn K (.ref (fa i)) = true := fun i F hF => by
    obtain ⟨x, qual, params, body, scope, dvs, kws, t, n, fd, _⟩ := p.defs i F hF
    exact fd.kp
  have ff : ∀ i, (fns i).isSome = true → FnF (cxOf (CX P w) P w K mg base t.N qual t.sc f cdv A outer s H E) cl (2 * k) (fa i) (fdt i) (pst i) (run G fns k i) := fun i hi => by
    cases hF : fns i with
    | none => rw [hF] at hi; cases hi
    | some F => exact ⟨ih i F hF, kp i F hF⟩
  refine ⟨rfl, S.nd, rfl, c.fn.symm, rfl, takes_of rfl rfl rfl rfl, hr, ⟨p.cf, p.fld, fun cc m g hg => ?_, fun cc m g hg => ?_⟩, c.free, c.glo, fun x sg hx => ?_, fun x cs hx => ?_⟩
  · obtain ⟨h1, h2, h3, h4⟩ := p.meth cc m g hg
    exact ⟨h1, fa g, fdt g, pst g, h3, ff g h2, h4, fun n ks pm ds hk => p.kw g n ks pm ds hk⟩
  · obtain ⟨h1, h2, q, h3, h4⟩ := p.prop cc m g hg
    exact ⟨h1, q, fa g, fdt g, pst g, h3, ff g h2, h4⟩
  · obtain ⟨h1, h2, h3, h4⟩ := c.fns x sg hx
    exact ⟨fa sg.f, fdt sg.f, h2 ▸ ff sg.f h1, h3, h4, fun n ks pm ds hk => h2 ▸ p.kw sg.f n ks pm ds hk⟩
  · obtain ⟨h0, h1, h2, h3, h4⟩ := c.cls x cs hx
    exact ⟨h0, fa cs.2.f, fdt cs.2.f, h3, h2 ▸ ff cs.2.f h1, h4, fun n ks pm ds hk => h2 ▸ p.kw cs.2.f n ks pm ds hk⟩

theorem all_fn (SF : ∀ k, SetF cl (2 * k) ⟨G, run G fns k⟩) (p : PF K mg cl G fns fa fdt pst) : ∀ (k i : Nat) (F : Fn), fns i = some F → FnOk P w K mg base (CX P w) (2 * k) (fa i) (fdt i) (pst i) (spOf K cl (run G fns k i))
  | 0, i, F, _ => ⟨fun vs H Q E ⟨F, cs, st, ts, r, d, ok⟩ => ok.elim, fun A outer s H args us vs Q E _ _ _ _ ⟨F, cs, st, ts, r, d, ok⟩ => ok.elim⟩
  | k + 1, i, F, hF => by
    obtain ⟨x, qual, params, body, scope, dvs, kws, t, n, fd, S, hFe, hsc, c⟩ := p.defs i F hF
    subst hsc
    have hrun : ∀ ts st, run G fns (k + 1) i ts st = runB ⟨G, run G fns k⟩ F ts st := fun ts st => by
      show (match fns i with | some F => runB ⟨G, run G fns k⟩ F ts st | none => .no) = _
      rw [hF]
    refine fd.ok (k := 2 * k + 1) S (fun vs H Q E ⟨F1, cs, st, ts, r, d, ok⟩ => ?_) fun cdv A outer s H vs Q E hr ⟨F1, cs, st, ts, r, d, ok⟩ => ?_
    · rw [hrun] at ok
      unfold runB at ok
      split at ok
      · rename_i hl
        rw [← d.length, hl, hFe]
      · exact ok.elim
    · have g := gx_of (P := P) (w := w) (base := base) (CX' := CX P w) (E := E) (outer := outer) (H := H) p (all_fn SF p k) c S hr
      refine ⟨_, pssW, ?_⟩
      rw [hrun] at ok
      unfold runB at ok
      split at ok
      · rename_i hl
        have hb : F.body = cmpSs n t body := by rw [hFe]
        have hn : F.n = t.N.length := by rw [hFe]
        rw [hb, hn] at ok
        refine sim_Ss (SF k) g S.kind (passes_of rfl) n body (L2.start t.N vs) H F1 cs _ st _ r (start_ok d) ?_
        generalize evS ⟨G, run G fns k⟩ (cmpSs n t body) (ts.map some ++ List.replicate (t.N.length - ts.length) none) st = res at ok ⊢
        cases res with
        | no => exact ok.elim
        | ok f st1 =>
          obtain ⟨fl, sl⟩ := f
          intro σ' F' H' cs' e r' so'
          cases fl with
          | nx => exact leave_ok r r' e (show DnR K cl H (.val .non) F' H' cs' .non from .non) ok
          | rt rr => exact fun v dv => leave_ok r r' e dv ok
          | bk => exact ok.elim
          | ct => exact ok.elim
        | ex x st1 => exact fun c d σ' F' H' cs' e r' dx => leaveX_ok r r' e dx ok
      · exact ok.elim
end
end Sv
end
section
set_option linter.all false
set_option maxRecDepth 100000
set_option maxHeartbeats 4000000
/-! SvSet: set(xs) of ints and texts, sorted and counted. -/
namespace Sv
open PySem PySem.Spec PyProof.Rows L2

def keyE (e : Int × Value) : Key := match e.2 with
  | .int k _ => .inl k
  | .str x _ => .inr x
  | _ => .inl 0
def GoodM (P : Program) (w : World) (e : Int × Value) : Prop := ∃ k : Key, keyIs k e.2 = true ∧ e.1 = (mixKind P w).hash k
theorem keyE_of {e : Int × Value} {k : Key} (h : keyIs k e.2 = true) : keyE e = k := by
  obtain ⟨a, v⟩ := e
  rcases keyIs_shape h with ⟨i, t, rfl, e⟩ | ⟨x, t, rfl, e⟩
  · have e : v = .int i t := e
    subst e; rfl
  · have e : v = .str x t := e
    subst e; rfl
theorem scan_of {v : Value} {k : Key} (h : keyIs k v = true) : v.scannable = true := by
  rcases keyIs_shape h with ⟨i, t, rfl, rfl⟩ | ⟨x, t, rfl, rfl⟩ <;> rfl

/-- the set at a, as it stands: its members, their number; it can be walked -/
structure SetM (P : Program) (w : World) (h : Heap) (a : Addr) (S : List Key) (o : Obj) (es : Array (Int × Value)) (ep : Nat) (t : SetTable) : Prop where
  at_ : h.get? a = some o
  ex : o.ExactSet
  da : o.data = .set es ep t
  good : ∀ e ∈ es.toList, GoodM P w e
  pm : (es.toList.map keyE).Perm S
  nd : S.Nodup
  lt : es.size < scanBound
  fit : t.fits es.size = true
  ris : Ris t.place.toList
  led : w.params.followText "set-order" = true ∨ t.led = true

section
variable {P : Program} {w : World} {A : Around} {E : Value → Shared → Prop} {s : Shared} {a : Addr} {S : List Key} {o : Obj} {es : Array (Int × Value)} {ep : Nat} {t : SetTable}
theorem elems_of {l : List (Int × Value)} (g : ∀ e ∈ l, GoodM P w e) : ElemsOf (mixKind P w) l := fun e he => by
  obtain ⟨k, h1, h2⟩ := g e he
  exact ⟨⟨k, h1, h2⟩, scan_of h1⟩
theorem SetM.keep {h h' : Heap} (R : SetM P w h a S o es ep t) (k : ∀ o, h.get? a = some o → h'.get? a = some o) : SetM P w h' a S o es ep t := { R with at_ := k o R.at_ }
/-- a member that is not there yet is laid, and the table may grow -/
theorem setM_tail {g : Bool → Sem Unit} (hg : ∀ (b : Bool) (s1 : Shared) (Q' : Unit → Shared → Prop), Q' () s1 → wpAny (model P w) A (g b) Q' E s1)
    (ho : s.heap.get? a = some o) (hex : o.ExactSet) (hd : o.data = .set es ep t)
    {es1 : Array (Int × Value)} {t2 : SetTable} {S' : List Key} (g1 : ∀ e ∈ es1.toList, GoodM P w e) (p1 : (es1.toList.map keyE).Perm S') (nd1 : S'.Nodup)
    (hb1 : es1.size < scanBound) (hf2 : t2.fits es1.size = true) (hr : Ris t2.place.toList) (hl : w.params.followText "set-order" = true ∨ t2.led = true) {was : Bool} {R : Option Bool → Shared → Prop}
    (hR : ∀ h' o' es' ep' t', Heap.SameBut a s.heap h' → SetM P w h' a S' o' es' ep' t' → R (some true) { s with heap := h' }) :
    wpAny (model P w) A (do
        storeSet a es1 t2
        if (!was && t2.tooFull) = true then do
            g (relayAll t2 es1 (SetTable.grown es1.size)).2.2
            storeSet a (relayAll t2 es1 (SetTable.grown es1.size)).1 (relayAll t2 es1 (SetTable.grown es1.size)).2.1
            pure (some true)
          else pure (some true)) R E s := by
  have ho1 := store_at (es' := es1) (t' := t2) ho hd
  have sb1 := Heap.SameBut.update s.heap a (Obj.putSet es1 t2)
  refine wpAny_bind (wpAny_storeSet_of ho hd ?_ (fits_of_scanBound hb1))
  split
  · have pm := relayAll_perm t2 es1 (SetTable.grown es1.size)
    have q1 := relayAll_fits t2 es1 (SetTable.grown es1.size)
    have q2 := relayAll_ris t2 es1 (SetTable.grown es1.size)
    have q3 := relayAll_led t2 es1 (SetTable.grown es1.size)
    generalize relayAll t2 es1 (SetTable.grown es1.size) = Z at pm q1 q2 q3 ⊢
    obtain ⟨es2, t3, gave⟩ := Z
    dsimp only at pm q1 q2 q3 ⊢
    have hsz : es2.size = es1.size := by simpa using pm.length_eq
    have hb2 : es2.size < scanBound := hsz ▸ hb1
    refine wpAny_bind (hg _ _ _ (wpAny_bind (wpAny_storeSet_of ho1 rfl ?_ (fits_of_scanBound hb2))))
    refine wpAny_pure (hR _ _ es2 _ t3 (sb1.trans (Heap.SameBut.update _ a _)) ⟨store_at (es' := es2) (t' := t3) ho1 rfl, hex, rfl, fun e he => g1 e (pm.mem_iff.mp he), (pm.map keyE).trans p1, nd1, hb2, q1, q2, hl.imp id fun z => q3.trans z⟩)
  · exact wpAny_pure (hR _ _ es1 _ t2 sb1 ⟨ho1, hex, rfl, g1, p1, nd1, hb1, hf2, hr, hl⟩)
/-- the members with one more -/
def hasK (S : List Key) (k : Key) : Bool := S.any fun x => decide (x = k)
theorem hasK_iff {S : List Key} {k : Key} : hasK S k = true ↔ k ∈ S := by
  unfold hasK
  rw [List.any_eq_true]
  constructor
  · rintro ⟨x, hx, e⟩; rw [← of_decide_eq_true e]; exact hx
  · intro h; exact ⟨k, h, decide_eq_true rfl⟩
def addK (S : List Key) (k : Key) : List Key := if hasK S k = true then S else k :: S
theorem setM_add {k : Key} {v : Value} {Q : Bool → Shared → Prop} (R : SetM P w s.heap a S o es ep t) (hk : keyIs k v = true) (room : S.length + 1 < scanBound)
    (hQ : ∀ b h' o' es' ep' t', Heap.SameBut a s.heap h' → SetM P w h' a (addK S k) o' es' ep' t' → Q b { s with heap := h' }) :
    wpAny (model P w) A (setAddHashed a v ((mixKind P w).hash k)) Q E s := by
  have hsc := scan_of hk
  have hel : ElemsOf (mixKind P w) es.toList := elems_of R.good
  have hkey : (mixKind P w).is k v = true := hk
  unfold setAddHashed setAddHashedIn
  refine wpAny_holding (wpAny_bind (wpAny_setState_of R.at_ R.da R.fit ?_))
  dsimp only
  rw [byScan_of hsc R.lt hel]
  simp only [↓reduceIte]
  unfold setAddByScan
  refine wpAny_bind ?_
  refine wpAny_bind (wpAny_rule (wpAny_bind (wpAny_setScan_of hkey R.at_ R.da R.fit hel ?_)))
  have hmem : (∃ e ∈ es.toList, keyIs k e.2 = true) ↔ k ∈ S := by
    rw [← R.pm.mem_iff, List.mem_map]
    constructor
    · rintro ⟨e, he, q⟩; exact ⟨e, he, keyE_of q⟩
    · rintro ⟨e, he, rfl⟩
      obtain ⟨k', h1, _⟩ := R.good e he
      refine ⟨e, he, ?_⟩
      rw [keyE_of h1]; exact h1
  cases hfi : List.findIdx? (fun e => (mixKind P w).is k e.2) es.toList with
  | some j =>
    dsimp only
    obtain ⟨hj, pj, _⟩ := List.findIdx?_eq_some_iff_getElem.mp hfi
    have hS : k ∈ S := hmem.mp ⟨_, List.getElem_mem hj, pj⟩
    refine wpAny_pure (wpAny_pure (hQ _ s.heap o es ep t (Heap.SameBut.refl a s.heap) ?_))
    unfold addK
    rw [if_pos (hasK_iff.mpr hS)]
    exact R
  | none =>
    dsimp only
    have hS : k ∉ S := fun z => by
      obtain ⟨e, he, q⟩ := hmem.mpr z
      have := List.findIdx?_eq_none_iff.mp hfi e he
      rw [show (mixKind P w).is k e.2 = true from q] at this
      cases this
    have hgw : ∀ (b : Bool) {s1 : Shared} {Q' : Unit → Shared → Prop}, Q' () s1 → wpAny (model P w) A (match b with | true => rule "set.scan.the-table-gave-way" | false => pure ()) Q' E s1 :=
      fun b s1 Q' q => by cases b <;> first | exact wpAny_pure q | exact wpAny_rule q
    have pm := layNew_perm t es ((mixKind P w).hash k) v
    have q1 := layNew_fits t es ((mixKind P w).hash k) v
    have q2 := layNew_ris t es ((mixKind P w).hash k) v R.ris
    have q3 := layNew_led t es ((mixKind P w).hash k) v
    generalize layNew t es ((mixKind P w).hash k) v = Z at pm q1 q2 q3 ⊢
    obtain ⟨es1, t1, was, gave⟩ := Z
    dsimp only at pm q1 q2 q3 ⊢
    rw [Array.toList_push] at pm
    have pc : es1.toList.Perm (((mixKind P w).hash k, v) :: es.toList) := pm.trans (List.perm_append_singleton _ _)
    have e0 : keyE ((mixKind P w).hash k, v) = k := keyE_of hk
    have pk : (es1.toList.map keyE).Perm (k :: S) := (pc.map keyE).trans (by rw [List.map_cons, e0]; exact R.pm.cons k)
    have g1 : ∀ e ∈ es1.toList, GoodM P w e := fun e he => by
      rcases List.mem_cons.mp (pc.mem_iff.mp he) with rfl | z
      · exact ⟨k, hk, rfl⟩
      · exact R.good e z
    have hsz : es1.size = S.length + 1 := by simpa using pk.length_eq
    have hb1 : es1.size < scanBound := by rw [hsz]; exact room
    have nd1 : (k :: S).Nodup := List.nodup_cons.mpr ⟨hS, R.nd⟩
    have hled : w.params.followText "set-order" = true ∨ t1.led = true := R.led.imp id fun z => q3.trans z
    have fin : ∀ h' o' es' ep' t', Heap.SameBut a s.heap h' → SetM P w h' a (k :: S) o' es' ep' t' → Q true { s with heap := h' } := fun h' o' es' ep' t' sb r => hQ _ h' o' es' ep' t' sb (by unfold addK; rw [if_neg (fun z => hS (hasK_iff.mp z))]; exact r)
    refine wpAny_bind (hgw _ ?_)
    split
    · refine wpAny_bind ?_
      rw [hashByValue_scannable 8 hsc]
      refine wpAny_pure (setM_tail ?_ R.at_ R.ex R.da g1 pk nd1 hb1 ?_ ?_ ?_ ?_)
      · intro b s1 Q' q; cases b <;> first | exact wpAny_pure q | exact wpAny_rule q
      · first | (split <;> first | exact q1 | exact SetTable.fits_plain_off q1) | exact q1
      · first | (split <;> exact q2) | exact q2
      · first | (split <;> exact hled) | exact hled
      · intro h' o' es' ep' t' sb r; dsimp only; exact wpAny_pure (fin h' o' es' ep' t' sb r)
    · refine wpAny_bind (wpAny_pure ?_)
      simp only [↓reduceIte]
      refine setM_tail ?_ R.at_ R.ex R.da g1 pk nd1 hb1 q1 q2 hled ?_
      · intro b s1 Q' q; cases b <;> first | exact wpAny_pure q | exact wpAny_rule q
      · intro h' o' es' ep' t' sb r; dsimp only; exact wpAny_pure (fin h' o' es' ep' t' sb r)
end
end Sv
end
section
set_option linter.all false
set_option maxRecDepth 100000
set_option maxHeartbeats 4000000
/-! SvSet2: set(xs), sorted(set(xs)), len(set(xs)). -/
namespace Sv
open PySem PySem.Spec PyProof.Rows L2
def foldK (ks : List Key) : List Key := ks.foldl addK []
theorem addK_len (S : List Key) (k : Key) : (addK S k).length ≤ S.length + 1 := by
  unfold addK
  split <;> simp
theorem foldK_lenA : ∀ (ks S : List Key), (ks.foldl addK S).length ≤ S.length + ks.length
  | [], S => by simp
  | k :: ks, S => by
    have h1 := foldK_lenA ks (addK S k)
    have h2 := addK_len S k
    simp only [List.foldl_cons, List.length_cons]
    omega
theorem foldK_len (ks : List Key) : (foldK ks).length ≤ ks.length := by
  have := foldK_lenA ks []
  simpa [foldK] using this
theorem addK_mem {S : List Key} {k j : Key} : j ∈ addK S k ↔ j ∈ S ∨ j = k := by
  unfold addK
  split
  · rename_i h
    have := hasK_iff.mp h
    constructor
    · exact .inl
    · rintro (h | rfl)
      · exact h
      · exact this
  · rw [List.mem_cons]; exact Or.comm
theorem foldK_memA {j : Key} : ∀ {ks S : List Key}, j ∈ ks.foldl addK S ↔ j ∈ S ∨ j ∈ ks
  | [], S => by simp
  | k :: ks, S => by
    rw [List.foldl_cons, foldK_memA, addK_mem, List.mem_cons, or_assoc]
theorem foldK_mem {ks : List Key} {j : Key} : j ∈ foldK ks ↔ j ∈ ks := by
  unfold foldK
  rw [foldK_memA]
  simp
theorem addK_nd {S : List Key} {k : Key} (h : S.Nodup) : (addK S k).Nodup := by
  unfold addK
  split
  · exact h
  · rename_i hh
    exact List.nodup_cons.mpr ⟨fun z => hh (hasK_iff.mpr z), h⟩
def setOb (w : World) : Obj := { cls := .type "set", dict := none, data := .set #[] 0 (.fresh 0 0 (!w.params.followText "set-order")) }
section
variable {P : Program} {w : World} {A : Around} {E : Value → Shared → Prop} {s : Shared}
/-- the set at a has these members -/
def SetK' (P : Program) (w : World) (h : Heap) (a : Addr) (S : List Key) : Prop := ∃ o es ep t, SetM P w h a S o es ep t
theorem SetK'.keep {h h' : Heap} {a : Addr} {S : List Key} (R : SetK' P w h a S) (k : ∀ o, h.get? a = some o → h'.get? a = some o) : SetK' P w h' a S := by
  obtain ⟨o, es, ep, t, r⟩ := R
  exact ⟨o, es, ep, t, r.keep k⟩
theorem setM_loop {I : Addr} {fp wr : List Addr} {G : Array GenState → Array GenState → Prop} {n : Nat} {Pv : Nat → Value → Prop} {St : Nat → Shared → Prop} {R : Result → Shared → Prop}
    (W : WalksS P w A.in1 I fp wr G n Pv St) (S : Addr) (hSf : S ∉ fp) (ks : List Key) (hn : n = ks.length) (hb : ks.length + 1 < scanBound) (hval : ∀ i v, Pv i v → ∃ k, ks[i]? = some k ∧ keyIs k v = true) :
    ∀ (k i : Nat) (s : Shared), n - i = k → i ≤ n → St i s → SetK' P w s.heap S (foldK (ks.take i)) →
      (∀ s', Moved (S :: wr) G s s' → SetK' P w s'.heap S (foldK ks) → R (.ok (.ret .none)) s') →
      codeAny (model P w) A (.builtin "set.update.loop" ⟨[.ref S, .ref I], []⟩) R s := by
  have hSw : S ∉ wr := fun h => hSf (W.sub _ h)
  have up : ∀ b ∈ wr, b ∈ S :: wr := fun b hb => List.mem_cons_of_mem _ hb
  intro k
  induction k with
  | zero =>
    intro i s hk hi hst hS hR
    have hin : i = n := by omega
    subst hin
    refine codeAny_builtin PyProof.Rows.F.entry_set_update_loop ?_
    rw [Around.under_plainId PyProof.Rows.F.plain_set_update_loop _]
    show wpAny _ A.in1 (pyNext (.ref I) >>= _) _ _ s
    refine wpAny_bind (W.done s _ _ hst fun s' hm => ?_)
    show wpAny _ A.in1 (ret Value.none) _ _ s'
    rw [show ks.take i = ks from List.take_of_length_le (by omega)] at hS
    exact wpAny_pure (hR s' (hm.mono up) (hS.keep fun o e => hm.heap S o hSw e))
  | succ k ih =>
    intro i s hk hi hst hS hR
    have hlt : i < n := by omega
    refine codeAny_builtin PyProof.Rows.F.entry_set_update_loop ?_
    rw [Around.under_plainId PyProof.Rows.F.plain_set_update_loop _]
    show wpAny _ A.in1 (pyNext (.ref I) >>= _) _ _ s
    refine wpAny_bind (W.item i s _ _ hlt hst fun v s' hP hst' hm => ?_)
    obtain ⟨z, hz, hv⟩ := hval i v hP
    obtain ⟨o, es, ep, t, hS'⟩ := hS.keep fun o e => hm.heap S o hSw e
    show wpAny _ A.in1 (holding [v] (setAdd S v) >>= _) _ _ s'
    refine wpAny_bind (wpAny_holding ?_)
    unfold setAdd
    refine wpAny_holding (wpAny_bind ((mixKind P w).pyHash (k := z) hv ?_))
    have hroom : (foldK (ks.take i)).length + 1 < scanBound := by
      have := foldK_len (ks.take i)
      rw [List.length_take] at this
      omega
    refine setM_add (s := { s' with toks := s'.toks + 1 }) hS' hv hroom fun b h' o' es' ep' t' sb hS2 => ?_
    have e : addK (foldK (ks.take i)) z = foldK (ks.take (i + 1)) := by
      rw [List.take_add_one, hz]
      unfold foldK
      rw [List.foldl_append]
      rfl
    rw [e] at hS2
    refine wpAny_pure ⟨plainId_quiet PyProof.Rows.F.plain_set_update_loop _, ih (i + 1) _ (by omega) hlt (W.frame _ s' _ _ hst' (Nat.le_succ _) fun b hb o e => ?_) ⟨o', es', ep', t', hS2⟩ fun s2 hm2 hS3 => ?_⟩
    · rw [sb.2 b (fun h : b = S => hSf (by rw [← h]; exact hb))]; exact e
    · refine hR s2 (Moved.trans W.gtrans ((hm.mono up).then_heap (Nat.le_succ _) fun b o hb e => ?_) hm2) hS3
      rw [sb.2 b (fun h : b = S => hb (by rw [h]; exact List.mem_cons_self))]; exact e
theorem call_set_tupK {l : Addr} {items : Array Value} (ks : List Key) {Q : Value → Shared → Prop} (hh : A.handled = none) (hl : s.heap.IsTuple l items) (hsz : items.size = ks.length) (hit : ∀ (i : Nat) v, items[i]? = some v → ∃ k, ks[i]? = some k ∧ keyIs k v = true) (hb : ks.length + 1 < scanBound)
    (h : ∀ (h' : Heap) (tk : Nat), SetK' P w h' s.heap.objs.size (foldK ks) → (∀ b o, s.heap.get? b = some o → h'.get? b = some o) → Q (.ref s.heap.objs.size) { s with heap := h', toks := tk }) :
    wpAny (model P w) A (call (.type "set") [.ref l]) Q E s := by
  obtain ⟨c, tl, hmro⟩ := PySem.F.called_set.mro
  have hmade := PySem.F.called_set.made
  have hsub := PySem.F.called_set.sub
  refine wpAny_call (codeAny_of_tree ?_)
  show wpAny _ _ (callAny (.type "set") _) _ _ _
  refine wpAny_pure ⟨Code.quiet_builtin _ (by decide +kernel), codeAny_builtin PySem.F.entry_type_call ?_⟩
  rw [Around.under_plain (weight_type_call_type "set" [.ref l] []) rfl]
  have h1 := PySem.F.called_set.notType
  have h2 := PySem.F.called_set.canCreate
  have hct := PySem.F.typeCall_set_1 (.ref l)
  repeat (any_goals (first | assumption | wp_step))
  refine codeAny_mono (code_set_led1 (.ref l) (E := E) (Q₁ := fun obj s₁ => obj = .ref s.heap.objs.size ∧ s₁ = { s with heap := s.heap.push (setOb w) }) ⟨rfl, rfl⟩) fun r s₁ hr => ?_
  cases r with
  | error e => exact hr
  | ok fl =>
    cases fl with
    | ret obj =>
      obtain ⟨rfl, rfl⟩ := hr
      have hS : (s.heap.push (setOb w)).get? s.heap.objs.size = some (setOb w) := Heap.get?_push_size _ rfl
      have hT : Shared.TypeIs { s with heap := s.heap.push (setOb w) } (.ref s.heap.objs.size) "set" := ⟨_, hS, rfl⟩
      have hli := PySem.F.called_set.init.lookup
      have hbi := PySem.F.called_set.init.bind (.ref s.heap.objs.size)
      repeat (any_goals (first | assumption | wp_step))
      refine codeAny_mono (codeAny_call_builtin (R := wants (fun r s₂ => r = .none ∧ ∃ h' tk, s₂ = { s with heap := h', toks := tk } ∧ SetK' P w h' s.heap.objs.size (foldK ks) ∧
          (∀ b o, s.heap.get? b = some o → h'.get? b = some o)) E) PySem.F.called_set.init.plain PySem.F.entry_set_init (check_set_init_1 hT ?_)) fun r₂ s₂ hr₂ => ?_
      · obtain ⟨ol, hol, hcl, nl, hdl⟩ := hl
        obtain ⟨ocls, odict, odata, oslots⟩ := ol
        simp only at hcl hdl
        subst hcl; subst hdl
        have hol' : (s.heap.push (setOb w)).get? l = some { cls := .type "tuple", dict := odict, data := .seq items nl, slots := oslots } := Heap.get?_push_of_some _ hol
        have hsls := PySem.F.sub_tuple_set
        have hslf := PySem.F.sub_tuple_frozenset
        have hne : (Value.type "tuple" == Value.type "dict") = false := by decide
        have hl1 : (s.heap.push (setOb w)).IsTuple l items := ⟨_, hol', rfl, nl, rfl⟩
        unfold Builtin.«set.__init__» noKeywords Builtin.Frozenset.updateFrom
        generalize hPI : pyIter = PI
        wp_walk
        subst hPI
        refine wpAny_pyIter_tuple hl1 ?_
        refine wpAny_bind (wpAny_runValue ?_)
        have hlS : l < s.heap.objs.size := Heap.lt_size hol
        have hh3 : A.in1.in1.in1.handled = none := by simp [hh]
        have hz1 : (s.heap.push (setOb w)).objs.size = s.heap.objs.size + 1 := Heap.size_push ..
        have hneI : l ≠ (s.heap.push (setOb w)).objs.size := by rw [hz1]; exact Nat.ne_of_lt (Nat.lt_succ_of_lt hlS)
        have hSf : s.heap.objs.size ∉ [(s.heap.push (setOb w)).objs.size, l] := by
          rw [hz1]; simp only [List.mem_cons, List.not_mem_nil, or_false, not_or]
          exact ⟨Nat.ne_of_lt (Nat.lt_succ_self _), Nat.ne_of_gt hlS⟩
        refine setM_loop ((Walks.tuple hh3 _ l hneI items).toS) s.heap.objs.size
          hSf ks hsz hb hit (items.size - 0) 0 _ (by omega) (Nat.zero_le _)
          ⟨⟨_, Heap.get?_push_size _ rfl, rfl, rfl⟩, (hl1.push _)⟩ ?hS0 ?hR
        case hS0 =>
          refine ⟨setOb w, #[], 0, .fresh 0 0 (!w.params.followText "set-order"), Heap.get?_push_of_some _ hS, ⟨rfl, rfl, rfl⟩, rfl, by simp, by simp [foldK], by simp [foldK], by decide, by rfl, List.Pairwise.nil, ?_⟩
          show _ ∨ (!w.params.followText "set-order") = true
          cases w.params.followText "set-order"
          · exact .inr rfl
          · exact .inl rfl
        case hR =>
          intro s' hm hS'
          obtain ⟨h', g2, d', tk', os'⟩ := s'
          have eg : g2 = s.gens := hm.gens
          have ed : d' = s.drawn := hm.drawn
          have eo : os' = s.os := hm.os
          subst eg; subst ed; subst eo
          show wpAny _ _ _ _ _ _
          refine wpAny_pure ?_
          show wpAny _ _ (ret Value.none) _ _ _
          refine wpAny_pure ⟨rfl, h', tk', rfl, hS', fun b o e => ?_⟩
          have hb0 : b < s.heap.objs.size := Heap.lt_size e
          exact hm.heap b o (by simp only [List.mem_cons, List.not_mem_nil, or_false, not_or]; exact ⟨Nat.ne_of_lt hb0, by rw [hz1]; exact Nat.ne_of_lt (Nat.lt_succ_of_lt hb0)⟩) (Heap.get?_push_of_some _ (Heap.get?_push_of_some _ e))
      · cases r₂ with
        | error e => exact hr₂
        | ok fl₂ =>
          cases fl₂ with
          | ret r =>
            obtain ⟨rfl, h', tk, rfl, hS', hk'⟩ := hr₂
            repeat (any_goals (first | assumption | wp_step))
            exact h _ _ hS' hk'
          | _ => exact hr₂.elim
    | _ => exact hr.elim
theorem call_set_lstK {l : Addr} {items : Array Value} (ks : List Key) {Q : Value → Shared → Prop} (hh : A.handled = none) (hl : s.heap.IsList l items) (hsz : items.size = ks.length) (hit : ∀ (i : Nat) v, items[i]? = some v → ∃ k, ks[i]? = some k ∧ keyIs k v = true) (hb : ks.length + 1 < scanBound)
    (h : ∀ (h' : Heap) (tk : Nat), SetK' P w h' s.heap.objs.size (foldK ks) → (∀ b o, s.heap.get? b = some o → h'.get? b = some o) → Q (.ref s.heap.objs.size) { s with heap := h', toks := tk }) :
    wpAny (model P w) A (call (.type "set") [.ref l]) Q E s := by
  obtain ⟨c, tl, hmro⟩ := PySem.F.called_set.mro
  have hmade := PySem.F.called_set.made
  have hsub := PySem.F.called_set.sub
  refine wpAny_call (codeAny_of_tree ?_)
  show wpAny _ _ (callAny (.type "set") _) _ _ _
  refine wpAny_pure ⟨Code.quiet_builtin _ (by decide +kernel), codeAny_builtin PySem.F.entry_type_call ?_⟩
  rw [Around.under_plain (weight_type_call_type "set" [.ref l] []) rfl]
  have h1 := PySem.F.called_set.notType
  have h2 := PySem.F.called_set.canCreate
  have hct := PySem.F.typeCall_set_1 (.ref l)
  repeat (any_goals (first | assumption | wp_step))
  refine codeAny_mono (code_set_led1 (.ref l) (E := E) (Q₁ := fun obj s₁ => obj = .ref s.heap.objs.size ∧ s₁ = { s with heap := s.heap.push (setOb w) }) ⟨rfl, rfl⟩) fun r s₁ hr => ?_
  cases r with
  | error e => exact hr
  | ok fl =>
    cases fl with
    | ret obj =>
      obtain ⟨rfl, rfl⟩ := hr
      have hS : (s.heap.push (setOb w)).get? s.heap.objs.size = some (setOb w) := Heap.get?_push_size _ rfl
      have hT : Shared.TypeIs { s with heap := s.heap.push (setOb w) } (.ref s.heap.objs.size) "set" := ⟨_, hS, rfl⟩
      have hli := PySem.F.called_set.init.lookup
      have hbi := PySem.F.called_set.init.bind (.ref s.heap.objs.size)
      repeat (any_goals (first | assumption | wp_step))
      refine codeAny_mono (codeAny_call_builtin (R := wants (fun r s₂ => r = .none ∧ ∃ h' tk, s₂ = { s with heap := h', toks := tk } ∧ SetK' P w h' s.heap.objs.size (foldK ks) ∧
          (∀ b o, s.heap.get? b = some o → h'.get? b = some o)) E) PySem.F.called_set.init.plain PySem.F.entry_set_init (check_set_init_1 hT ?_)) fun r₂ s₂ hr₂ => ?_
      · obtain ⟨ol, hol, hcl, nl, hdl⟩ := hl
        obtain ⟨ocls, odict, odata, oslots⟩ := ol
        simp only at hcl hdl
        subst hcl; subst hdl
        have hol' : (s.heap.push (setOb w)).get? l = some { cls := .type "list", dict := odict, data := .seq items nl, slots := oslots } := Heap.get?_push_of_some _ hol
        have hsls := PySem.F.sub_list_set
        have hslf := PySem.F.sub_list_frozenset
        have hne : (Value.type "list" == Value.type "dict") = false := by decide
        have hl1 : (s.heap.push (setOb w)).IsList l items := ⟨_, hol', rfl, nl, rfl⟩
        unfold Builtin.«set.__init__» noKeywords Builtin.Frozenset.updateFrom
        generalize hPI : pyIter = PI
        wp_walk
        subst hPI
        refine wpAny_pyIter_list hl1 ?_
        refine wpAny_bind (wpAny_runValue ?_)
        have hlS : l < s.heap.objs.size := Heap.lt_size hol
        have hh3 : A.in1.in1.in1.handled = none := by simp [hh]
        have hz1 : (s.heap.push (setOb w)).objs.size = s.heap.objs.size + 1 := Heap.size_push ..
        have hneI : l ≠ (s.heap.push (setOb w)).objs.size := by rw [hz1]; exact Nat.ne_of_lt (Nat.lt_succ_of_lt hlS)
        have hSf : s.heap.objs.size ∉ [(s.heap.push (setOb w)).objs.size, l] := by
          rw [hz1]; simp only [List.mem_cons, List.not_mem_nil, or_false, not_or]
          exact ⟨Nat.ne_of_lt (Nat.lt_succ_self _), Nat.ne_of_gt hlS⟩
        refine setM_loop ((Walks.list hh3 _ l hneI items).toS) s.heap.objs.size
          hSf ks hsz hb hit (items.size - 0) 0 _ (by omega) (Nat.zero_le _)
          ⟨⟨_, Heap.get?_push_size _ rfl, rfl, rfl⟩, (hl1.push _)⟩ ?hS0 ?hR
        case hS0 =>
          refine ⟨setOb w, #[], 0, .fresh 0 0 (!w.params.followText "set-order"), Heap.get?_push_of_some _ hS, ⟨rfl, rfl, rfl⟩, rfl, by simp, by simp [foldK], by simp [foldK], by decide, by rfl, List.Pairwise.nil, ?_⟩
          show _ ∨ (!w.params.followText "set-order") = true
          cases w.params.followText "set-order"
          · exact .inr rfl
          · exact .inl rfl
        case hR =>
          intro s' hm hS'
          obtain ⟨h', g2, d', tk', os'⟩ := s'
          have eg : g2 = s.gens := hm.gens
          have ed : d' = s.drawn := hm.drawn
          have eo : os' = s.os := hm.os
          subst eg; subst ed; subst eo
          show wpAny _ _ _ _ _ _
          refine wpAny_pure ?_
          show wpAny _ _ (ret Value.none) _ _ _
          refine wpAny_pure ⟨rfl, h', tk', rfl, hS', fun b o e => ?_⟩
          have hb0 : b < s.heap.objs.size := Heap.lt_size e
          exact hm.heap b o (by simp only [List.mem_cons, List.not_mem_nil, or_false, not_or]; exact ⟨Nat.ne_of_lt hb0, by rw [hz1]; exact Nat.ne_of_lt (Nat.lt_succ_of_lt hb0)⟩) (Heap.get?_push_of_some _ (Heap.get?_push_of_some _ e))
      · cases r₂ with
        | error e => exact hr₂
        | ok fl₂ =>
          cases fl₂ with
          | ret r =>
            obtain ⟨rfl, h', tk, rfl, hS', hk'⟩ := hr₂
            repeat (any_goals (first | assumption | wp_step))
            exact h _ _ hS' hk'
          | _ => exact hr₂.elim
    | _ => exact hr.elim
end
end Sv
end
section
set_option linter.all false
set_option maxRecDepth 100000
set_option maxHeartbeats 4000000
/-! SvSet3: sorted(set(xs)), len(set(xs)) as expressions. -/
namespace Sv
open PySem PySem.Spec PyProof.Rows L2
section
variable {P : Program} {w : World} {A : Around} {E : Value → Shared → Prop} {s : Shared} {a : Addr}
theorem sorted_setS {zs : List Str} {Q : Value → Shared → Prop} (R : SetK' P w s.heap a (foldK (zs.map Sum.inr))) (hh : A.handled = none)
    (hQ : ∀ s' p (out : Array Value) (c : Nat) (ys : List Str), (∀ b o, s.heap.get? b = some o → s'.heap.get? b = some o) → s'.gens = s.gens → s'.os = s.os → s.heap.objs.size ≤ p →
      s'.heap.get? p = some (seqObj "list" out c) → StrsAre out.toList ys → ys = sortS (dedupS zs) → Q (.ref p) s') :
    wpAny (model P w) A (call (.builtin "sorted") [.ref a]) Q E s := by
  obtain ⟨o, es, ep, t, r⟩ := R
  refine Calls.call_function_entry kind_sorted plain_sorted entry_sorted (args_sorted1 _) ?_
  unfold Builtin.«sorted»
  refine wpAny_bind (m := checkCount "sorted" 1 1 _) (wpAny_pure ?_)
  refine wpAny_bind (collect_set (A := A.in1) hh ⟨o, r.at_, r.ex.1, r.da⟩ r.fit r.lt r.ris r.led fun s1 vs k1 hz g1 o1 pm => ?_)
  have hmem : ∀ v ∈ vs, ∃ x t, v = Value.str x t ∧ x ∈ zs := fun v hv => by
    obtain ⟨e, he, q⟩ := List.mem_map.mp (pm.mem_iff.mp hv)
    obtain ⟨k, h1, _⟩ := r.good e he
    have hk : k ∈ zs.map Sum.inr := foldK_mem.mp (r.pm.mem_iff.mp (List.mem_map.mpr ⟨e, he, keyE_of h1⟩))
    obtain ⟨x, hx, rfl⟩ := List.mem_map.mp hk
    rcases keyIs_shape h1 with ⟨i, t, z, _⟩ | ⟨y, t, z, e2⟩
    · cases z
    · cases z
      exact ⟨x, t, by rw [← q]; exact e2, hx⟩
  have hS : StrsAre vs (vs.map PyProof.Rows.strOf) := strsAre_map vs fun v hv => by
    obtain ⟨x, t, e, _⟩ := hmem v hv
    exact ⟨x, t, e⟩
  have hkey : ∀ e ∈ es.toList, keyE e = Sum.inr (PyProof.Rows.strOf e.2) := fun e he => by
    obtain ⟨x, t, e2, _⟩ := hmem e.2 (pm.mem_iff.mpr (List.mem_map.mpr ⟨e, he, rfl⟩))
    unfold keyE
    rw [e2]
    rfl
  have e3 : es.toList.map keyE = (es.toList.map fun e => PyProof.Rows.strOf e.2).map Sum.inr := by
    rw [List.map_map]
    exact List.map_congr_left hkey
  have pS : ((vs.map PyProof.Rows.strOf).map (Sum.inr : Str → Key)).Perm (foldK (zs.map Sum.inr)) := by
    refine List.Perm.trans ?_ r.pm
    rw [e3]
    refine List.Perm.map _ ?_
    have := pm.map PyProof.Rows.strOf
    rw [List.map_map] at this
    exact this
  have hlen : vs.length < scanBound := by
    have h1 := pm.length_eq
    have h2 := r.lt
    simp only [List.length_map, Array.length_toList] at h1
    omega
  have hL : vs.length ≤ sizeLine := by
    rw [sizeLine_eq]
    have : scanBound = 4096 := rfl
    omega
  refine wpAny_bind (wpAny_newList ?_ hL)
  have hoL : (s1.heap.push (seqObj "list" vs.toArray 0)).get? s1.heap.objs.size = some (seqObj "list" vs.toArray 0) := Heap.get?_push_size _ rfl
  refine wpAny_bind (wpAny_holding (wpAny_call_entry slot_list_sort ⟨_, hoL, rfl⟩ entry_list_sort (list_sort_treeKAny strKind_oneLt hoL hS.keysOf (fun v1 v2 rest e => keyKind_strs (by rw [← e]; exact hS)) hL fun st' hp hs => ⟨_, rfl, ?_⟩) (args_list_sort _)))
  obtain ⟨ys, h1, h2, h3⟩ := sorted_out_str hS hp hs
  obtain ⟨c, hc⟩ := sortedHeap_at (vs := vs) (out := (arrOf st').map (·.2)) hoL
  refine wpAny_pure ⟨_, rfl, hQ _ s1.heap.objs.size _ c ys (fun b u e => ?_) g1 o1 hz hc h1 ?_⟩
  · have q := k1 b u e
    have hlt := Heap.lt_size q
    show (sortedHeap (s1.heap.push (seqObj "list" vs.toArray 0)) s1.heap.objs.size vs _).get? b = some u
    rw [sortedHeap_old (Nat.ne_of_lt hlt) (by rw [size_push']; exact Nat.lt_succ_of_lt hlt)]
    exact Heap.get?_push_of_some _ q
  · refine sortSet_of ?_ (sortedS_pw ys h3) fun x => ?_
    · have nd : ((vs.map PyProof.Rows.strOf).map (Sum.inr : Str → Key)).Nodup := pS.nodup_iff.mpr r.nd
      have nd2 : (vs.map PyProof.Rows.strOf).Nodup := by
        rw [List.Nodup, List.pairwise_map] at nd
        exact nd.imp fun h z => h (by rw [z])
      exact h2.nodup_iff.mpr nd2
    · rw [h2.mem_iff]
      constructor
      · intro hx
        obtain ⟨v, hv, rfl⟩ := List.mem_map.mp hx
        obtain ⟨x, t, e, hx⟩ := hmem v hv
        rw [e]; exact hx
      · intro hx
        have : (Sum.inr x : Key) ∈ (vs.map PyProof.Rows.strOf).map (Sum.inr : Str → Key) := pS.mem_iff.mpr (foldK_mem.mpr (List.mem_map.mpr ⟨x, hx, rfl⟩))
        obtain ⟨y, hy, e⟩ := List.mem_map.mp this
        cases e
        exact hy
end

/-! ### ints -/
theorem insI_perm (x : Int) : ∀ l : List Int, (insI x l).Perm (x :: l)
  | [] => .refl _
  | y :: r => by
    unfold insI
    split
    · exact .refl _
    · exact ((insI_perm x r).cons y).trans (.swap x y r)
theorem insI_sorted (x : Int) : ∀ {l : List Int}, l.Pairwise (· ≤ ·) → (insI x l).Pairwise (· ≤ ·)
  | [], _ => by unfold insI; simp
  | y :: r, h => by
    unfold insI
    obtain ⟨h1, h2⟩ := List.pairwise_cons.mp h
    split
    · rename_i hl
      have hl := of_decide_eq_true hl
      refine List.pairwise_cons.mpr ⟨fun b hb => ?_, h⟩
      rcases List.mem_cons.mp hb with rfl | hb
      · omega
      · have := h1 b hb; omega
    · rename_i hl
      have hl : ¬ x < y := fun z => hl (decide_eq_true z)
      refine List.pairwise_cons.mpr ⟨fun b hb => ?_, insI_sorted x h2⟩
      rcases List.mem_cons.mp ((insI_perm x r).mem_iff.mp hb) with rfl | hb
      · omega
      · exact h1 b hb
theorem foldInsI (xs acc : List Int) (h : acc.Pairwise (· ≤ ·)) : (xs.foldl (fun acc x => insI x acc) acc).Perm (xs ++ acc) ∧ (xs.foldl (fun acc x => insI x acc) acc).Pairwise (· ≤ ·) := by
  induction xs generalizing acc with
  | nil => exact ⟨.refl _, h⟩
  | cons x r ih =>
    obtain ⟨p, s⟩ := ih (insI x acc) (insI_sorted x h)
    exact ⟨p.trans (((insI_perm x acc).append_left r).trans List.perm_middle), s⟩
theorem sortI_perm (xs : List Int) : (sortI xs).Perm xs := by
  have := (foldInsI xs [] .nil).1
  rw [List.append_nil] at this
  exact this
theorem sortI_sorted (xs : List Int) : (sortI xs).Pairwise (· ≤ ·) := (foldInsI xs [] .nil).2
theorem sortedI_one {l l' : List Int} (p : l.Perm l') (h : l.Pairwise (· ≤ ·)) (h' : l'.Pairwise (· ≤ ·)) : l = l' := p.eq_of_pairwise (fun a b _ _ h1 h2 => by omega) h h'
theorem dedupI_mem : ∀ {xs : List Int} {x : Int}, x ∈ dedupI xs ↔ x ∈ xs
  | [], x => Iff.rfl
  | y :: r, x => by
    unfold dedupI
    split
    · rename_i h
      rw [dedupI_mem, List.mem_cons]
      constructor
      · exact fun h => .inr h
      · rintro (rfl | h')
        · exact List.contains_iff_mem.mp h
        · exact h'
    · rw [List.mem_cons, List.mem_cons, dedupI_mem]
theorem dedupI_nodup : ∀ xs : List Int, (dedupI xs).Nodup
  | [] => .nil
  | y :: r => by
    unfold dedupI
    split
    · exact dedupI_nodup r
    · rename_i h
      exact List.nodup_cons.mpr ⟨fun hm => h (List.contains_iff_mem.mpr (dedupI_mem.mp hm)), dedupI_nodup r⟩
section
variable {P : Program} {w : World} {A : Around} {E : Value → Shared → Prop} {s : Shared} {a : Addr}
theorem sorted_setI {zs : List Int} {Q : Value → Shared → Prop} (R : SetK' P w s.heap a (foldK (zs.map Sum.inl))) (hh : A.handled = none)
    (hQ : ∀ s' p (out : Array Value) (c : Nat) (ys : List Int), (∀ b o, s.heap.get? b = some o → s'.heap.get? b = some o) → s'.gens = s.gens → s'.os = s.os → s.heap.objs.size ≤ p →
      s'.heap.get? p = some (seqObj "list" out c) → IntsAre out.toList ys → ys = sortI (dedupI zs) → Q (.ref p) s') :
    wpAny (model P w) A (call (.builtin "sorted") [.ref a]) Q E s := by
  obtain ⟨o, es, ep, t, r⟩ := R
  refine Calls.call_function_entry kind_sorted plain_sorted entry_sorted (args_sorted1 _) ?_
  unfold Builtin.«sorted»
  refine wpAny_bind (m := checkCount "sorted" 1 1 _) (wpAny_pure ?_)
  refine wpAny_bind (collect_set (A := A.in1) hh ⟨o, r.at_, r.ex.1, r.da⟩ r.fit r.lt r.ris r.led fun s1 vs k1 hz g1 o1 pm => ?_)
  have hmem : ∀ v ∈ vs, ∃ x t, v = Value.int x t ∧ x ∈ zs := fun v hv => by
    obtain ⟨e, he, q⟩ := List.mem_map.mp (pm.mem_iff.mp hv)
    obtain ⟨k, h1, _⟩ := r.good e he
    have hk : k ∈ zs.map Sum.inl := foldK_mem.mp (r.pm.mem_iff.mp (List.mem_map.mpr ⟨e, he, keyE_of h1⟩))
    obtain ⟨x, hx, rfl⟩ := List.mem_map.mp hk
    rcases keyIs_shape h1 with ⟨i, t, z, e2⟩ | ⟨y, t, z, e2⟩
    · cases z
      exact ⟨x, t, by rw [← q]; exact e2, hx⟩
    · cases z
  have hI : IntsAre vs (vs.map Builtin.Re.reRawOf) := ints_of vs fun v hv => by
    obtain ⟨x, t, e, _⟩ := hmem v hv
    exact ⟨x, t, e⟩
  have hkey : ∀ e ∈ es.toList, keyE e = Sum.inl (Builtin.Re.reRawOf e.2) := fun e he => by
    obtain ⟨x, t, e2, _⟩ := hmem e.2 (pm.mem_iff.mpr (List.mem_map.mpr ⟨e, he, rfl⟩))
    unfold keyE
    rw [e2]
    rfl
  have e3 : es.toList.map keyE = (es.toList.map fun e => Builtin.Re.reRawOf e.2).map Sum.inl := by
    rw [List.map_map]
    exact List.map_congr_left hkey
  have pS : ((vs.map Builtin.Re.reRawOf).map (Sum.inl : Int → Key)).Perm (foldK (zs.map Sum.inl)) := by
    refine List.Perm.trans ?_ r.pm
    rw [e3]
    refine List.Perm.map _ ?_
    have := pm.map Builtin.Re.reRawOf
    rw [List.map_map] at this
    exact this
  have hlen : vs.length < scanBound := by
    have h1 := pm.length_eq
    have h2 := r.lt
    simp only [List.length_map, Array.length_toList] at h1
    omega
  have hL : vs.length ≤ sizeLine := by
    rw [sizeLine_eq]
    have : scanBound = 4096 := rfl
    omega
  refine wpAny_bind (wpAny_newList ?_ hL)
  have hoL : (s1.heap.push (seqObj "list" vs.toArray 0)).get? s1.heap.objs.size = some (seqObj "list" vs.toArray 0) := Heap.get?_push_size _ rfl
  refine wpAny_bind (wpAny_holding (wpAny_call_entry slot_list_sort ⟨_, hoL, rfl⟩ entry_list_sort (list_sort_treeAny hoL hI hL fun out ys h1 h2 h3 => ⟨_, rfl, ?_⟩) (args_list_sort _)))
  obtain ⟨c, hc⟩ := sortedHeap_at (vs := vs) (out := out) hoL
  refine wpAny_pure ⟨_, rfl, hQ _ s1.heap.objs.size _ c ys (fun b u e => ?_) g1 o1 hz hc h1 ?_⟩
  · have q := k1 b u e
    have hlt := Heap.lt_size q
    show (sortedHeap (s1.heap.push (seqObj "list" vs.toArray 0)) s1.heap.objs.size vs _).get? b = some u
    rw [sortedHeap_old (Nat.ne_of_lt hlt) (by rw [size_push']; exact Nat.lt_succ_of_lt hlt)]
    exact Heap.get?_push_of_some _ q
  · have nd : ((vs.map Builtin.Re.reRawOf).map (Sum.inl : Int → Key)).Nodup := pS.nodup_iff.mpr r.nd
    have nd2 : (vs.map Builtin.Re.reRawOf).Nodup := by
      rw [List.Nodup, List.pairwise_map] at nd
      exact nd.imp fun h z => h (by rw [z])
    have nd3 : ys.Nodup := h2.nodup_iff.mpr nd2
    refine sortedI_one ((List.perm_ext_iff_of_nodup nd3 ((sortI_perm _).nodup_iff.mpr (dedupI_nodup zs))).mpr fun x => ?_) h3 (sortI_sorted _)
    rw [h2.mem_iff, (sortI_perm _).mem_iff, dedupI_mem]
    constructor
    · intro hx
      obtain ⟨v, hv, rfl⟩ := List.mem_map.mp hx
      obtain ⟨x, t, e, hx⟩ := hmem v hv
      rw [e]; exact hx
    · intro hx
      have : (Sum.inl x : Key) ∈ (vs.map Builtin.Re.reRawOf).map (Sum.inl : Int → Key) := pS.mem_iff.mpr (foldK_mem.mpr (List.mem_map.mpr ⟨x, hx, rfl⟩))
      obtain ⟨y, hy, e⟩ := List.mem_map.mp this
      cases e
      exact hy
end
theorem foldK_nd : ∀ {ks S : List Key}, S.Nodup → (ks.foldl addK S).Nodup
  | [], _, h => h
  | k :: ks, S, h => foldK_nd (ks := ks) (addK_nd h)
theorem foldK_dedupI (zs : List Int) : (foldK (zs.map Sum.inl)).length = (dedupI zs).length := by
  have nd2 : ((dedupI zs).map (Sum.inl : Int → Key)).Nodup := by
    rw [List.Nodup, List.pairwise_map]
    exact (dedupI_nodup zs).imp fun h z => h (Sum.inl.inj z)
  have p : (foldK (zs.map Sum.inl)).Perm ((dedupI zs).map Sum.inl) := (List.perm_ext_iff_of_nodup (foldK_nd .nil) nd2).mpr fun k => by
    show k ∈ foldK (zs.map Sum.inl) ↔ _
    rw [foldK_mem, List.mem_map, List.mem_map]
    constructor
    · rintro ⟨x, hx, rfl⟩; exact ⟨x, dedupI_mem.mpr hx, rfl⟩
    · rintro ⟨x, hx, rfl⟩; exact ⟨x, dedupI_mem.mp hx, rfl⟩
  rw [p.length_eq, List.length_map]
end Sv
end
section
set_option linter.all false
set_option maxRecDepth 100000
set_option maxHeartbeats 4000000
/-! SvSet4: SetF. -/
namespace Sv
open PySem PySem.Spec PyProof.Rows L2
section
variable {X : Cx} {cl : Nat → Addr} {W : WX} {E : Ev} {lv : Nat}
theorem Vals_at : ∀ {xs : List V} {us : List Value}, Vals xs us → ∀ (i : Nat) (u : Value), us[i]? = some u → ∃ x, xs[i]? = some x ∧ RelV x u
  | _, _, .nil, i, u, h => by simp at h
  | _, _, .cons r t, 0, u, h => by simp at h; subst h; exact ⟨_, rfl, r⟩
  | _, _, .cons r t, i + 1, u, h => by
    simp only [List.getElem?_cons_succ] at h ⊢
    exact Vals_at t i u h
/-- set(xs): the set stands outside of the abstract heap -/
theorem call_setK {ks : List Key} {xs : List V} {l : Addr} {pins : List (Addr × Obj)} {σ : L2.St} {H : Hp} {s : Shared} {Q : Value → Shared → Prop} (hc : X.calm = true) (I : Inv X pins σ H s) (hq : H l = some (.lst xs) ∨ SqT X.K H l xs) (hx : xs = ks.map kV) (hb : ks.length + 1 < scanBound)
    (h : ∀ s' p, Inv X pins σ H s' → SetK' X.prog X.w s'.heap p (foldK ks) → Q (.ref p) s') : wpAny (model X.prog X.w) X.A (call (.type "set") [.ref l]) Q X.xe s := by
  have key : ∀ its : List Value, Vals xs its → its.toArray.size = ks.length ∧ ∀ (i : Nat) v, its.toArray[i]? = some v → ∃ k, ks[i]? = some k ∧ keyIs k v = true := fun its r => by
    refine ⟨?_, fun i v hv => ?_⟩
    · rw [List.size_toArray, ← r.length, hx, List.length_map]
    · obtain ⟨x, h1, h2⟩ := Vals_at r i v (by simpa using hv)
      rw [hx, List.getElem?_map] at h1
      cases hk : ks[i]? with
      | none => rw [hk] at h1; cases h1
      | some k =>
        rw [hk] at h1
        cases h1
        refine ⟨k, rfl, ?_⟩
        cases k with
        | inl i => obtain ⟨t, rfl⟩ := h2; exact keyIs_int i t
        | inr x => obtain ⟨t, rfl⟩ := h2; exact keyIs_str x t
  have fin : ∀ (h' : Heap) (tk : Nat), SetK' X.prog X.w h' s.heap.objs.size (foldK ks) → (∀ b o, s.heap.get? b = some o → h'.get? b = some o) → Q (.ref s.heap.objs.size) { s with heap := h', toks := tk } := fun h' tk R k =>
    h _ _ ((I.kept (h' := h') (t' := tk) fun b o e => k b o e)) R
  rcases hq with hq | hq
  · obtain ⟨its, r, pl, hz⟩ := I.list (SqL.of hq)
    obtain ⟨k1, k2⟩ := key its r
    exact call_set_lstK ks (I.ok.hd hc) pl.isList k1 k2 hb fin
  · obtain ⟨its, r, pl, hz⟩ := I.tuple hq
    obtain ⟨k1, k2⟩ := key its r
    exact call_set_tupK ks (I.ok.hd hc) pl k1 k2 hb fin
/-- f(set(a)), f a built-in of one argument -/
theorem tW_set1 {f : String} {x : Str} {a : Expr} {p p2 q pos : Pos} {σ : L2.St} {H : Hp} {Q : VK} (hc : X.calm = true) (hg : Gl X x) (hm : X.mg x = none) (hv : bootBuiltins x = some (.builtin f)) (hn : x ≠ "__name__") (hdb : (x == ("__debug__" : Str)) = false) (hg2 : Gl X "set") (hm2 : X.mg "set" = none) (hs : isStar a = false)
    (h : tW X a σ H fun v H1 => ∃ l xs, ∃ ks : List Key, v = .ref l ∧ (H1 l = some (.lst xs) ∨ SqT X.K H1 l xs) ∧ xs = ks.map kV ∧ ks.length + 1 < scanBound ∧
      ∀ (pins : List (Addr × Obj)) (s : Shared) (b : Addr), Inv X pins σ H1 s → SetK' X.prog X.w s.heap b (foldK ks) → wpAny (model X.prog X.w) X.A (call (.builtin f) [.ref b]) (EP X pins σ Q) X.xe s) :
    tW X (.Call (.Name x p) [.Call (.Name "set" p2) [a] [] q] [] pos) σ H Q := fun pins s I => by
  have na := starEach_cons (es := []) (env := X.env) hs
  refine wpAny_Call_Name_kw (ld_blt I hg hm hv ?_ hn hdb)
  refine PyProof.Rows.callWith_builtin1 (PyProof.Rows.args_cons ?_ rfl) rfl rfl
  refine Call_ (ld_blt I hg2 hm2 boot_set ?_)
  refine PyProof.Rows.callWith_type1 (PyProof.Rows.args_cons (thn (h pins s I) fun v s1 ⟨x, H1, I1, r1, q1⟩ => PyProof.Rows.args_nil ?_) na) na rfl
  obtain ⟨l, xs, ks, rfl, hq, hx, hb, q1⟩ := q1
  cases r1
  exact call_setK hc I1 hq hx hb fun s' b I' R => PyProof.Rows.args_nil (q1 pins s' b I' R)
theorem laid_list {pins : List (Addr × Obj)} {σ : L2.St} {H : Hp} {s s' : Shared} {p : Addr} {out : Array Value} {c : Nat} {vs : List V} (I : Inv X pins σ H s) (k : ∀ b o, s.heap.get? b = some o → s'.heap.get? b = some o) (g : s'.gens = s.gens) (o : s'.os = s.os) (hp : s.heap.objs.size ≤ p)
    (hg : s'.heap.get? p = some (seqObj "list" out c)) (rv : Vals vs out.toList) (hlen : vs.length ≤ sizeLine) : H p = none ∧ Inv X pins σ (upd H p (.lst vs)) s' := by
  have hn : H p = none := I.hok.fresh hp
  have J : Inv X pins σ (upd H p (.lst vs)) { s with heap := s'.heap, gens := s'.gens, drawn := s'.drawn, toks := s'.toks } :=
    I.call (ch := []) (Un.laid k hp hn) (I.hok.laid k hp ⟨hlen, out.toList, c, rv, hg⟩) (by rw [g]; exact I.bare) (fun _ z => nomatch z)
  have e : s' = { s with heap := s'.heap, gens := s'.gens, drawn := s'.drawn, toks := s'.toks } := by
    cases s'
    cases s
    cases o
    rfl
  rw [e]
  exact ⟨hn, J⟩
theorem vals_strs : ∀ {us : List Value} {ys : List Str}, StrsAre us ys → Vals (ys.map V.str) us
  | _, _, .nil => .nil
  | _, _, .cons x t r => .cons ⟨t, rfl⟩ (vals_strs r)
theorem set_F : SetF cl lv E := fun X t W g hset a c p p2 q pos hs ha => by
  obtain ⟨g2, m2⟩ := g.blt hset
  have sb : (64 : Nat) + 1 < scanBound := by decide
  refine ⟨fun hso => ?_, fun hle => ?_⟩
  · obtain ⟨g1, m1⟩ := g.blt hso
    intro σ H F cs sl st Q r so ok
    simp only [evE, evA, Rs.bind_assoc] at ok
    refine tW_set1 g.calm g1 m1 boot_sorted (by decide) (by decide) g2 m2 hs (ha σ H F cs sl st _ r so (ok.bindF fun x st1 xv F1 H1 cs1 e1 r1 d1 ok1 => ?_))
    simp only [Rs.bind, biV] at ok1
    split at ok1
    · rename_i xs hq
      obtain ⟨l, vs, rfl, hl, dl⟩ := seqOf_ok r1 d1 hq
      split at ok1
      · rename_i zs hz
        have e := strsOf_ok dl hz
        subst e
        split at ok1
        · rename_i h64
          refine ⟨l, _, zs.map Sum.inr, rfl, hl, by rw [List.map_map]; rfl, by rw [List.length_map]; unfold scanBound; omega, fun pins s b I R => ?_⟩
          refine sorted_setS R (I.ok.hd g.calm) fun s' b' out c ys k gg oo hp hg hi hy => ?_
          have hyl : ys.length ≤ 64 := by
            rw [hy, (sortS_perm _).length_eq]
            have h1 : (dedupS zs).length ≤ zs.length := (List.Nodup.length_le_of_subset (dedupS_nodup zs) fun x hx => dedupS_mem.mp hx)
            omega
          obtain ⟨hn, J⟩ := laid_list (vs := ys.map V.str) I k gg oo hp hg (vals_strs hi) (by rw [List.length_map, sizeLine_eq]; omega)
          refine ⟨.ref b', _, J, rfl, ?_⟩
          subst hy
          exact okG.newL ok1 r1 (DnL.strs _) b' hn
        · exact ok1.elim
      · split at ok1
        · rename_i zs hz
          have e := intsOf_ok dl hz
          subst e
          split at ok1
          · rename_i h64
            refine ⟨l, _, zs.map Sum.inl, rfl, hl, by rw [List.map_map]; rfl, by rw [List.length_map]; unfold scanBound; omega, fun pins s b I R => ?_⟩
            refine sorted_setI R (I.ok.hd g.calm) fun s' b' out c ys k gg oo hp hg hi hy => ?_
            have hyl : ys.length ≤ 64 := by
              rw [hy, (sortI_perm _).length_eq]
              have h1 : (dedupI zs).length ≤ zs.length := (List.Nodup.length_le_of_subset (dedupI_nodup zs) fun x hx => dedupI_mem.mp hx)
              omega
            obtain ⟨hn, J⟩ := laid_list (vs := ys.map V.int) I k gg oo hp hg (vals_of_ints hi) (by rw [List.length_map, sizeLine_eq]; omega)
            refine ⟨.ref b', _, J, rfl, ?_⟩
            subst hy
            exact okG.newL ok1 r1 (DnL.ints _) b' hn
          · exact ok1.elim
        · exact ok1.elim
    · exact ok1.elim
  · obtain ⟨g1, m1⟩ := g.blt hle
    intro σ H F cs sl st Q r so ok
    simp only [evE, evA, Rs.bind_assoc] at ok
    refine tW_set1 g.calm g1 m1 boot_len (by decide) (by decide) g2 m2 hs (ha σ H F cs sl st _ r so (ok.bindF fun x st1 xv F1 H1 cs1 e1 r1 d1 ok1 => ?_))
    simp only [Rs.bind, biV] at ok1
    split at ok1
    · rename_i xs hq
      obtain ⟨l, vs, rfl, hl, dl⟩ := seqOf_ok r1 d1 hq
      split at ok1
      · rename_i zs hz
        have e := intsOf_ok dl hz
        subst e
        split at ok1
        · rename_i h64
          refine ⟨l, _, zs.map Sum.inl, rfl, hl, by rw [List.map_map]; rfl, by rw [List.length_map]; unfold scanBound; omega, fun pins s b I R => ?_⟩
          obtain ⟨o, es, ep, t, R⟩ := R
          have hn : es.size = (dedupI zs).length := by
            have := R.pm.length_eq
            rw [foldK_dedupI] at this
            simpa using this
          have hlt := R.lt
          refine call_len_set R.at_ R.ex R.da R.fit (by unfold scanBound at hlt; omega) ⟨.int (dedupI zs).length, H1, I.tok _, ⟨_, by rw [hn]⟩, okG.val ok1 r1 (.int _)⟩
        · exact ok1.elim
      · exact ok1.elim
    · exact ok1.elim
end
end Sv
end
section
set_option linter.all false
set_option maxRecDepth 100000
set_option maxHeartbeats 4000000
/-! SvHead: a program's tables, and what the head must say of them. -/
namespace Sv
open PySem PySem.Spec PyProof.Rows L2
open He (ga ma eqO eqO_ok ba)

/-- where a def stands -/
inductive Pl where
  | glo (x : Str) | meth (c m : Str) | prop (c m : Str) | stat (c m : Str)
def recFst (K : PySem.W.Frag) (p : Addr) (T : String) : Addr := match PySem.W.recIn K p T with
  | some (.ref g :: _) => g
  | _ => 0
def plAd (K : PySem.W.Frag) : Pl → Addr
  | .glo x => ga K x
  | .meth c m => ma K (ga K c) m
  | .prop c m => recFst K (ma K (ga K c) m) "property"
  | .stat c m => recFst K (ma K (ga K c) m) "staticmethod"
structure Df where
  pl : Pl
  nm : Str
  qual : Str
  st : Stmt
  ps : List Str
  N : List Str
  ds : List T
def Df.none : Df := ⟨.glo "", "", "", .Pass ⟨0, 0, 0, 0⟩, [], [], []⟩
structure Tb where
  defs : List Df
  cn : List Str
  fnsT : List (Str × Sig)
  clsT : List (Str × Nat × Sig)
  gloT : List (Str × T)
  freeT : List Str
  hints : List Pos
  frz : List (Pos × List Nat)
  methT : List ((Nat × Str) × Nat)
  propT : List ((Nat × Str) × Nat)
  fldT : List (Nat × Str)
  kwT : List ((Nat × Nat × List Str) × List Nat)
namespace Tb
variable (tb : Tb)
def df (i : Nat) : Df := (tb.defs[i]?).getD .none
def G : Tabs := ⟨fun c m => tb.methT.lookup (c, m), fun c m => tb.propT.lookup (c, m), fun x => tb.gloT.lookup x, fun a b => decide (a = b), fun c => decide (c < tb.cn.length), fun c f => tb.fldT.any fun p => decide (p = (c, f)),
  fun f n ks => (tb.kwT.lookup (f, n, ks)).map fun pm => (pm, (tb.df f).ds)⟩
def ct (d : Df) : CT := ⟨d.N, defScope d.st, tb.fnsT, tb.clsT, tb.gloT, tb.freeT, tb.hints, tb.frz, fun _ => true⟩
def fns (i : Nat) : Option Fn := (tb.defs[i]?).map fun d => ⟨d.N.length, d.ps.length, cmpSs 60 (tb.ct d) (defBody d.st)⟩
def cl (K : PySem.W.Frag) (c : Nat) : Addr := ga K ((tb.cn[c]?).getD "")
def fa (K : PySem.W.Frag) (i : Nat) : Addr := plAd K (tb.df i).pl
def pst (i : Nat) : List Str := (tb.df i).ps
end Tb
def fdAt (K : PySem.W.Frag) (a : Addr) : FuncData := match K.lookup a with
  | some ⟨_, _, .func fd, _⟩ => fd
  | _ => PySem.W.fnOf "" "" ⟨[], [], none, [], [], none, []⟩ [] ⟨.function, [], false, false, []⟩ .none .none .none .none none .none .none

/-! ### constants -/
def chkT (K : PySem.W.Frag) : Nat → T → Value → Bool
  | 0, _, _ => false
  | n + 1, t, u => match t, u with
    | .non, .none => true
    | .bl b, .bool c => b == c
    | .int i, .int j _ => decide (i = j)
    | .str x, .str y _ => decide (x = y)
    | .tup xs, .ref a => (match K.lookup a with
      | some ⟨.type c, _, .seq its _, _⟩ => decide (c = "tuple") && (decide (its.size ≤ sizeLine) && (decide (xs.length = its.toList.length) && (xs.zip its.toList).all fun p => chkT K n p.1 p.2))
      | _ => false)
    | _, _ => false
def vOf : Value → V
  | .none => .non
  | .bool b => .bl b
  | .int i _ => .int i
  | .str x _ => .str x
  | .ref a => .ref a
  | _ => .non
theorem chkL_ok {K : PySem.W.Frag} {cl : Nat → Addr} {F : Hp} {cs : List Addr} {n : Nat} (h : ∀ {t : T} {u : Value}, chkT K n t u = true → RelV (vOf u) u ∧ Dn K cl F cs t (vOf u)) : ∀ {xs : List T} {us : List Value}, xs.length = us.length → (xs.zip us).all (fun p => chkT K n p.1 p.2) = true → Vals (us.map vOf) us ∧ DnL K cl F cs xs (us.map vOf)
  | [], [], _, _ => ⟨.nil, .nil⟩
  | x :: xs, u :: us, hl, hc => by
    rw [List.zip_cons_cons, List.all_cons, Bool.and_eq_true] at hc
    obtain ⟨a, b⟩ := h hc.1
    obtain ⟨c, d⟩ := chkL_ok h (xs := xs) (us := us) (by simpa using hl) hc.2
    exact ⟨.cons a c, .cons b d⟩
  | [], _ :: _, hl, _ => by simp at hl
  | _ :: _, [], hl, _ => by simp at hl
theorem chkT_ok {K : PySem.W.Frag} {cl : Nat → Addr} {F : Hp} {cs : List Addr} : ∀ (n : Nat) {t : T} {u : Value}, chkT K n t u = true → RelV (vOf u) u ∧ Dn K cl F cs t (vOf u)
  | 0, t, u, h => by cases h
  | n + 1, t, u, h => by
    cases t <;> cases u <;> first | (cases h; done) | skip
    · exact ⟨rfl, .non⟩
    · rename_i b c
      have : b = c := eq_of_beq h
      subst this
      exact ⟨rfl, .bl b⟩
    · rename_i i j t
      have : i = j := of_decide_eq_true h
      subst this
      exact ⟨⟨t, rfl⟩, .int i⟩
    · rename_i i j t
      have : i = j := of_decide_eq_true h
      subst this
      exact ⟨⟨t, rfl⟩, .str i⟩
    · rename_i xs a
      simp only [chkT] at h
      split at h
      · rename_i c od its k osl lk
        obtain ⟨h1, h⟩ := ba h
        obtain ⟨h2, h⟩ := ba h
        obtain ⟨h3, h4⟩ := ba h
        obtain ⟨h5, h6⟩ := chkL_ok (cl := cl) (F := F) (cs := cs) (n := n) (fun {t u} q => chkT_ok n q) (of_decide_eq_true h3) h4
        exact ⟨rfl, .tup (.inr ⟨_, its, k, lk, congrArg Value.type (of_decide_eq_true h1), rfl, of_decide_eq_true h2, h5⟩) h6⟩
      · cases h

/-! ### what is asked of a part of the heap -/
namespace Tb
variable (tb : Tb)
abbrev FnW : Type := Option (Str × Str × Arguments × FuncBody × Scope × Addr × List (Str × Addr) × Addr)
def fnW (K : PySem.W.Frag) (p : Pl) : FnW := match K.lookup (plAd K p) with
  | some ⟨_, _, .func fd, _⟩ => some (fd.name, fd.qualname, fd.params, fd.body, fd.scope, fd.globals, fd.closure, fd.builtins)
  | _ => none
end Tb
def Df.val (d : Df) : Tb.FnW := some (d.nm, d.qual, defArgs d.st, .stmts (defBody d.st), defScope d.st, mainGlobals, [], builtinsNs)
/-- the defaults, as they stand -/
def dflIts (K : PySem.W.Frag) (v : Value) : List Value := match v with
  | .ref t => (match K.lookup t with
    | some ⟨_, _, .seq its _, _⟩ => its.toList
    | _ => [])
  | _ => []
def isNone : Value → Bool
  | .none => true
  | _ => false
def isSeqAt (K : PySem.W.Frag) : Value → Bool
  | .ref t => (match K.lookup t with
    | some ⟨_, _, .seq _ _, _⟩ => true
    | _ => false)
  | _ => false
def okDf (K : PySem.W.Frag) (d : Df) : Bool := PySem.W.keepIn K (.ref (plAd K d.pl)) && (match K.lookup (plAd K d.pl) with
  | some ⟨_, _, .func fd, _⟩ => PySem.W.codeIn K fd.code d.qual && (if d.ds.isEmpty then isNone fd.defaults else isSeqAt K fd.defaults && (decide (d.ds.length = (dflIts K fd.defaults).length) && (d.ds.zip (dflIts K fd.defaults)).all fun p => chkT K 9 p.1 p.2))
  | _ => false)
def okGlo (K : PySem.W.Frag) (p : Str × T) : Bool := match PySem.W.nsIn K mainGlobals p.1 with
  | some (some u) => chkT K 9 p.2 u
  | _ => false
def okClsObj (K : PySem.W.Frag) (C : Addr) : Bool :=
  eqO (PySem.W.findIn K (.ref C) "__class__") (some (some (.builtin "object.__class__"))) && (eqO (PySem.W.specialIn K (.builtin "object.__class__") "__get__") (some (some (.builtin "getset_descriptor.__get__"))) &&
    (decide (PySem.W.takesIn K (.builtin "object.__class__") = some true) && decide (PySem.W.mroIn K C (.type "object") = some true)))
def okKitB (K : PySem.W.Frag) (C : Addr) : Bool := ["int", "bool", "str", "list", "tuple", "dict"].all fun n => decide (PySem.W.kitOne K (.ref C) (.type n) = some false)
def okKitT (K : PySem.W.Frag) (C : Addr) : Bool := ["NoneType", "int", "bool", "str", "list", "tuple", "dict"].all fun n => decide (PySem.W.kitOne K (.type n) (.ref C) = some false)
def okProp (K : PySem.W.Frag) (C : Addr) (m : Str) (g : Addr) : Bool :=
  eqO (PySem.W.findIn K (.ref C) m) (some (some (.ref (ma K C m)))) && (eqO (PySem.W.specialIn K (.ref (ma K C m)) "__get__") (some (some (.builtin "property.__get__"))) && (decide (PySem.W.takesIn K (.ref (ma K C m)) = some true) &&
    (match PySem.W.recIn K (ma K C m) "property" with
      | some (.ref h :: _) => decide (h = g)
      | _ => false)))
namespace Tb
variable (tb : Tb)
def chk (K : PySem.W.Frag) : Bool :=
  (tb.freeT.all fun x => eqO (PySem.W.nsIn K mainGlobals x) (some none)) && ((tb.gloT.all (okGlo K)) && ((tb.fnsT.all fun p => eqO (PySem.W.nsIn K mainGlobals p.1) (some (some (.ref (tb.fa K p.2.f))))) &&
  ((tb.clsT.all fun p => eqO (PySem.W.nsIn K mainGlobals p.1) (some (some (.ref (tb.cl K p.2.1)))) && ((He.Fa.mkr ((tb.cn[p.2.1]?).getD "")).ok K && decide (ma K (tb.cl K p.2.1) "__init__" = tb.fa K p.2.2.f))) &&
  ((tb.cn.all fun x => (He.Fa.cls x).ok K && (okClsObj K (ga K x) && (okKitB K (ga K x) && okKitT K (ga K x)))) && (((List.range tb.cn.length).all fun c => (List.range tb.cn.length).all fun d => decide (PySem.W.kitOne K (.ref (tb.cl K c)) (.ref (tb.cl K d)) = some (decide (c = d)))) &&
  ((tb.fldT.all fun p => eqO (PySem.W.findIn K (.ref (tb.cl K p.1)) p.2) (some none)) && ((tb.methT.all fun p => eqO (PySem.W.findIn K (.ref (tb.cl K p.1.1)) p.1.2) (some (some (.ref (tb.fa K p.2)))) && (PySem.W.isFn K (.ref (tb.fa K p.2)) && PySem.W.keepIn K (.ref (tb.fa K p.2)))) &&
  ((tb.propT.all fun p => okProp K (tb.cl K p.1.1) p.1.2 (tb.fa K p.2)) && tb.defs.all (okDf K)))))))))
/-- the tables fit each other -/
def wf : Bool :=
  (tb.fnsT.all fun p => decide (p.2.f < tb.defs.length) && (decide (tb.pst p.2.f = p.2.ps) && dsEq (tb.df p.2.f).ds p.2.ds)) &&
  ((tb.clsT.all fun p => decide (p.2.2.f < tb.defs.length) && (decide (tb.pst p.2.2.f = p.2.2.ps) && (dsEq (tb.df p.2.2.f).ds p.2.2.ds && decide (0 < p.2.2.ps.length)))) &&
  ((tb.fldT.all fun p => decide (p.1 < tb.cn.length)) && ((tb.methT.all fun p => decide (p.1.1 < tb.cn.length) && (decide (p.2 < tb.defs.length) && (tb.df p.2).ds.isEmpty)) && (tb.propT.all fun p => decide (p.1.1 < tb.cn.length) && (decide (p.2 < tb.defs.length) && (tb.df p.2).ds.isEmpty)))))
where dsEq : List T → List T → Bool
  | [], [] => true
  | .tup x :: r, .tup y :: s => (x.isEmpty && y.isEmpty) && dsEq r s
  | .str x :: r, .str y :: s => decide (x = y) && dsEq r s
  | .int x :: r, .int y :: s => decide (x = y) && dsEq r s
  | .non :: r, .non :: s => dsEq r s
  | .bl x :: r, .bl y :: s => (x == y) && dsEq r s
  | _, _ => false
end Tb
theorem dsEq_eq : ∀ {a b : List T}, Tb.wf.dsEq a b = true → a = b
  | [], [], _ => rfl
  | [], b :: r, h => by cases h
  | a :: r, [], h => by cases a <;> cases h
  | a :: r, b :: s, h => by
    cases a <;> cases b <;> first | (cases h; done) | skip
    · rw [dsEq_eq (a := r) (b := s) h]
    · rename_i x y
      have h : ((x == y) && Tb.wf.dsEq r s) = true := h
      obtain ⟨h1, h2⟩ := ba h
      rw [eq_of_beq h1, dsEq_eq h2]
    · obtain ⟨h1, h2⟩ := ba h
      rw [of_decide_eq_true h1, dsEq_eq h2]
    · obtain ⟨h1, h2⟩ := ba h
      rw [of_decide_eq_true h1, dsEq_eq h2]
    · rename_i x y
      have h : ((x.isEmpty && y.isEmpty) && Tb.wf.dsEq r s) = true := h
      obtain ⟨h1, h2⟩ := ba h
      obtain ⟨h3, h4⟩ := ba h1
      rw [List.isEmpty_iff.mp h3, List.isEmpty_iff.mp h4, dsEq_eq h2]

/-- how a def takes its arguments -/
def BindOk (d : Df) : Prop :=
  (d.ds = [] → ∀ (kV doc pm : Value) (an : Option Addr) (cdv ct : Value) (us : List Value), us.length = d.ps.length → bindArgs (PySem.W.fnOf d.nm d.qual (defArgs d.st) (defBody d.st) (defScope d.st) .none kV doc pm an cdv ct) ⟨us, []⟩ = pure (d.ps.zip us)) ∧
  (∀ j, j ≤ d.ds.length → d.ds ≠ [] → ∀ (t : Addr) (kV doc pm : Value) (an : Option Addr) (cdv ct : Value) (us its : List Value), us.length + (d.ds.length - j) = d.ps.length → its.length = d.ds.length →
    ∃ k, bindArgs (PySem.W.fnOf d.nm d.qual (defArgs d.st) (defBody d.st) (defScope d.st) (.ref t) kV doc pm an cdv ct) ⟨us, []⟩ = seqItems? (.ref t) >>= k ∧ k (some its.toArray) = pure (d.ps.zip (us ++ its.drop j)))
/-- how a def takes keywords: n values without names, then those of the names ks -/
def KwOk (d : Df) (n : Nat) (ks : List Str) (pl : List Nat) : Prop :=
  (d.ds = [] → ∀ (kV doc pm : Value) (an : Option Addr) (cdv ct : Value) (us ws : List Value), us.length = n → ws.length = ks.length →
    bindArgs (PySem.W.fnOf d.nm d.qual (defArgs d.st) (defBody d.st) (defScope d.st) .none kV doc pm an cdv ct) ⟨us, ks.zip ws⟩ = pure (d.ps.zip (pick pl (us ++ ws)))) ∧
  (d.ds ≠ [] → ∀ (t : Addr) (kV doc pm : Value) (an : Option Addr) (cdv ct : Value) (us ws its : List Value), us.length = n → ws.length = ks.length → its.length = d.ds.length →
    ∃ k, bindArgs (PySem.W.fnOf d.nm d.qual (defArgs d.st) (defBody d.st) (defScope d.st) (.ref t) kV doc pm an cdv ct) ⟨us, ks.zip ws⟩ = seqItems? (.ref t) >>= k ∧ k (some its.toArray) = pure (d.ps.zip (pick pl (us ++ ws ++ its))))
def Tb.KwsOk (tb : Tb) : Prop := ∀ p ∈ tb.kwT, p.1.1 < tb.defs.length ∧ KwOk (tb.df p.1.1) p.1.2.1 p.1.2.2 p.2
end Sv
end
section
set_option linter.all false
set_option maxRecDepth 100000
set_option maxHeartbeats 4000000
/-! SvHead2: the tables keep what the simulation asks. -/
namespace Sv
open PySem PySem.Spec PyProof.Rows L2
open He (ga ma eqO eqO_ok ba)
section
variable {K : PySem.W.Frag} {mg : Str → Option Value} {h : Heap} {tb : Tb}
def Df.dvs (K : PySem.W.Frag) (d : Df) : List V := if d.ds.isEmpty then [] else (dflIts K (fdAt K (plAd K d.pl)).defaults).map vOf
theorem df_fun {d : Df} (e : Tb.fnW K d.pl = d.val) (c : okDf K d = true) : FunD K d.nm d.qual (defArgs d.st) (defBody d.st) (defScope d.st) (d.dvs K) [] (plAd K d.pl) (fdAt K (plAd K d.pl)) ∧ ∀ cl F cs, DnL K cl F cs d.ds (d.dvs K) := by
  obtain ⟨kp, c2⟩ := ba c
  unfold Tb.fnW at e
  unfold Df.dvs fdAt
  cases q : K.lookup (plAd K d.pl) with
  | none =>
    rw [q] at c2
    cases c2
  | some o =>
    obtain ⟨oc, od, dt, osl⟩ := o
    rw [q] at c2 e
    cases dt with
    | func fd =>
      obtain ⟨n1, n2, n3, n4, n5, n6, n7, n8, n9, n10, n11, n12, n13, n14, n15⟩ := fd
      have e2 : (some (n1, n2, n3, n4, n5, n6, n7, n15) : Tb.FnW) = some (d.nm, d.qual, defArgs d.st, .stmts (defBody d.st), defScope d.st, mainGlobals, [], builtinsNs) := e
      simp only [Option.some.injEq, Prod.mk.injEq] at e2
      obtain ⟨h1, h2, h3, h4, h5, h6, h7, h8⟩ := e2
      subst h1 h2 h3 h4 h5 h6 h7 h8
      have c3 : (PySem.W.codeIn K n13 d.qual && (if d.ds.isEmpty then isNone n8 else isSeqAt K n8 && (decide (d.ds.length = (dflIts K n8).length) && (d.ds.zip (dflIts K n8)).all fun p => chkT K 9 p.1 p.2))) = true := c2
      obtain ⟨k1, k2⟩ := ba c3
      show FunD K d.nm d.qual (defArgs d.st) (defBody d.st) (defScope d.st) (if d.ds.isEmpty then [] else (dflIts K n8).map vOf) [] _ _ ∧ _
      cases hd : d.ds.isEmpty with
      | true =>
        rw [hd] at k2
        have k2 : isNone n8 = true := k2
        have e8 : n8 = .none := by cases n8 <;> first | rfl | cases k2
        subst e8
        have hds := List.isEmpty_iff.mp hd
        refine ⟨⟨⟨oc, od, .none, n9, n10, n11, n12, n13, n14, osl, rfl, q, k1, .inl ⟨rfl, rfl⟩, .inl rfl⟩, kp⟩, fun cl F cs => ?_⟩
        rw [hds]
        exact .nil
      | false =>
        rw [hd] at k2
        have k2 : (isSeqAt K n8 && (decide (d.ds.length = (dflIts K n8).length) && (d.ds.zip (dflIts K n8)).all fun p => chkT K 9 p.1 p.2)) = true := k2
        obtain ⟨k3, k4⟩ := ba k2
        obtain ⟨k5, k6⟩ := ba k4
        have k5 := of_decide_eq_true k5
        have hne : d.ds ≠ [] := fun z => by rw [z] at hd; cases hd
        have key : ∀ (cl : Nat → Addr) (F : Hp) (cs : List Addr), Vals ((dflIts K n8).map vOf) (dflIts K n8) ∧ DnL K cl F cs d.ds ((dflIts K n8).map vOf) := fun cl F cs => chkL_ok (fun {t u} q => chkT_ok 9 q) k5 k6
        cases n8 with
        | ref t =>
          simp only [isSeqAt] at k3
          split at k3
          · rename_i oc2 od2 its m osl2 lt
            have ei : dflIts K (.ref t) = its.toList := by simp only [dflIts, lt]
            rw [ei] at k5 key
            refine ⟨⟨⟨oc, od, .ref t, n9, n10, n11, n12, n13, n14, osl, rfl, q, k1, .inr ⟨?_, t, _, its.toList, m, rfl, lt, by simp, ?_⟩, .inl rfl⟩, kp⟩, fun cl F cs => ?_⟩
            · show (dflIts K (.ref t)).map vOf ≠ []
              rw [ei]
              intro z
              have := congrArg List.length z
              rw [List.length_map, ← k5] at this
              exact hne (List.length_eq_zero_iff.mp this)
            · show Vals ((dflIts K (.ref t)).map vOf) _
              rw [ei]
              exact (key (fun _ => 0) (fun _ => none) []).1
            · show DnL K cl F cs d.ds ((dflIts K (.ref t)).map vOf)
              rw [ei]
              exact (key cl F cs).2
          · cases k3
        | _ => cases k3
    | _ => cases c2
/-- what is left of a call's arguments -/
theorem dfl_ok {d : Df} {cl : Nat → Addr} (F : FunD K d.nm d.qual (defArgs d.st) (defBody d.st) (defScope d.st) (d.dvs K) [] (plAd K d.pl) (fdAt K (plAd K d.pl))) (D : ∀ cl F cs, DnL K cl F cs d.ds (d.dvs K)) (B : BindOk d) {n : Nat} {dts : List T} (h : withDfl d.ps d.ds n = some dts) :
    DflOk K cl (fdAt K (plAd K d.pl)) d.ps dts := by
  unfold withDfl at h
  split at h
  · rename_i hl
    cases h
    by_cases hd : d.ds = []
    · have hdv : d.dvs K = [] := by unfold Df.dvs; rw [hd]; rfl
      rw [hdv] at F
      refine ⟨[], [], F.bindsN (B.1 hd), .nil, fun F cs => ?_⟩
      rw [hd, List.drop_nil]
      exact .nil
    · have hlen : d.ds.length = (d.dvs K).length := (D (fun _ => 0) (fun _ => none) []).length
      have hne : d.dvs K ≠ [] := fun z => by rw [z] at hlen; exact hd (List.length_eq_zero_iff.mp hlen)
      have key := B.2 (d.ds.length - (d.ps.length - n)) (by omega) hd
      obtain ⟨ds, v, b⟩ := F.binds1 (ps := d.ps) n (d.ds.length - (d.ps.length - n)) hne (by omega) fun t kV doc pm an cdv ct us its hu hi => key t kV doc pm an cdv ct us its (by omega) (by omega)
      exact ⟨_, ds, b, v, fun F cs => (D cl F cs).drop _⟩
  · cases h
theorem kw_ok {d : Df} {cl : Nat → Addr} {n : Nat} {ks : List Str} {pl : List Nat} (F : FunD K d.nm d.qual (defArgs d.st) (defBody d.st) (defScope d.st) (d.dvs K) [] (plAd K d.pl) (fdAt K (plAd K d.pl))) (D : ∀ cl F cs, DnL K cl F cs d.ds (d.dvs K)) (B : KwOk d n ks pl) :
    KwF K cl (fdAt K (plAd K d.pl)) d.ps n ks pl d.ds := by
  obtain ⟨oc, od, dV, kV, doc, pmv, an, cdv, ct, osl, efd, lk, hcd, hD, hK⟩ := F.ex
  have hlen : d.ds.length = (d.dvs K).length := (D (fun _ => 0) (fun _ => none) []).length
  rcases hD with ⟨e, rfl⟩ | ⟨ne, t, o, its, m, rfl, lT, oT, rT⟩
  · have hds : d.ds = [] := by rw [e] at hlen; exact List.length_eq_zero_iff.mp hlen
    refine ⟨[], [], .nil, fun F cs => by rw [hds]; exact .nil, fun s us ws X l1 l2 => ?_⟩
    rw [efd, List.append_nil]
    exact .of_eq (B.1 hds kV doc pmv an cdv ct us ws l1 l2)
  · have hds : d.ds ≠ [] := fun z => ne (List.length_eq_zero_iff.mp (by rw [← hlen, z]; rfl))
    refine ⟨d.dvs K, its, rT, D cl, fun s us ws X l1 l2 => ?_⟩
    obtain ⟨k, e1, e2⟩ := B.2 hds t kV doc pmv an cdv ct us ws its l1 l2 (by rw [hlen]; exact rT.length.symm)
    rw [efd]
    refine BindsTo.of_looks fun M => ?_
    rw [e1]
    exact looks_items X lT oT (.of_pure e2)
theorem lookup_mem' {α β : Type} [BEq α] [LawfulBEq α] {a : α} {b : β} : ∀ {l : List (α × β)}, l.lookup a = some b → (a, b) ∈ l
  | [], h => by cases h
  | (c, d) :: r, h => by
    rw [List.lookup_cons] at h
    cases q : (a == c) with
    | true =>
      rw [q] at h
      cases h
      rw [eq_of_beq q]
      exact List.mem_cons_self
    | false =>
      rw [q] at h
      exact List.mem_cons_of_mem _ (lookup_mem' h)
theorem cn_mem {c : Nat} (h : c < tb.cn.length) : (tb.cn[c]?).getD "" ∈ tb.cn := by
  rw [List.getElem?_eq_getElem h]
  exact List.getElem_mem h
theorem df_mem {i : Nat} (h : i < tb.defs.length) : tb.df i ∈ tb.defs ∧ tb.defs[i]? = some (tb.df i) := by
  unfold Tb.df
  rw [List.getElem?_eq_getElem h]
  exact ⟨List.getElem_mem h, rfl⟩
theorem pf_of (X : K.In h) (Gn : h.Ns mainGlobals mg) (c : tb.chk K = true) (e : tb.defs.map (fun d => Tb.fnW K d.pl) = tb.defs.map Df.val) (wf : tb.wf = true) (B : ∀ d ∈ tb.defs, BindOk d) (S : ∀ d ∈ tb.defs, FnScope d.N d.ps (defScope d.st)) (KW : tb.KwsOk) :
    PF K mg (tb.cl K) tb.G tb.fns (tb.fa K) (fun i => fdAt K (tb.fa K i)) tb.pst := by
  unfold Tb.chk at c
  obtain ⟨cfree, c⟩ := ba c
  obtain ⟨cglo, c⟩ := ba c
  obtain ⟨cfns, c⟩ := ba c
  obtain ⟨ccls, c⟩ := ba c
  obtain ⟨ccn, c⟩ := ba c
  obtain ⟨ckit, c⟩ := ba c
  obtain ⟨cfld, c⟩ := ba c
  obtain ⟨cmeth, c⟩ := ba c
  obtain ⟨cprop, cdef⟩ := ba c
  unfold Tb.wf at wf
  obtain ⟨wfns, wf⟩ := ba wf
  obtain ⟨wcls, wf⟩ := ba wf
  obtain ⟨wfld, wf⟩ := ba wf
  obtain ⟨wmeth, wprop⟩ := ba wf
  have hdef : ∀ d ∈ tb.defs, FunD K d.nm d.qual (defArgs d.st) (defBody d.st) (defScope d.st) (d.dvs K) [] (plAd K d.pl) (fdAt K (plAd K d.pl)) ∧ ∀ cl F cs, DnL K cl F cs d.ds (d.dvs K) := fun d hd =>
    df_fun (List.map_inj_left.mp e d hd) (List.all_eq_true.mp cdef d hd)
  have hsome : ∀ i, i < tb.defs.length → (tb.fns i).isSome = true := fun i hi => by
    unfold Tb.fns
    rw [(df_mem hi).2]
    rfl
  have bn : ∀ i, i < tb.defs.length → (tb.df i).ds.isEmpty = true → Binds K (fdAt K (tb.fa K i)) (tb.pst i) [] := fun i hi hd => by
    obtain ⟨m, _⟩ := df_mem hi
    obtain ⟨F, D⟩ := hdef _ m
    have hdv : (tb.df i).dvs K = [] := by unfold Df.dvs; rw [hd]; rfl
    rw [hdv] at F
    exact F.bindsN ((B _ m).1 (List.isEmpty_iff.mp hd))
  have ctok : ∀ d, CtOk K mg (tb.cl K) tb.G tb.fns (tb.fa K) (fun i => fdAt K (tb.fa K i)) tb.pst (tb.ct d) := fun d => by
    refine ⟨rfl, fun x hx => PySem.W.mg_none_of X Gn (eqO_ok (List.all_eq_true.mp cfree x hx)), fun x u hu => ⟨hu, ?_⟩, fun x s hs => ?_, fun x cs hs => ?_⟩
    · have hc : okGlo K (x, u) = true := List.all_eq_true.mp cglo _ (lookup_mem' hu)
      unfold okGlo at hc
      split at hc
      · rename_i v hv
        have hv : PySem.W.nsIn K mainGlobals x = some (some v) := hv
        exact ⟨vOf v, v, PySem.W.mg_of X Gn hv, (chkT_ok (cl := tb.cl K) (F := fun _ => none) (cs := []) 9 hc).1, fun F cs => (chkT_ok 9 hc).2⟩
      · cases hc
    · have m := lookup_mem' hs
      obtain ⟨w1, w2⟩ := ba (List.all_eq_true.mp wfns _ m)
      obtain ⟨w2, w3⟩ := ba w2
      have w1 := of_decide_eq_true w1
      have w2 : tb.pst s.f = s.ps := of_decide_eq_true w2
      have w3 := dsEq_eq w3
      obtain ⟨md, _⟩ := df_mem w1
      obtain ⟨F, D⟩ := hdef _ md
      refine ⟨hsome _ w1, w2, PySem.W.mg_of X Gn (eqO_ok (List.all_eq_true.mp cfns _ m)), fun n dts hw => ?_⟩
      rw [← w2, ← w3] at hw
      rw [← w2]
      exact dfl_ok F D (B _ md) hw
    · have m := lookup_mem' hs
      obtain ⟨w1, w2⟩ := ba (List.all_eq_true.mp wcls _ m)
      obtain ⟨w2, w3⟩ := ba w2
      obtain ⟨w3, w4⟩ := ba w3
      have w1 := of_decide_eq_true w1
      have w2 : tb.pst cs.2.f = cs.2.ps := of_decide_eq_true w2
      have w3 := dsEq_eq w3
      have w4 : 0 < cs.2.ps.length := of_decide_eq_true w4
      obtain ⟨k1, k2⟩ := ba (List.all_eq_true.mp ccls _ m)
      obtain ⟨k2, k3⟩ := ba k2
      obtain ⟨md, _⟩ := df_mem w1
      obtain ⟨F, D⟩ := hdef _ md
      have k3 : ma K (tb.cl K cs.1) "__init__" = tb.fa K cs.2.f := of_decide_eq_true k3
      refine ⟨PySem.W.mg_of X Gn (eqO_ok k1), hsome _ w1, w2, k3 ▸ He.mkr_ok k2, fun n dts hw => ?_⟩
      have hw2 : withDfl cs.2.ps cs.2.ds (n + 1) = some dts := by
        unfold withDfl at hw ⊢
        rw [List.length_drop] at hw
        split at hw
        · rename_i hc
          rw [if_pos (by omega)]
          rw [← hw]
          congr 3
          omega
        · cases hw
      rw [← w2, ← w3] at hw2
      rw [← w2]
      exact dfl_ok F D (B _ md) hw2
  refine ⟨fun i F hF => ?_, ⟨fun c hc => ?_, fun c hc => ?_, fun c d hc hd => ?_, fun c hc n hn => ?_, fun c hc n hn => ?_⟩, fun c f hf => ?_, fun c m f hm => ?_, fun i n ks pm ds hk => ?_, fun c m f hm => ?_⟩
  · unfold Tb.fns at hF
    cases hd : tb.defs[i]? with
    | none => rw [hd] at hF; cases hF
    | some d =>
      rw [hd] at hF
      cases hF
      have hm := List.mem_of_getElem? hd
      obtain ⟨F, D⟩ := hdef d hm
      have ei : tb.df i = d := by unfold Tb.df; rw [hd]; rfl
      refine ⟨d.nm, d.qual, defArgs d.st, defBody d.st, defScope d.st, d.dvs K, [], tb.ct d, 60, ?_, ?_, ?_, rfl, ctok d⟩
      · show FunD K _ _ _ _ _ _ _ (plAd K (tb.df i).pl) (fdAt K (plAd K (tb.df i).pl))
        rw [ei]; exact F
      · show FnScope d.N (tb.df i).ps _
        rw [ei]; exact S d hm
      · show (⟨d.N.length, d.ps.length, _⟩ : Fn) = ⟨d.N.length, (tb.df i).ps.length, _⟩
        rw [ei]
  · exact He.cls_ok (ba (List.all_eq_true.mp ccn _ (cn_mem (of_decide_eq_true hc)))).1
  · obtain ⟨_, k⟩ := ba (List.all_eq_true.mp ccn _ (cn_mem (of_decide_eq_true hc)))
    obtain ⟨k, _⟩ := ba k
    obtain ⟨k1, k⟩ := ba k
    obtain ⟨k2, k⟩ := ba k
    obtain ⟨k3, k4⟩ := ba k
    exact ⟨eqO_ok k1, eqO_ok k2, of_decide_eq_true k3, of_decide_eq_true k4⟩
  · have k1 := List.all_eq_true.mp ckit c (List.mem_range.mpr (of_decide_eq_true hc))
    exact of_decide_eq_true (List.all_eq_true.mp k1 d (List.mem_range.mpr (of_decide_eq_true hd)))
  · obtain ⟨_, k⟩ := ba (List.all_eq_true.mp ccn _ (cn_mem (of_decide_eq_true hc)))
    obtain ⟨_, k⟩ := ba k
    exact of_decide_eq_true (List.all_eq_true.mp (ba k).1 n hn)
  · obtain ⟨_, k⟩ := ba (List.all_eq_true.mp ccn _ (cn_mem (of_decide_eq_true hc)))
    obtain ⟨_, k⟩ := ba k
    exact of_decide_eq_true (List.all_eq_true.mp (ba k).2 n hn)
  · obtain ⟨p, hp, ep⟩ := List.any_eq_true.mp hf
    have ep := of_decide_eq_true ep
    subst ep
    exact ⟨List.all_eq_true.mp wfld _ hp, eqO_ok (List.all_eq_true.mp cfld _ hp)⟩
  · have hp := lookup_mem' hm
    obtain ⟨w1, w2⟩ := ba (List.all_eq_true.mp wmeth _ hp)
    obtain ⟨w2, w3⟩ := ba w2
    obtain ⟨k1, k2⟩ := ba (List.all_eq_true.mp cmeth _ hp)
    obtain ⟨k2, k3⟩ := ba k2
    exact ⟨w1, hsome _ (of_decide_eq_true w2), ⟨eqO_ok k1, k2, k3⟩, bn _ (of_decide_eq_true w2) w3⟩
  · have hk : (tb.kwT.lookup (i, n, ks)).map (fun pm => (pm, (tb.df i).ds)) = some (pm, ds) := hk
    cases hl : tb.kwT.lookup (i, n, ks) with
    | none => rw [hl] at hk; cases hk
    | some pl =>
      rw [hl] at hk
      cases hk
      obtain ⟨w1, w2⟩ := KW _ (lookup_mem' hl)
      obtain ⟨md, _⟩ := df_mem w1
      obtain ⟨F, D⟩ := hdef _ md
      exact kw_ok F D w2
  · have hp := lookup_mem' hm
    obtain ⟨w1, w2⟩ := ba (List.all_eq_true.mp wprop _ hp)
    obtain ⟨w2, w3⟩ := ba w2
    have k := List.all_eq_true.mp cprop _ hp
    unfold okProp at k
    obtain ⟨k1, k⟩ := ba k
    obtain ⟨k2, k⟩ := ba k
    obtain ⟨k3, k4⟩ := ba k
    refine ⟨w1, hsome _ (of_decide_eq_true w2), ma K (tb.cl K c) m, ⟨eqO_ok k1, eqO_ok k2, of_decide_eq_true k3, ?_⟩, bn _ (of_decide_eq_true w2) w3⟩
    split at k4
    · rename_i g rest hr
      have := of_decide_eq_true k4
      subst this
      exact ⟨rest, hr⟩
    · cases k4

/-! ### the hook -/
abbrev Tb.AlS : Type := Bool × List Tb.FnW
def Tb.obs (tb : Tb) (n : Nat) (g : Addr → Option Obj) : Tb.AlS := (tb.chk (He.frG g (He.asD g n)), tb.defs.map fun d => Tb.fnW (He.frG g (He.asD g n)) d.pl)
def Tb.hook (tb : Tb) (n : Nat) : PySem.W.Hook where
  α := Tb.AlS
  obs := fun s => tb.obs n s.heap.get?
  val := fun _ => (true, tb.defs.map Df.val)
  says := fun _ h => ∃ K : PySem.W.Frag, K.In h ∧ tb.chk K = true ∧ tb.defs.map (fun d => Tb.fnW K d.pl) = tb.defs.map Df.val
  of := fun _ _ e => ⟨_, He.frG_in, congrArg Prod.fst e, congrArg Prod.snd e⟩
  keeps := fun _ _ _ ⟨K, hK, c⟩ k => ⟨K, PySem.W.Frag.In.keeps hK k, c⟩
theorem Tb.obs_eq {n : Nat} {g : Addr → Option Obj} {s : Shared} (h : ∀ a, g a = s.heap.get? a) : tb.obs n g = (tb.hook n).obs s := by
  have e : g = s.heap.get? := funext h
  rw [e] <;> rfl
end
end Sv
end
section
set_option linter.all false
set_option maxRecDepth 100000
set_option maxHeartbeats 4000000
/-! SvEnd: from the interpreter's answer to the law. -/
namespace Sv
open PySem PySem.Spec PyProof.Rows L2
section
variable {tb : Tb}
theorem no_ex {P : Program} {w : World} {K : PySem.W.Frag} {mg : Str → Option Value} {base : Heap} {k : Nat} {f : Addr} {fd : FuncData} {ps : List Str} {sp : Sp} (F : FnOk P w K mg base (CX P w) k f fd ps sp) :
    FnOk P w K mg base CX0 k f fd ps (fun vs H Q _ => sp vs H Q fun _ _ _ => False) := by
  refine ⟨fun vs H Q E h => F.len vs H Q _ h, fun A outer s H args us vs Q E hr e0 hb r hsp => codeAny_mono (F.run A outer s H args us vs Q _ hr e0 hb r hsp) fun res s' hq => ?_⟩
  cases res with
  | ok fl => cases fl <;> exact hq
  | error e =>
    obtain ⟨a, B, H', cls, d, _, _, _, _, _, _, _, h⟩ := hq
    exact h.elim
theorem walk_sv {l : PySem.W.OpenLaw} {q : Program} {loose : List Str} {XP : (Str → Option Value) → Heap → Prop} {d : DefRec} {n kk i : Nat} {x : Str} (hn : l.most = some n) (hn2 : n ≤ sizeLine) (hdf : d.params.defaults = []) (hr : Room (2 * kk) callerA)
    (wf : tb.wf = true) (B : ∀ d ∈ tb.defs, BindOk d) (S : ∀ d ∈ tb.defs, FnScope d.N d.ps (defScope d.st)) (KW : tb.KwsOk)
    (hi : i < tb.defs.length) (hpl : (tb.df i).pl = .glo d.name) (hps : (tb.df i).ps = [x]) (hds : (tb.df i).ds = []) (hfn : tb.fnsT.lookup d.name = some ⟨i, [x], []⟩)
    (hlaw : ∀ ns : List Int, ns.length ≤ n → run tb.G tb.fns kk i [.scr ns] [] = .ok (.val (.bl true)) []) :
    PySem.W.WalkO q loose XP (tb.hook 6).says l.row.toRowW d [] (fun f vs => PySem.call f vs) := by
  refine L2.walk_ofE (l := l) (n := n) (k := 2 * kk) (x := x) (CX := L2.CX0) hn hn2 hdf hr ?_ (fun _ _ _ _ z => z)
  intro w mg fa h Y G hmg
  obtain ⟨K, KX, c, e⟩ := Y
  have p := pf_of KX G c e wf B S KW
  have hF : tb.fns i = some ⟨(tb.df i).N.length, (tb.df i).ps.length, cmpSs 60 (tb.ct (tb.df i)) (defBody (tb.df i).st)⟩ := by
    unfold Tb.fns
    rw [(df_mem hi).2]
    rfl
  have FN := no_ex (all_fn (P := l.prog) (w := w) (base := h) (fun k => set_F) p kk i _ hF)
  have c0 := c
  unfold Tb.chk at c
  obtain ⟨_, c⟩ := He.ba c
  obtain ⟨_, c⟩ := He.ba c
  obtain ⟨cfns, c⟩ := He.ba c
  obtain ⟨_, c⟩ := He.ba c
  obtain ⟨_, c⟩ := He.ba c
  obtain ⟨_, c⟩ := He.ba c
  obtain ⟨_, c⟩ := He.ba c
  obtain ⟨_, c⟩ := He.ba c
  obtain ⟨_, cdef⟩ := He.ba c
  have hm := PySem.W.mg_of KX G (He.eqO_ok (List.all_eq_true.mp cfns _ (lookup_mem' hfn)))
  have efa : fa = tb.fa K i := by
    have := hmg.symm.trans hm
    injection this with z
    injection z
  subst efa
  obtain ⟨md, _⟩ := df_mem hi
  obtain ⟨F, D⟩ := df_fun (List.map_inj_left.mp e _ md) (List.all_eq_true.mp cdef _ md)
  have hdv : (tb.df i).dvs K = [] := by unfold Df.dvs; rw [hds]; rfl
  rw [hdv] at F
  have b := FunD.bindsA (ps := (tb.df i).ps) F ((B _ md).1 hds)
  rw [hps] at b
  have hp1 : tb.pst i = [x] := hps
  refine ⟨K, fdAt K (tb.fa K i), fun vs H Q _ => spOf K (tb.cl K) (run tb.G tb.fns kk i) vs H Q fun _ _ _ => False, KX, fun s v => b s [v] rfl, fun H a ns hl ho hS => ?_, fun base KB GB => ?_⟩
  · refine ⟨H, [], [], [.scr ns], ⟨fun a o z => z, rfl, List.nodup_nil, fun n c a z => by simp at z⟩, .cons (.scr ns hS) .nil, ?_⟩
    · rw [hlaw ns hl]
      intro v F' H' cs' e r dv
      cases dv
      rfl
  · have := no_ex (all_fn (P := l.prog) (w := w) (base := base) (fun k => set_F) (pf_of KX G c0 e wf B S KW) kk i _ hF)
    rw [hp1] at this
    exact this
end
end Sv
end
section
set_option linter.all false
set_option maxRecDepth 100000
set_option maxHeartbeats 4000000
/-! SvLib: how the interpreter runs, by cases. Plain Lean. -/
namespace Sv
open PySem L2

/-- a def's body, then the way out -/
def outC (L : Nat) : Rs (Fl × Slt) → Rs R
  | .no => .no
  | .ok (.rt r, _) st1 => leave L r st1
  | .ok (.nx, _) st1 => leave L (.val .non) st1
  | .ok (.bk, _) _ => .no
  | .ok (.ct, _) _ => .no
  | .ex x st1 => leaveX L x st1
theorem runB_out (E : Ev) (F : Fn) (as : List T) (st : Stor) : runB E F as st = if as.length = F.ps then outC st.length (evS E F.body (as.map some ++ List.replicate (F.n - as.length) none) st) else .no := by
  unfold runB
  split
  · generalize evS E F.body (as.map some ++ List.replicate (F.n - as.length) none) st = r
    cases r with
    | no => rfl
    | ex => rfl
    | ok f st1 => obtain ⟨f, sl⟩ := f; cases f <;> rfl
  · rfl
section
variable {α β : Type} {E : Ev}
theorem bind_ok (a : α) (st : Stor) (k : α → Stor → Rs β) : (Rs.ok a st).bind k = k a st := rfl
theorem ofO_some (a : α) (st : Stor) : ofO st (some a) = .ok a st := rfl
theorem calm_ok (a : α) (st : Stor) : (Rs.ok a st).calm = .ok a st := rfl
theorem fz_val (t : T) : (R.val t).fz = t := rfl
theorem fz_newL (xs : List T) : (R.new (.lst xs)).fz = .lst xs := rfl
theorem fz_newD (xs : List (Key × T)) : (R.new (.dic xs)).fz = .dic xs := rfl
theorem fz_newI (c : Nat) (xs : List (Str × T)) : (R.new (.ins c xs)).fz = .ins c xs := rfl
theorem leave_same (r : R) (st : Stor) : leave st.length r st = .ok r st := by unfold leave; rw [if_pos rfl]

/-! ### values as data -/
theorem mapO_map {γ : Type} {f : β → Option γ} {g : α → β} {h : α → γ} : ∀ (l : List α), (∀ a ∈ l, f (g a) = some (h a)) → mapO f (l.map g) = some (l.map h)
  | [], _ => rfl
  | a :: l, hl => by
    simp only [List.map_cons, mapO, hl a (List.mem_cons_self ..), mapO_map l fun b hb => hl b (List.mem_cons_of_mem _ hb)]
/-- how a type's values stand as trees: depth d -/
class Enc (α : Type) where
  enc : α → T
  dat : α → PyData
  dep : Nat
  rd_ok : ∀ (st : Stor) (n : Nat) (a : α), rdD st (n + dep) (enc a) = some (dat a)
  eq_ok : ∀ a b, PyData.eqv (dat a) (dat b) = true ↔ a = b
  pure_ok : ∀ (n : Nat) (a : α), clB (n + dep) (enc a) = true
open Enc
instance : Enc Str := ⟨.str, .str, 1, fun _ _ _ => rfl, fun a b => by simp [PyData.eqv], fun _ _ => rfl⟩
instance : Enc Int := ⟨.int, .int, 1, fun _ _ _ => rfl, fun a b => by simp [PyData.eqv], fun _ _ => rfl⟩
instance : Enc Bool := ⟨.bl, .bool, 1, fun _ _ _ => rfl, fun a b => by simp [PyData.eqv], fun _ _ => rfl⟩
theorem eqvAll_map {α : Type} [Enc α] : ∀ (a b : List α), PyData.eqvAll (a.map dat) (b.map dat) = true ↔ a = b
  | [], [] => by simp [PyData.eqvAll]
  | [], _ :: _ => by simp [PyData.eqvAll]
  | _ :: _, [] => by simp [PyData.eqvAll]
  | x :: a, y :: b => by
    simp only [List.map_cons, PyData.eqvAll, Bool.and_eq_true, eq_ok, eqvAll_map a b, List.cons.injEq]
/-- tuples and lists of one type -/
structure Tup (α : Type) where
  l : List α
  deriving DecidableEq
structure Lst (α : Type) where
  l : List α
  deriving DecidableEq
instance {α : Type} [Enc α] : Enc (Tup α) where
  enc a := .tup (a.l.map enc)
  dat a := .tuple (a.l.map dat)
  dep := dep α + 1
  rd_ok := fun st n a => by
    show (mapO (rdD st (n + dep α)) (a.l.map enc)).map PyData.tuple = _
    rw [mapO_map (f := rdD st (n + dep α)) (h := dat) a.l fun x _ => rd_ok st n x]
    rfl
  eq_ok := fun a b => by
    cases a; cases b
    simp only [PyData.eqv, eqvAll_map, Tup.mk.injEq]
  pure_ok := fun n a => by
    show (a.l.map enc).all (clB (n + dep α)) = true
    rw [List.all_map, List.all_eq_true]
    exact fun x _ => pure_ok n x
instance {α : Type} [Enc α] : Enc (Lst α) where
  enc a := .lst (a.l.map enc)
  dat a := .list (a.l.map dat)
  dep := dep α + 1
  rd_ok := fun st n a => by
    show (mapO (rdD st (n + dep α)) (a.l.map enc)).map PyData.list = _
    rw [mapO_map (f := rdD st (n + dep α)) (h := dat) a.l fun x _ => rd_ok st n x]
    rfl
  eq_ok := fun a b => by
    cases a; cases b
    simp only [PyData.eqv, eqvAll_map, Lst.mk.injEq]
  pure_ok := fun n a => by
    show (a.l.map enc).all (clB (n + dep α)) = true
    rw [List.all_map, List.all_eq_true]
    exact fun x _ => pure_ok n x
/-- pairs -/
instance {α β : Type} [Enc α] [Enc β] : Enc (α × β) where
  enc p := .tup [enc p.1, enc p.2]
  dat p := .tuple [dat p.1, dat p.2]
  dep := dep α + dep β + 1
  rd_ok := fun st n p => by
    show (mapO (rdD st (n + (dep α + dep β))) [enc p.1, enc p.2]).map PyData.tuple = _
    have h1 := rd_ok st (n + dep β) p.1
    have h2 := rd_ok st (n + dep α) p.2
    rw [show n + dep β + dep α = n + (dep α + dep β) by omega] at h1
    rw [show n + dep α + dep β = n + (dep α + dep β) by omega] at h2
    simp only [mapO, h1, h2, Option.map_some]
  eq_ok := fun a b => by
    obtain ⟨a1, a2⟩ := a
    obtain ⟨b1, b2⟩ := b
    simp only [PyData.eqv, PyData.eqvAll, Bool.and_true, Bool.and_eq_true, eq_ok, Prod.mk.injEq]
  pure_ok := fun n p => by
    show [enc p.1, enc p.2].all (clB (n + (dep α + dep β))) = true
    have h1 := pure_ok (n + dep β) p.1
    have h2 := pure_ok (n + dep α) p.2
    rw [show n + dep β + dep α = n + (dep α + dep β) by omega] at h1
    rw [show n + dep α + dep β = n + (dep α + dep β) by omega] at h2
    simp only [List.all_cons, List.all_nil, h1, h2, Bool.and_self]
section
variable {α : Type} [Enc α] [DecidableEq α]
theorem rd20 (h : dep α ≤ 20 := by decide) (st : Stor) (a : α) : rdD st 20 (enc a) = some (dat a) := by
  have := rd_ok st (20 - dep α) a
  rwa [show 20 - dep α + dep α = 20 by omega] at this
theorem pureE (h : dep α ≤ 30 := by decide) (a : α) : pureB (enc a) = true := by
  have := pure_ok (30 - dep α) a
  rwa [show 30 - dep α + dep α = 30 by omega] at this
theorem eqT_enc (h : dep α ≤ 20 := by decide) (st : Stor) (a b : α) : eqT st (enc a) (enc b) = some (decide (a = b)) := by
  have key : (match rd st (enc a), rd st (enc b) with | some d, some e => some (PyData.eqv d e) | _, _ => none) = some (decide (a = b)) := by
    rw [show rd st (enc a) = some (dat a) from rd20 h st a, show rd st (enc b) = some (dat b) from rd20 h st b]
    show some (PyData.eqv (dat a) (dat b)) = _
    congr 1
    rw [Bool.eq_iff_iff, eq_ok, decide_eq_true_eq]
  rw [← key]
  unfold eqT
  split
  · rename_i x y h1 h2
    rw [h1, h2]
    show _ = some (x == y)
    congr 1
  · rename_i x y h1 h2
    rw [h1, h2]
    show _ = some (x == y)
    congr 1
  · rename_i x y h1 h2
    rw [h1, h2]
    show _ = some (x == y)
    congr 1
  · rfl
theorem inT_enc (h : dep α ≤ 20 := by decide) (st : Stor) (x : α) (l : List α) : inT st (enc x) (l.map enc) = some (decide (x ∈ l)) := by
  unfold inT
  rw [show rd st (enc x) = some (dat x) from rd20 h st x, mapO_map (f := rdD st 20) (h := dat) l fun a _ => rd20 h st a]
  show some _ = _
  congr 1
  rw [Bool.eq_iff_iff, List.any_eq_true, decide_eq_true_eq]
  constructor
  · rintro ⟨d, hd, e⟩
    obtain ⟨y, hy, rfl⟩ := List.mem_map.mp hd
    rw [(eq_ok y x).mp e] at hy
    exact hy
  · intro hx
    exact ⟨dat x, List.mem_map.mpr ⟨x, hx, rfl⟩, (eq_ok x x).mpr rfl⟩
end
/-! the forms that are met -/
abbrev tS (l : List Str) : T := .tup (l.map .str)
abbrev lS (l : List Str) : T := .lst (l.map .str)
theorem eq_tS (st : Stor) (a b : List Str) : eqT st (.tup (a.map .str)) (.tup (b.map .str)) = some (decide (a = b)) := by
  have := eqT_enc (by decide) st (⟨a⟩ : Tup Str) ⟨b⟩
  rw [show decide ((⟨a⟩ : Tup Str) = ⟨b⟩) = decide (a = b) by simp] at this
  exact this
theorem eq_lS (st : Stor) (a b : List Str) : eqT st (.lst (a.map .str)) (.lst (b.map .str)) = some (decide (a = b)) := by
  have := eqT_enc (by decide) st (⟨a⟩ : Lst Str) ⟨b⟩
  rw [show decide ((⟨a⟩ : Lst Str) = ⟨b⟩) = decide (a = b) by simp] at this
  exact this
theorem Tup.map_mk {α : Type} (f : Tup α → T) (l : List (List α)) : (l.map Tup.mk).map f = l.map fun x => f ⟨x⟩ := by rw [List.map_map]; rfl
theorem Tup.inj_map {α : Type} : ∀ {a b : List (List α)}, a.map Tup.mk = b.map Tup.mk → a = b
  | [], [], _ => rfl
  | [], _ :: _, h => by simp at h
  | _ :: _, [], h => by simp at h
  | x :: a, y :: b, h => by
    simp only [List.map_cons, List.cons.injEq, Tup.mk.injEq] at h
    rw [h.1, Tup.inj_map h.2]
theorem eq_lTS (st : Stor) (a b : List (List Str)) : eqT st (.lst (a.map tS)) (.lst (b.map tS)) = some (decide (a = b)) := by
  have := eqT_enc (by decide) st (⟨a.map Tup.mk⟩ : Lst (Tup Str)) ⟨b.map Tup.mk⟩
  rw [show decide ((⟨a.map Tup.mk⟩ : Lst (Tup Str)) = ⟨b.map Tup.mk⟩) = decide (a = b) from decide_eq_decide.mpr ⟨fun h => Tup.inj_map (Lst.mk.inj h), fun h => by rw [h]⟩] at this
  rw [← this]
  show eqT st _ _ = eqT st (.lst ((a.map Tup.mk).map _)) (.lst ((b.map Tup.mk).map _))
  rw [Tup.map_mk, Tup.map_mk]
  rfl
theorem eq_tTS (st : Stor) (a b : List (List Str)) : eqT st (.tup (a.map tS)) (.tup (b.map tS)) = some (decide (a = b)) := by
  have := eqT_enc (by decide) st (⟨a.map Tup.mk⟩ : Tup (Tup Str)) ⟨b.map Tup.mk⟩
  rw [show decide ((⟨a.map Tup.mk⟩ : Tup (Tup Str)) = ⟨b.map Tup.mk⟩) = decide (a = b) from decide_eq_decide.mpr ⟨fun h => Tup.inj_map (Tup.mk.inj h), fun h => by rw [h]⟩] at this
  rw [← this]
  show eqT st _ _ = eqT st (.tup ((a.map Tup.mk).map _)) (.tup ((b.map Tup.mk).map _))
  rw [Tup.map_mk, Tup.map_mk]
  rfl
theorem eq_str (st : Stor) (a b : Str) : eqT st (.str a) (.str b) = some (decide (a = b)) := rfl
theorem eq_int (st : Stor) (a b : Int) : eqT st (.int a) (.int b) = some (decide (a = b)) := rfl
theorem eq_bl (st : Stor) (a b : Bool) : eqT st (.bl a) (.bl b) = some (decide (a = b)) := rfl
theorem in_S (st : Stor) (x : Str) (l : List Str) : inT st (.str x) (l.map .str) = some (decide (x ∈ l)) := inT_enc (by decide) st x l
theorem in_TS (st : Stor) (x : List Str) (l : List (List Str)) : inT st (tS x) (l.map tS) = some (decide (x ∈ l)) := by
  have := inT_enc (by decide) st (⟨x⟩ : Tup Str) (l.map Tup.mk)
  rw [show decide ((⟨x⟩ : Tup Str) ∈ l.map Tup.mk) = decide (x ∈ l) from decide_eq_decide.mpr ⟨fun h => by
    obtain ⟨y, hy, e⟩ := List.mem_map.mp h
    cases e; exact hy, fun h => List.mem_map.mpr ⟨x, h, rfl⟩⟩, Tup.map_mk] at this
  exact this
theorem pure_S (x : Str) : pureB (.str x) = true := rfl
theorem pure_tS (l : List Str) : pureB (.tup (l.map .str)) = true := pureE (by decide) (⟨l⟩ : Tup Str)
theorem pure_lS (l : List Str) : pureB (.lst (l.map .str)) = true := pureE (by decide) (⟨l⟩ : Lst Str)
theorem pure_lTS (l : List (List Str)) : pureB (.lst (l.map tS)) = true := by
  have := pureE (by decide) (⟨l.map Tup.mk⟩ : Lst (Tup Str))
  rw [show Enc.enc (⟨l.map Tup.mk⟩ : Lst (Tup Str)) = .lst (l.map tS) by show T.lst _ = _; rw [Tup.map_mk]; rfl] at this
  exact this
theorem pure_tTS (l : List (List Str)) : pureB (.tup (l.map tS)) = true := by
  have := pureE (by decide) (⟨l.map Tup.mk⟩ : Tup (Tup Str))
  rw [show Enc.enc (⟨l.map Tup.mk⟩ : Tup (Tup Str)) = .tup (l.map tS) by show T.tup _ = _; rw [Tup.map_mk]; rfl] at this
  exact this
theorem strsOf_map : ∀ l : List Str, strsOf (l.map .str) = some l
  | [] => rfl
  | x :: l => by simp only [List.map_cons, strsOf, strsOf_map l, Option.map_some]
theorem boolsOf_map : ∀ l : List Bool, boolsOf (l.map .bl) = some l
  | [] => rfl
  | x :: l => by simp only [List.map_cons, boolsOf, boolsOf_map l, Option.map_some]

/-! ### loops -/
theorem lcFix_eq {turn : T → Stor → Rs (Option T)} {st : Stor} {τ : α → T} {g : α → Option T} : ∀ (l : List α) (acc : List T), (∀ a ∈ l, turn (τ a) st = .ok (g a) st) → acc.length + l.length ≤ 16777216 → lcFix turn (l.map τ) acc st = .ok (acc ++ l.filterMap g) st
  | [], acc, _, _ => by simp [lcFix]
  | a :: l, acc, h, hl => by
    simp only [List.length_cons] at hl
    have ih := fun acc' => lcFix_eq l acc' fun b hb => h b (List.mem_cons_of_mem _ hb)
    simp only [List.map_cons, lcFix, h a (List.mem_cons_self ..), bind_ok]
    cases hg : g a with
    | none => simp only [ih acc (by omega), List.filterMap_cons, hg]
    | some y =>
      simp only
      rw [if_pos (by omega), ih (acc ++ [y]) (by simp only [List.length_append, List.length_cons, List.length_nil]; omega)]
      simp only [List.filterMap_cons, hg, List.append_assoc, List.singleton_append]
end
end Sv
end
section
set_option linter.all false
set_option maxRecDepth 100000
set_option maxHeartbeats 4000000
/-! SvRun: the interpreter's steps as rules: how a core text ends. Plain Lean. -/
namespace Sv
open PySem L2
section
variable {E : Ev} {xv yv zv : T} {sl sl1 sl2 : Slt} {st st1 st2 st3 st4 : Stor} {r r2 : R} {x y z : T} {xr yr zr : R} {xs ys : List T}

/-! ### expressions -/
theorem e_var {i : Nat} {t : T} (h : sl[i]? = some (some t)) : evE E (.var i) sl st = .ok (.val t) st := by simp only [evE, h]
theorem e_lit {t : T} : evE E (.lit t) sl st = .ok (.val t) st := rfl
theorem e_glo {g : Str} {t : T} (h : E.G.glo g = some t) : evE E (.glo g) sl st = .ok (.val t) st := by simp only [evE, h]
theorem e_bin {op : Operator} {a b : C} (ha : evE E a sl st = .ok xr st1) (qxr : xr.fz = xv) (hb : evE E b sl st1 = .ok yr st2) (qyr : yr.fz = yv) (h : binV op xv yv st2 = .ok r st3) : evE E (.bin op a b) sl st = .ok r st3 := by
  subst qxr
  subst qyr
  simp only [evE, ha, bind_ok]
  cases xr <;> simp only [hb, bind_ok] <;> exact h
theorem e_neg {a : C} {i : Int} (ha : evE E a sl st = .ok (.val (.int i)) st1) : evE E (.neg a) sl st = .ok (.val (.int (-i))) st1 := by simp only [evE, ha, bind_ok]
theorem e_nt {a : C} {b : Bool} (ha : evE E a sl st = .ok xr st1) (qxr : xr.fz = xv) (hb : truV st1 xv = some b) : evE E (.nt a) sl st = .ok (.val (.bl (!b))) st1 := by
  subst qxr
  simp only [evE, ha, bind_ok, hb, ofO_some]
theorem e_and {a b : C} {c : Bool} (ha : evE E a sl st = .ok (.val (.bl c)) st1) (hb : c = true → evE E b sl st1 = .ok (.val y) st2) (hy : c = false → y = .bl false ∧ st2 = st1) : evE E (.and a b) sl st = .ok (.val y) st2 := by
  simp only [evE, ha, bind_ok]
  cases c with
  | true => rw [if_pos rfl]; exact hb rfl
  | false => rw [if_neg (by simp), (hy rfl).1, (hy rfl).2]
theorem e_andB {a b : C} {c d : Bool} (ha : evE E a sl st = .ok (.val (.bl c)) st1) (hb : evE E b sl st1 = .ok (.val (.bl d)) st1) : evE E (.and a b) sl st = .ok (.val (.bl (c && d))) st1 := by
  simp only [evE, ha, bind_ok]
  cases c with
  | true => rw [if_pos rfl]; exact hb
  | false => rw [if_neg (by simp)] <;> rfl
theorem e_andT {a b : C} (ha : evE E a sl st = .ok (.val (.bl true)) st1) (hb : evE E b sl st1 = .ok r st2) : evE E (.and a b) sl st = .ok r st2 := by
  simp only [evE, ha, bind_ok, if_true]
  exact hb
theorem e_orB {a b : C} {c d : Bool} (ha : evE E a sl st = .ok (.val (.bl c)) st1) (hb : evE E b sl st1 = .ok (.val (.bl d)) st1) : evE E (.or a b) sl st = .ok (.val (.bl (c || d))) st1 := by
  simp only [evE, ha, bind_ok]
  cases c with
  | true => rw [if_pos rfl] <;> rfl
  | false => rw [if_neg (by simp)]; exact hb
theorem e_orL {a b : C} (ha : evE E a sl st = .ok (.new (.lst (x :: xs))) st1) : evE E (.or a b) sl st = .ok (.new (.lst (x :: xs))) st1 := by simp only [evE, ha, bind_ok, List.isEmpty_cons, Bool.false_eq_true, if_false]
theorem e_orE {a b : C} (ha : evE E a sl st = .ok (.new (.lst [])) st1) (hb : evE E b sl st1 = .ok r st2) : evE E (.or a b) sl st = .ok r st2 := by simp only [evE, ha, bind_ok, List.isEmpty_nil, if_true, hb]
theorem e_cmp {op : CmpOp} {a b : C} (ha : evE E a sl st = .ok xr st1) (qxr : xr.fz = xv) (hb : evE E b sl st1 = .ok yr st2) (qyr : yr.fz = yv) (h : cmpV E op xv yv st2 = .ok r st3) : evE E (.cmp op a b) sl st = .ok r st3 := by
  subst qxr
  subst qyr
  simp only [evE, ha, hb, bind_ok, h]
theorem e_chain {o1 o2 : CmpOp} {a b c : C} {k d : Bool} (ha : evE E a sl st = .ok xr st1) (qxr : xr.fz = xv) (hb : evE E b sl st1 = .ok yr st2) (qyr : yr.fz = yv) (h1 : cmpV E o1 xv yv st2 = .ok (.val (.bl k)) st3) (hc : evE E c sl st3 = .ok zr st3) (qzr : zr.fz = zv) (h2 : cmpV E o2 yv zv st3 = .ok (.val (.bl d)) st3) : evE E (.chain o1 o2 a b c) sl st = .ok (.val (.bl (k && d))) st3 := by
  subst qxr
  subst qyr
  subst qzr
  simp only [evE, ha, hb, bind_ok, h1]
  cases k with
  | true => rw [if_pos rfl]; simp only [hc, bind_ok]; exact h2
  | false => rw [if_neg (by simp)] <;> rfl
theorem e_ite {c a b : C} {k : Bool} (hc : evT E c sl st = .ok k st1) (h : (if k = true then evE E a sl st1 else evE E b sl st1) = .ok r st2) : evE E (.ite c a b) sl st = .ok r st2 := by simp only [evE, hc, bind_ok, h]
theorem e_tup {as : C} (h : evA E as sl st = .ok xs st1) (hl : xs.length ≤ 16777216) : evE E (.tup as) sl st = .ok (.val (.tup xs)) st1 := by simp only [evE, h, bind_ok, if_pos hl]
theorem e_lst {as : C} (h : evA E as sl st = .ok xs st1) (hl : xs.length ≤ 16777216) : evE E (.lst as) sl st = .ok (.new (.lst xs)) st1 := by simp only [evE, h, bind_ok, if_pos hl]
theorem e_dsp : evE E (.dsp .nil) sl st = .ok (.new (.dic [])) st := rfl
theorem e_call {f : Nat} {as : C} (ha : evA E as sl st = .ok xs st1) (h : callC (E.cal f) xs st1 = .ok r st2) : evE E (.call f as) sl st = .ok r st2 := by simp only [evE, ha, bind_ok, h]
theorem e_make {c f : Nat} {as : C} (ha : evA E as sl st = .ok xs st1) (h : makeC (E.cal f) c xs st1 = .ok r st2) : evE E (.make c f as) sl st = .ok r st2 := by simp only [evE, ha, bind_ok, h]
theorem e_bi {b : Bi} {as : C} (ha : evA E as sl st = .ok xs st1) (h : biV E b xs st1 = .ok r st2) : evE E (.bi b as) sl st = .ok r st2 := by simp only [evE, ha, bind_ok, h]
theorem e_isi {tys : List Ty} {e : C} {b : Bool} (ha : evE E e sl st = .ok xr st1) (qxr : xr.fz = xv) (hk : (tyKn E st1 xv && tys.all (tyOk E)) = true) (hb : (tys.any fun ty => tyIs E st1 xv ty) = b) : evE E (.isi tys e) sl st = .ok (.val (.bl b)) st1 := by
  subst qxr
  simp only [evE, ha, bind_ok, hk, if_true, hb]
theorem e_mt {m : Option Mt} {n : Str} {o as : C} (ho : evE E o sl st = .ok xr st1) (qxr : xr.fz = xv) (hr : recvOk E n m xv st1 = true) (ha : evA E as sl st1 = .ok ys st2) (h : methV E n m xv ys st2 = .ok r st3) : evE E (.mt n m o as) sl st = .ok r st3 := by
  subst qxr
  simp only [evE, ho, bind_ok, hr, if_true, ha, h]
theorem e_attr {o : C} {f : Str} (ho : evE E o sl st = .ok xr st1) (qxr : xr.fz = xv) (h : attrV E xv f st1 = .ok r st2) : evE E (.attr o f) sl st = .ok r st2 := by
  subst qxr
  simp only [evE, ho, bind_ok, h]
theorem e_idx {o i : C} (ho : evE E o sl st = .ok xr st1) (qxr : xr.fz = xv) (hi : evE E i sl st1 = .ok yr st2) (qyr : yr.fz = yv) (h : idxV E xv yv st2 = .ok r st3) : evE E (.idx o i) sl st = .ok r st3 := by
  subst qxr
  subst qyr
  simp only [evE, ho, hi, bind_ok, h]
theorem e_slc {o lo hi : C} {a b : Option Int} (ho : evE E o sl st = .ok xr st1) (qxr : xr.fz = xv) (hl : evE E lo sl st1 = .ok yr st2) (qyr : yr.fz = yv) (hh : evE E hi sl st2 = .ok zr st3) (qzr : zr.fz = zv) (ha : partOf yv = some a) (hb : partOf zv = some b) (h : slcV xv a b st3 = .ok r st4) : evE E (.slc o lo hi) sl st = .ok r st4 := by
  subst qxr
  subst qyr
  subst qzr
  simp only [evE, ho, hl, hh, bind_ok, ha, hb, h]
theorem e_cel {e : C} {c : Cell} (h : evE E e sl st = .ok (.new c) st1) : evE E (.cel e) sl st = .ok (.val (.cell st1.length)) (st1 ++ [c]) := by simp only [evE, h, bind_ok]

/-! ### arguments -/
theorem a_nil : evA E .nil sl st = .ok [] st := rfl
theorem a_cons {a q : C} (ha : evE E a sl st = .ok xr st1) (qxr : xr.fz = xv) (hr : evA E q sl st1 = .ok xs st2) : evA E (.cons a q) sl st = .ok (xv :: xs) st2 := by
  subst qxr
  simp only [evA, ha, hr, bind_ok]
theorem a_star {a q : C} (ha : evE E a sl st = .ok xr st1) (qxr : xr.fz = xv) (hs : seqOf st1 xv = some ys) (hr : evA E q sl st1 = .ok xs st2) : evA E (.star a q) sl st = .ok (ys ++ xs) st2 := by
  subst qxr
  simp only [evA, ha, hs, hr, bind_ok]

/-! ### tests -/
theorem t_nil : evT E .nil sl st = .ok true st := rfl
theorem t_nt {a : C} {b : Bool} (h : evT E a sl st = .ok b st1) : evT E (.nt a) sl st = .ok (!b) st1 := by simp only [evT, h, bind_ok]
theorem t_and {a b : C} {k d : Bool} (ha : evT E a sl st = .ok k st1) (hb : evT E b sl st1 = .ok d st1) : evT E (.and a b) sl st = .ok (k && d) st1 := by
  simp only [evT, ha, bind_ok]
  cases k with
  | true => rw [if_pos rfl]; exact hb
  | false => rw [if_neg (by simp)] <;> rfl
theorem t_and' {a b : C} {k d : Bool} (ha : evT E a sl st = .ok k st1) (hb : k = true → evT E b sl st1 = .ok d st2) (hn : k = false → d = false ∧ st2 = st1) : evT E (.and a b) sl st = .ok d st2 := by
  simp only [evT, ha, bind_ok]
  cases k with
  | true => rw [if_pos rfl]; exact hb rfl
  | false => rw [if_neg (by simp), (hn rfl).1, (hn rfl).2]
theorem t_or {a b : C} {k d : Bool} (ha : evT E a sl st = .ok k st1) (hb : evT E b sl st1 = .ok d st1) : evT E (.or a b) sl st = .ok (k || d) st1 := by
  simp only [evT, ha, bind_ok]
  cases k with
  | true => rw [if_pos rfl] <;> rfl
  | false => rw [if_neg (by simp)]; exact hb
theorem t_tru {c : C} {b : Bool} (h : evE E c sl st = .ok xr st1) (qxr : xr.fz = xv) (hb : truV st1 xv = some b) : evT E (.tru c) sl st = .ok b st1 := by
  subst qxr
  simp only [evT, h, bind_ok, hb, ofO_some]

/-! ### what is walked -/
theorem i_itr {c : C} {s : Src} (h : evE E c sl st = .ok xr st1) (qxr : xr.fz = xv) (hs : srcOf st1 xv = some s) : evI E (.itr c) sl st = .ok s st1 := by
  subst qxr
  simp only [evI, h, bind_ok, hs, ofO_some]
theorem i_rng1 {as : C} {j : Int} (h : evA E as sl st = .ok [.int j] st1) (h1 : -4611686018427387904 ≤ j) (h2 : j < 4611686018427387904) : evI E (.rng as) sl st = .ok (.fix (rangeT 0 j)) st1 := by simp only [evI, h, bind_ok, h1, h2, and_self, if_true]
theorem i_enum {as : C} (h : evA E as sl st = .ok [.lst xs] st1) : evI E (.enum as) sl st = .ok (.fix (enumT 0 xs)) st1 := by simp only [evI, h, bind_ok]
theorem i_zipL {as : C} (h : evA E as sl st = .ok [.lst xs, .lst ys] st1) : evI E (.zip as) sl st = .ok (.fix (zipT xs ys)) st1 := by simp only [evI, h, bind_ok]
theorem i_zipT {as : C} (h : evA E as sl st = .ok [.tup xs, .tup ys] st1) : evI E (.zip as) sl st = .ok (.fix (zipT xs ys)) st1 := by simp only [evI, h, bind_ok]

/-! ### comprehensions -/
def turnL (E : Ev) (elt : C) (tg : Tg) (ifs : C) (own : List Nat) (sl : Slt) (x : T) (st : Stor) : Rs (Option T) :=
  (ofO st (asgT tg x (wipeT sl own) st)).bind fun sl st => (evT E ifs sl st).calm.bind fun b st => if b then (evE E elt sl st).calm.bind fun y st => .ok (some y.fz) st else .ok none st
theorem e_lc {elt it ifs : C} {tg : Tg} {own : List Nat} {s : Src} (hi : evI E it sl st = .ok s st1) (h : lcSrc (turnL E elt tg ifs own sl) s st1 = .ok xs st2) : evE E (.lc elt tg it ifs own) sl st = .ok (.new (.lst xs)) st2 := by
  simp only [evE, hi, bind_ok]
  show (lcSrc (turnL E elt tg ifs own sl) s st1).bind _ = _
  rw [h]; rfl
theorem turn_if {elt ifs : C} {tg : Tg} {own : List Nat} {b : Bool} (ha : asgT tg x (wipeT sl own) st = some sl1) (hc : evT E ifs sl1 st = .ok b st) (he : b = true → evE E elt sl1 st = .ok yr st) (qyr : yr.fz = yv) : turnL E elt tg ifs own sl x st = .ok (if b then some yv else none) st := by
  subst qyr
  unfold turnL
  simp only [ha, ofO_some, bind_ok, hc, calm_ok]
  cases b with
  | true => simp only [if_true, he rfl, calm_ok, bind_ok]
  | false => rfl
theorem turn_all {elt : C} {tg : Tg} {own : List Nat} (ha : asgT tg x (wipeT sl own) st = some sl1) (he : evE E elt sl1 st = .ok yr st2) (qyr : yr.fz = yv) : turnL E elt tg .nil own sl x st = .ok (some yv) st2 := by
  subst qyr
  unfold turnL
  simp only [ha, ofO_some, bind_ok, t_nil, calm_ok, if_true, he]
theorem lc_src {turn : T → Stor → Rs (Option T)} : lcSrc turn (.fix xs) st = lcFix turn xs [] st := rfl
theorem lc_map {α : Type} {turn : T → Stor → Rs (Option T)} {τ : α → T} {g : α → T} {l : List α} (h : ∀ a, a ∈ l → turn (τ a) st = .ok (some (g a)) st) (hl : l.length ≤ 16777216) : lcSrc turn (.fix (l.map τ)) st = .ok (l.map g) st := by
  rw [lc_src, lcFix_eq (g := fun a => some (g a)) l [] h (by simpa using hl)]
  simp [List.filterMap_eq_map]
theorem lc_filter {α : Type} {turn : T → Stor → Rs (Option T)} {τ : α → T} {g : α → T} {p : α → Bool} {l : List α} (h : ∀ a, a ∈ l → turn (τ a) st = .ok (if p a then some (g a) else none) st) (hl : l.length ≤ 16777216) : lcSrc turn (.fix (l.map τ)) st = .ok ((l.filter p).map g) st := by
  rw [lc_src, lcFix_eq (g := fun a => if p a then some (g a) else none) l [] h (by simpa using hl)]
  congr 1
  rw [List.nil_append]
  clear h hl
  induction l with
  | nil => rfl
  | cons a l ih =>
    rw [List.filterMap_cons, List.filter_cons]
    cases p a <;> simp [ih]
/-! ### two fors -/
def turn2 (E : Ev) (elt : C) (tg : Tg) (ifs : C) (tg1 : Tg) (it1 ifs1 : C) (own own1 : List Nat) (sl : Slt) (x : T) (acc : List T) (st : Stor) : Rs (List T) :=
  (ofO st (asgT tg x (wipeT sl own) st)).bind fun sl1 st => (evT E ifs sl1 st).calm.bind fun b st => if b then
        (evI E it1 sl1 st).calm.bind fun s1 st => match s1 with
          | .fix ys => lcFix (turnL E elt tg1 ifs1 own1 sl1) ys acc st
          | .cell _ => .no
        else .ok acc st
theorem e_lc2 {elt it ifs it1 ifs1 : C} {tg tg1 : Tg} {own own1 : List Nat} (hi : evI E it sl st = .ok (.fix ys) st1) (h : lcFix2 (turn2 E elt tg ifs tg1 it1 ifs1 own own1 sl) ys [] st1 = .ok xs st2) : evE E (.lc2 elt tg it ifs tg1 it1 ifs1 own own1) sl st = .ok (.new (.lst xs)) st2 := by
  simp only [evE, hi, bind_ok]
  show (lcFix2 (turn2 E elt tg ifs tg1 it1 ifs1 own own1 sl) ys [] st1).bind _ = _
  rw [h]; rfl
theorem turn2_ok {elt it1 ifs1 : C} {tg tg1 : Tg} {own own1 : List Nat} {acc : List T} (ha : asgT tg x (wipeT sl own) st = some sl1) (hi : evI E it1 sl1 st = .ok (.fix ys) st) (h : lcFix (turnL E elt tg1 ifs1 own1 sl1) ys acc st = .ok xs st) : turn2 E elt tg .nil tg1 it1 ifs1 own own1 sl x acc st = .ok xs st := by
  unfold turn2
  simp only [ha, ofO_some, bind_ok, t_nil, calm_ok, if_true, hi, h]
theorem lc2_eq {α : Type} {turn : T → List T → Stor → Rs (List T)} {τ : α → T} {g : α → List T} : ∀ (l : List α) (acc : List T), (∀ a, a ∈ l → ∀ acc, acc.length ≤ 8000000 → turn (τ a) acc st = .ok (acc ++ g a) st) → acc.length + (l.map fun a => (g a).length).sum ≤ 8000000 → lcFix2 turn (l.map τ) acc st = .ok (acc ++ l.flatMap g) st
  | [], acc, _, _ => by simp [lcFix2]
  | a :: l, acc, h, hl => by
    simp only [List.map_cons, List.sum_cons] at hl
    simp only [List.map_cons, lcFix2, h a (List.mem_cons_self ..) acc (by omega), bind_ok]
    rw [lc2_eq l (acc ++ g a) (fun b hb => h b (List.mem_cons_of_mem _ hb)) (by rw [List.length_append]; omega), List.flatMap_cons, List.append_assoc]
/-! ### dicts -/
def turnD (E : Ev) (k v : C) (tg : Tg) (ifs : C) (own : List Nat) (sl : Slt) (x : T) (st : Stor) : Rs (Option (Key × T)) :=
  (ofO st (asgT tg x (wipeT sl own) st)).bind fun sl st => (evT E ifs sl st).calm.bind fun b st => if b then
        (evE E k sl st).calm.bind fun kx st => match keyOf kx.fz with
          | some kk => (evE E v sl st).calm.bind fun y st => .ok (some (kk, y.fz)) st
          | none => .no
        else .ok none st
theorem e_dc {k v it ifs : C} {tg : Tg} {own : List Nat} {kvs : List (Key × T)} (hi : evI E it sl st = .ok (.fix xs) st1) (h : dcFix (turnD E k v tg ifs own sl) xs [] st1 = .ok kvs st2) : evE E (.dc k v tg it ifs own) sl st = .ok (.new (.dic kvs)) st2 := by
  simp only [evE, hi, bind_ok]
  show (dcFix (turnD E k v tg ifs own sl) xs [] st1).bind _ = _
  rw [h]; rfl
theorem turnD_ok {k v : C} {tg : Tg} {own : List Nat} {kk : Key} (ha : asgT tg x (wipeT sl own) st = some sl1) (hk : evE E k sl1 st = .ok xr st) (qxr : xr.fz = xv) (hkk : keyOf xv = some kk) (hv : evE E v sl1 st = .ok yr st) (qyr : yr.fz = yv) : turnD E k v tg .nil own sl x st = .ok (some (kk, yv)) st := by
  subst qxr
  subst qyr
  unfold turnD
  simp only [ha, ofO_some, bind_ok, t_nil, calm_ok, if_true, hk, hkk, hv]
theorem putD_new {kvs : List (Key × T)} {k : Key} {v : T} (h : k ∉ kvs.map (·.1)) : putD kvs k v = kvs ++ [(k, v)] := by
  unfold putD
  rw [if_neg]
  intro h'
  obtain ⟨p, hp, e⟩ := List.any_eq_true.mp h'
  exact h (List.mem_map.mpr ⟨p, hp, of_decide_eq_true e⟩)
theorem dc_eq {α : Type} {turn : T → Stor → Rs (Option (Key × T))} {τ : α → T} {gk : α → Key} {gv : α → T} : ∀ (l : List α) (acc : List (Key × T)), (∀ a, a ∈ l → turn (τ a) st = .ok (some (gk a, gv a)) st) → (acc.map (·.1) ++ l.map gk).Nodup → acc.length + l.length ≤ 16777216 →
    dcFix turn (l.map τ) acc st = .ok (acc ++ l.map fun a => (gk a, gv a)) st
  | [], acc, _, _, _ => by simp [dcFix]
  | a :: l, acc, h, nd, hl => by
    simp only [List.length_cons] at hl
    have hn : gk a ∉ acc.map (·.1) := fun hm => by
      rw [List.nodup_append] at nd
      exact nd.2.2 _ hm _ (List.mem_cons_self ..) rfl
    simp only [List.map_cons, dcFix, h a (List.mem_cons_self ..), bind_ok]
    rw [if_pos (by omega), putD_new hn, dc_eq l (acc ++ [(gk a, gv a)]) (fun b hb => h b (List.mem_cons_of_mem _ hb)) (by simpa [List.append_assoc] using nd) (by simp only [List.length_append, List.length_cons, List.length_nil]; omega)]
    simp only [List.append_assoc, List.singleton_append]

/-! ### statements -/
theorem s_nil : evS E .nil sl st = .ok (.nx, sl) st := rfl
theorem s_nx {s q : S} {res : Rs (Fl × Slt)} (h : evS E s sl st = .ok (.nx, sl1) st1) (hr : evS E q sl1 st1 = res) : evS E (.seq s q) sl st = res := by simp only [evS, h, bind_ok, hr]
theorem s_rt {s q : S} (h : evS E s sl st = .ok (.rt r, sl1) st1) : evS E (.seq s q) sl st = .ok (.rt r, sl1) st1 := by simp only [evS, h, bind_ok]
def seqK (E : Ev) (f : Fl) (q : S) (sl : Slt) (st : Stor) : Rs (Fl × Slt) := match f with
  | .nx => evS E q sl st
  | .rt r => .ok (.rt r, sl) st
  | .bk => .ok (.bk, sl) st
  | .ct => .ok (.ct, sl) st
theorem s_seq {s q : S} {f : Fl} {res : Rs (Fl × Slt)} (h : evS E s sl st = .ok (f, sl1) st1) (h2 : seqK E f q sl1 st1 = res) : evS E (.seq s q) sl st = res := by
  simp only [evS, h, bind_ok]
  cases f <;> exact h2
theorem k_nx {q : S} {res : Rs (Fl × Slt)} (h : evS E q sl st = res) : seqK E .nx q sl st = res := h
theorem k_rt {q : S} : seqK E (.rt r) q sl st = .ok (.rt r, sl) st := rfl
theorem k_bk {q : S} : seqK E .bk q sl st = .ok (.bk, sl) st := rfl
theorem k_ct {q : S} : seqK E .ct q sl st = .ok (.ct, sl) st := rfl
def outK (L : Nat) (f : Fl) (st : Stor) : Rs R := match f with
  | .rt r => leave L r st
  | .nx => leave L (.val .non) st
  | _ => .no
theorem fn_out {c : S} {L : Nat} {f : Fl} {res : Rs R} (h : evS E c sl st = .ok (f, sl1) st1) (hl : outK L f st1 = res) : outC L (evS E c sl st) = res := by
  rw [h]
  cases f <;> exact hl
theorem o_rt {L : Nat} {res : Rs R} (h : leave L r st = res) : outK L (.rt r) st = res := h
theorem o_nx {L : Nat} {res : Rs R} (h : leave L (.val .non) st = res) : outK L .nx st = res := h
theorem s_asg {tg : Tg} {e : C} (h : evE E e sl st = .ok xr st1) (qxr : xr.fz = xv) (ha : asgT tg xv sl st1 = some sl1) : evS E (.asg tg e) sl st = .ok (.nx, sl1) st1 := by
  subst qxr
  simp only [evS, h, bind_ok, ha, ofO_some]
theorem s_subL {o i e : C} {n j : Nat} {k : Int} {ys : List T} (he : evE E e sl st = .ok xr st1) (qxr : xr.fz = xv) (ho : evE E o sl st1 = .ok (.val (.cell n)) st2) (hi : evE E i sl st2 = .ok (.val (.int k)) st3) (hn : st3[n]? = some (.lst ys)) (hj : ixN ys.length k = some j) : evS E (.sub o i e) sl st = .ok (.nx, sl) (st3.set n (.lst (ys.set j xv))) := by
  subst qxr
  simp only [evS, he, ho, hi, bind_ok, fz_val, hn, hj]
theorem s_subD {o i e : C} {n : Nat} {k : Key} {kvs : List (Key × T)} (he : evE E e sl st = .ok xr st1) (qxr : xr.fz = xv) (ho : evE E o sl st1 = .ok (.val (.cell n)) st2) (hi : evE E i sl st2 = .ok yr st3) (qyr : yr.fz = yv) (hn : st3[n]? = some (.dic kvs)) (hk : keyOf yv = some k) (hl : kvs.length < 16777216) : evS E (.sub o i e) sl st = .ok (.nx, sl) (st3.set n (.dic (putD kvs k xv))) := by
  subst qxr
  subst qyr
  simp only [evS, he, ho, hi, bind_ok, fz_val, hn, hk, if_pos hl]
theorem s_fld {o e : C} {f : Str} {n c : Nat} {fs : List (Str × T)} (he : evE E e sl st = .ok xr st1) (qxr : xr.fz = xv) (ho : evE E o sl st1 = .ok (.val (.cell n)) st2) (hn : st2[n]? = some (.ins c fs)) (hl : fs.length < 1000) (hg : E.G.fld c f = true) : evS E (.fld o f e) sl st = .ok (.nx, sl) (st2.set n (.ins c (putFT f xv fs))) := by
  subst qxr
  simp only [evS, he, ho, bind_ok, fz_val, hn, hl, hg, and_self, if_true]
theorem s_augA {i : Nat} {e : C} {a b : Int} (hi : sl[i]? = some (some (.int a))) (he : evE E e sl st = .ok (.val (.int b)) st1) : evS E (.aug i .Add e) sl st = .ok (.nx, sl.set i (some (.int (a + b)))) st1 := by simp only [evS, hi, he, bind_ok]
theorem s_ife {c : C} {a b : S} {k : Bool} {res : Rs (Fl × Slt)} (hc : evT E c sl st = .ok k st1) (h : (if k = true then evS E a sl st1 else evS E b sl st1) = res) : evS E (.ife c a b) sl st = res := by simp only [evS, hc, bind_ok, h]
theorem s_ifT {c : C} {a b : S} {k : Bool} {res : Rs (Fl × Slt)} (hc : evT E c sl st = .ok k st1) (hk : k = true) (h : evS E a sl st1 = res) : evS E (.ife c a b) sl st = res := by
  subst hk
  exact s_ife hc (by rw [if_pos rfl]; exact h)
theorem s_ifF {c : C} {a b : S} {k : Bool} {res : Rs (Fl × Slt)} (hc : evT E c sl st = .ok k st1) (hk : k = false) (h : evS E b sl st1 = res) : evS E (.ife c a b) sl st = res := by
  subst hk
  exact s_ife hc (by rw [if_neg (by simp)]; exact h)
theorem e_iteT {c a b : C} {k : Bool} (hc : evT E c sl st = .ok k st1) (hk : k = true) (h : evE E a sl st1 = .ok r st2) : evE E (.ite c a b) sl st = .ok r st2 := by
  subst hk
  exact e_ite hc (by rw [if_pos rfl]; exact h)
theorem e_iteF {c a b : C} {k : Bool} (hc : evT E c sl st = .ok k st1) (hk : k = false) (h : evE E b sl st1 = .ok r st2) : evE E (.ite c a b) sl st = .ok r st2 := by
  subst hk
  exact e_ite hc (by rw [if_neg (by simp)]; exact h)
theorem ite_t {α : Type} {k : Bool} {A B res : α} (hk : k = true) (h : A = res) : (if k = true then A else B) = res := by rw [if_pos hk]; exact h
theorem ite_f {α : Type} {k : Bool} {A B res : α} (hk : k = false) (h : B = res) : (if k = true then A else B) = res := by rw [if_neg (by rw [hk]; simp)]; exact h
theorem s_ret {e : C} (h : evE E e sl st = .ok r st1) : evS E (.ret e) sl st = .ok (.rt r, sl) st1 := by simp only [evS, h, bind_ok]
theorem s_ex {e : C} (h : evE E e sl st = .ok r st1) : evS E (.ex e) sl st = .ok (.nx, sl) st1 := by simp only [evS, h, bind_ok]
def bodyF (E : Ev) (tg : Tg) (b : S) (x : T) (sl : Slt) (st : Stor) : Rs (Fl × Slt) := (ofO st (asgT tg x sl st)).bind fun sl st => evS E b sl st
theorem s_for {tg : Tg} {it : C} {b : S} {res : Rs (Fl × Slt)} (hi : evI E it sl st = .ok (.fix xs) st1) (h : forFix (bodyF E tg b) xs sl st1 = res) : evS E (.for_ tg it b) sl st = res := by
  simp only [evS, hi, bind_ok]
  exact h
theorem body_ok {tg : Tg} {b : S} {res : Rs (Fl × Slt)} (ha : asgT tg x sl st = some sl1) (h : evS E b sl1 st = res) : bodyF E tg b x sl st = res := by
  unfold bodyF
  simp only [ha, ofO_some, bind_ok, h]
/-- a loop that goes through -/
theorem for_all {body : T → Slt → Stor → Rs (Fl × Slt)} {α : Type} {τ : α → T} (P : List α → Slt → Stor → Prop) : ∀ (l : List α) (done : List α) (sl : Slt) (st : Stor), P done sl st → (∀ d a e sl st, done ++ l = d ++ a :: e → P d sl st → ∃ sl' st', (body (τ a) sl st = .ok (.nx, sl') st' ∨ body (τ a) sl st = .ok (.ct, sl') st') ∧ P (d ++ [a]) sl' st') →
    ∃ sl' st', forFix body (l.map τ) sl st = .ok (.nx, sl') st' ∧ P (done ++ l) sl' st'
  | [], done, sl, st, h0, _ => ⟨sl, st, rfl, by rw [List.append_nil]; exact h0⟩
  | a :: l, done, sl, st, h0, step => by
    obtain ⟨sl1, st1, e, h1⟩ := step done a l sl st rfl h0
    obtain ⟨sl2, st2, e2, h2⟩ := for_all P l (done ++ [a]) sl1 st1 h1 fun d b e' sl st he hp => step d b e' sl st (by rw [← he]; simp) hp
    refine ⟨sl2, st2, ?_, by simpa using h2⟩
    rw [List.map_cons]
    unfold forFix
    rcases e with e | e <;> (rw [e]; exact e2)
/-- leaving -/
theorem fn_rt {c : S} {L : Nat} (h : evS E c sl st = .ok (.rt r, sl1) st1) (hl : leave L r st1 = .ok r2 st2) : outC L (evS E c sl st) = .ok r2 st2 := by rw [h]; exact hl
theorem fn_nx {c : S} {L : Nat} (h : evS E c sl st = .ok (.nx, sl1) st1) (hl : leave L (.val .non) st1 = .ok r2 st2) : outC L (evS E c sl st) = .ok r2 st2 := by rw [h]; exact hl
theorem leave_eq : leave st.length r st = .ok r st := leave_same r st

theorem ev_end {α : Type} {X : Rs α} {a b : α} {s t : Stor} (h : X = .ok a s) (hr : a = b) (hs : s = t) : X = .ok b t := by rw [h, hr, hs]
/-! ### calls -/
theorem takeArgs_pure : ∀ {xs : List T} {ns : List Nat}, xs.all pureB = true → takeArgs xs ns = some (xs, ns)
  | [], ns, _ => rfl
  | x :: xs, ns, h => by
    rw [List.all_cons, Bool.and_eq_true] at h
    have ih := takeArgs_pure (xs := xs) (ns := ns) h.2
    cases x <;> first | (simp only [takeArgs, h.1, if_true, ih, Option.map_some]; done) | skip
    exact absurd h.1 (by simp [pureB, clB])
theorem call_pure {cal : List T → Stor → Rs R} (hp : xs.all pureB = true) (h : cal xs [] = .ok r []) (hr : pureR r = true) : callC cal xs st = .ok r st := by
  cases st with
  | nil => exact h
  | cons c st0 =>
    unfold callC
    simp only [takeArgs_pure hp, mapO, List.all_nil, if_true, h, List.length_nil, hr, and_self, putBack]
theorem call_nil {cal : List T → Stor → Rs R} {res : Rs R} (h : cal xs [] = res) : callC cal xs [] = res := h
theorem call_cell {cal : List T → Stor → Rs R} {n : Nat} {c c' : Cell} (h0 : st[n]? = some c) (pc : pureC c = true) (hp : xs.all pureB = true) (h : cal (.cell 0 :: xs) [c] = .ok r [c']) (hr : pureR r = true) (pc' : pureC c' = true) : callC cal (.cell n :: xs) st = .ok r (st.set n c') := by
  cases st with
  | nil => simp at h0
  | cons c0 st0 =>
    unfold callC
    have e1 : takeArgs (.cell n :: xs) [] = some (.cell 0 :: xs, [n]) := by
      simp only [takeArgs, List.findIdx?_nil, List.nil_append, takeArgs_pure hp, Option.map_some, List.length_nil]
    simp only [e1, mapO, h0, List.all_cons, List.all_nil, pc, Bool.and_true, if_true, h, List.length_cons, List.length_nil, hr, pc', and_self, putBack]
theorem make_ok {cal : List T → Stor → Rs R} {c d : Nat} {fs : List (Str × T)} (hp : xs.all pureB = true) (h : cal (.cell 0 :: xs) [.ins c []] = .ok (.val .non) [.ins d fs]) (hf : (fs.all fun p => pureB p.2) = true) : makeC cal c xs st = .ok (.new (.ins d fs)) st := by
  unfold makeC
  simp only [hp, if_true, h, hf]
theorem meth_ins {m : Option Mt} {n : Str} {c f : Nat} {fs : List (Str × T)} {res : Rs R} (hf : getF fs n = none) (hm : E.G.meth c n = some f) (h : callC (E.cal f) (.ins c fs :: xs) st = res) : methV E n m (.ins c fs) xs st = res := by
  simp only [methV, hf, hm, h]
theorem recv_ins {m : Option Mt} {n : Str} {c f : Nat} {fs : List (Str × T)} (hf : getF fs n = none) (hm : E.G.meth c n = some f) : recvOk E n m (.ins c fs) st = true := by
  simp only [recvOk, hf, hm, Option.isNone_none, Option.isSome_some, Bool.and_self]
theorem attr_prop {n : Str} {c f : Nat} {fs : List (Str × T)} (hm : E.G.prop c n = some f) (h : callC (E.cal f) [.ins c fs] st = .ok r st1) : attrV E (.ins c fs) n st = .ok r st1 := by
  simp only [attrV, hm, h, calm_ok]
theorem attr_fld {n : Str} {c : Nat} {fs : List (Str × T)} {t : T} (hm : E.G.prop c n = none) (hf : getF fs n = some t) (hg : E.G.fld c n = true) : attrV E (.ins c fs) n st = .ok (.val t) st := by
  simp only [attrV, hm, hf, hg, if_true]
theorem attr_cfld {n : Str} {c m : Nat} {fs : List (Str × T)} {t : T} (hs : st[m]? = some (.ins c fs)) (hm : E.G.prop c n = none) (hf : getF fs n = some t) (hg : E.G.fld c n = true) : attrV E (.cell m) n st = .ok (.val t) st := by
  simp only [attrV, hs, hm, hf, hg, if_true]
end
end Sv
end
section
set_option linter.all false
set_option maxRecDepth 100000
set_option maxHeartbeats 4000000
/-! SvLeaf: built-ins at the values that are met. Plain Lean. -/
namespace Sv
open PySem L2
section
variable {E : Ev} {st : Stor} {x y : T} {b : Bool} {i j : Int}
theorem c_eq (h : eqT st x y = some b) : cmpV E .Eq x y st = .ok (.val (.bl b)) st := by
  show ofB st (eqT st x y) = _
  rw [h]; rfl
theorem c_ne (h : eqT st x y = some b) : cmpV E .NotEq x y st = .ok (.val (.bl (!b))) st := by
  show ofB st ((eqT st x y).map (!·)) = _
  rw [h]; rfl
theorem c_in (h : inD st x y = some b) : cmpV E .In x y st = .ok (.val (.bl b)) st := by
  show ofB st (inD st x y) = _
  rw [h]; rfl
theorem c_ni (h : inD st x y = some b) : cmpV E .NotIn x y st = .ok (.val (.bl (!b))) st := by
  show ofB st ((inD st x y).map (!·)) = _
  rw [h]; rfl
theorem c_lt : cmpV E .Lt (.int i) (.int j) st = .ok (.val (.bl (decide (i < j)))) st := rfl
theorem c_le : cmpV E .LtE (.int i) (.int j) st = .ok (.val (.bl (decide (i ≤ j)))) st := rfl
theorem c_gt : cmpV E .Gt (.int i) (.int j) st = .ok (.val (.bl (decide (j < i)))) st := rfl
theorem c_ge : cmpV E .GtE (.int i) (.int j) st = .ok (.val (.bl (decide (j ≤ i)))) st := rfl
theorem in_tS {z : Str} {l : List Str} : inD st (.str z) (.tup (l.map .str)) = some (decide (z ∈ l)) := in_S st z l
theorem in_lS {z : Str} {l : List Str} : inD st (.str z) (.lst (l.map .str)) = some (decide (z ∈ l)) := in_S st z l
theorem in_cS {n : Nat} {z : Str} {l : List Str} (h : st[n]? = some (.lst (l.map .str))) : inD st (.str z) (.cell n) = some (decide (z ∈ l)) := by
  simp only [inD, h]
  exact in_S st z l
theorem in_lTS {z : List Str} {l : List (List Str)} : inD st (.tup (z.map .str)) (.lst (l.map tS)) = some (decide (z ∈ l)) := in_TS st z l
theorem in_tTS {z : List Str} {l : List (List Str)} : inD st (.tup (z.map .str)) (.tup (l.map tS)) = some (decide (z ∈ l)) := in_TS st z l
theorem tr_bl : truV st (.bl b) = some b := rfl
theorem b_tupT {xs : List T} : biV E .tuple [.tup xs] st = .ok (.val (.tup xs)) st := rfl
theorem b_tupL {xs : List T} : biV E .tuple [.lst xs] st = .ok (.val (.tup xs)) st := rfl
theorem b_tupC {xs : List T} {n : Nat} (h : st[n]? = some (.lst xs)) : biV E .tuple [.cell n] st = .ok (.val (.tup xs)) st := by
  simp only [biV, h]
theorem b_list {xs : List T} (h : seqOf st x = some xs) : biV E .list [x] st = .ok (.new (.lst xs)) st := by
  simp only [biV, h]
theorem b_allL {l : List Bool} : biV E .all [.lst (l.map .bl)] st = .ok (.val (.bl (l.all id))) st := by
  simp only [biV, lstOf, boolsOf_map, vb]
theorem b_allM {α : Type} {l : List α} {p : α → Bool} : biV E .all [.lst (l.map fun a => .bl (p a))] st = .ok (.val (.bl (l.all p))) st := by
  have h := b_allL (E := E) (st := st) (l := l.map p)
  rw [List.map_map, List.all_map] at h
  exact h
theorem b_anyM {α : Type} {l : List α} {p : α → Bool} : biV E .any [.lst (l.map fun a => .bl (p a))] st = .ok (.val (.bl (l.any p))) st := by
  have e : (l.map fun a => T.bl (p a)) = (l.map p).map T.bl := by rw [List.map_map]; rfl
  simp only [biV, lstOf, e, boolsOf_map, vb, List.any_map]
  rfl
theorem b_sset {l : List Str} (h : seqOf st x = some (l.map .str)) (hl : l.length < 64) : biV E .sortedSet [x] st = .ok (.new (.lst ((sortS (dedupS l)).map .str))) st := by
  simp only [biV, h, strsOf_map, if_pos hl]
theorem b_sort {l : List Str} (h : lstOf st x = some (l.map .str)) (hl : l.length < 64) : biV E .sorted [x] st = .ok (.new (.lst ((sortS l).map .str))) st := by
  simp only [biV, h, strsOf_map, if_pos hl]
theorem b_lenT {xs : List T} : biV E .len [.tup xs] st = .ok (.val (.int xs.length)) st := rfl
theorem b_lenL {xs : List T} : biV E .len [.lst xs] st = .ok (.val (.int xs.length)) st := rfl
theorem b_lenC {xs : List T} {n : Nat} (h : st[n]? = some (.lst xs)) : biV E .len [.cell n] st = .ok (.val (.int xs.length)) st := by
  simp only [biV, lenV, h]
theorem b_strS {z : Str} : biV E .str [.str z] st = .ok (.val (.str z)) st := rfl
theorem b_int : biV E .int [.int i] st = .ok (.val (.int i)) st := rfl
theorem b_intB : biV E .int [.bl b] st = .ok (.val (.int (if b then 1 else 0))) st := rfl
theorem b_abs : biV E .abs [.int i] st = .ok (.val (.int (if i < 0 then -i else i))) st := rfl
theorem sq_T {xs : List T} : seqOf st (.tup xs) = some xs := rfl
theorem sq_L {xs : List T} : seqOf st (.lst xs) = some xs := rfl
theorem sq_C {xs : List T} {n : Nat} (h : st[n]? = some (.lst xs)) : seqOf st (.cell n) = some xs := by simp only [seqOf, h]
theorem sr_T {xs : List T} : srcOf st (.tup xs) = some (.fix xs) := rfl
theorem sr_L {xs : List T} : srcOf st (.lst xs) = some (.fix xs) := rfl
theorem getD_map {names : List Str} {f : Str → T} {n : Str} (h : n ∈ names) : getD (names.map fun n => ((Sum.inr n : Key), f n)) (Sum.inr n) = some (f n) := by
  unfold getD
  induction names with
  | nil => cases h
  | cons m l ih =>
    rw [List.map_cons, List.find?_cons]
    by_cases e : m = n
    · subst e; simp
    · have e2 : decide ((Sum.inr m : Key) = Sum.inr n) = false := decide_eq_false fun z => e (Sum.inr.inj z)
      rw [show (decide (((Sum.inr m : Key), f m).1 = Sum.inr n)) = false from e2]
      exact ih ((List.mem_cons.mp h).resolve_left fun z => e z.symm)
theorem ix_dic {kvs : List (Key × T)} {n : Str} {t : T} (h : getD kvs (Sum.inr n) = some t) : idxV E (.dic kvs) (.str n) st = .ok (.val t) st := by
  simp only [idxV, seqOf, dicOf, keyOf, h]
theorem ix_tup {xs : List T} {k : Int} {t : T} (h : atI xs k = some t) : idxV E (.tup xs) (.int k) st = .ok (.val t) st := by
  simp only [idxV, seqOf, h]
theorem ix_lst {xs : List T} {k : Int} {t : T} (h : atI xs k = some t) : idxV E (.lst xs) (.int k) st = .ok (.val t) st := by
  simp only [idxV, seqOf, h]
theorem ix_cel {xs : List T} {k : Int} {t : T} {n : Nat} (hn : st[n]? = some (.lst xs)) (h : atI xs k = some t) : idxV E (.cell n) (.int k) st = .ok (.val t) st := by
  simp only [idxV, seqOf, hn, h]
theorem pr_val {t : T} (h : pureB t = true) : pureR (.val t) = true := h
theorem pr_new {c : Cell} (h : pureC c = true) : pureR (.new c) = true := h
theorem gd_E {E : Ev} {c : C} {sl : Slt} {st : Stor} {res : Rs R} (h : evE E c sl st = res) : evE E c sl st = res := h
theorem gd_A {E : Ev} {c : C} {sl : Slt} {st : Stor} {res : Rs (List T)} (h : evA E c sl st = res) : evA E c sl st = res := h
theorem gd_T {E : Ev} {c : C} {sl : Slt} {st : Stor} {res : Rs Bool} (h : evT E c sl st = res) : evT E c sl st = res := h
theorem gd_I {E : Ev} {c : C} {sl : Slt} {st : Stor} {res : Rs Src} (h : evI E c sl st = res) : evI E c sl st = res := h
theorem gd_S {E : Ev} {s : S} {sl : Slt} {st : Stor} {res : Rs (Fl × Slt)} (h : evS E s sl st = res) : evS E s sl st = res := h
theorem gd_fz {r : R} {t : T} (h : r.fz = t) : r.fz = t := h
theorem gd_k {E : Ev} {f : Fl} {q : S} {sl : Slt} {st : Stor} {res : Rs (Fl × Slt)} (h : seqK E f q sl st = res) : seqK E f q sl st = res := h
theorem gd_if {α : Type} {k : Bool} {a b res : α} (h : (if k = true then a else b) = res) : (if k = true then a else b) = res := h
theorem gd_cmp {E : Ev} {op : CmpOp} {x y : T} {st : Stor} {res : Rs R} (h : cmpV E op x y st = res) : cmpV E op x y st = res := h
theorem gd_eq {st : Stor} {x y : T} {res : Option Bool} (h : eqT st x y = res) : eqT st x y = res := h
theorem gd_in {st : Stor} {x y : T} {res : Option Bool} (h : inD st x y = res) : inD st x y = res := h
theorem gd_bi {E : Ev} {b : Bi} {xs : List T} {st : Stor} {res : Rs R} (h : biV E b xs st = res) : biV E b xs st = res := h
theorem gd_src {st : Stor} {x : T} {res : Option Src} (h : srcOf st x = res) : srcOf st x = res := h
theorem gd_seq {st : Stor} {x : T} {res : Option (List T)} (h : seqOf st x = res) : seqOf st x = res := h
theorem gd_lc {turn : T → Stor → Rs (Option T)} {s : Src} {st : Stor} {res : Rs (List T)} (h : lcSrc turn s st = res) : lcSrc turn s st = res := h
theorem gd_turn {E : Ev} {elt ifs : C} {tg : Tg} {own : List Nat} {sl : Slt} {x : T} {st : Stor} {res : Rs (Option T)} (h : turnL E elt tg ifs own sl x st = res) : turnL E elt tg ifs own sl x st = res := h
theorem gd_attr {E : Ev} {x : T} {f : Str} {st : Stor} {res : Rs R} (h : attrV E x f st = res) : attrV E x f st = res := h
theorem gd_call {cal : List T → Stor → Rs R} {xs : List T} {st : Stor} {res : Rs R} (h : callC cal xs st = res) : callC cal xs st = res := h
theorem gd_pure {t : T} {b : Bool} (h : pureB t = b) : pureB t = b := h
theorem gd_all {α : Type} {l : List α} {p : α → Bool} (h : l.all p = true) : l.all p = true := h
end
end Sv
end
section
set_option linter.all false
set_option maxRecDepth 100000
set_option maxHeartbeats 4000000
/-! SvFold: loops as folds. Plain Lean. -/
namespace Sv
open PySem L2
section
variable {E : Ev} {sl sl1 sl2 : Slt} {st st1 st2 : Stor} {α σ : Type}
theorem for_foldA {body : T → Slt → Stor → Rs (Fl × Slt)} {τ : α → T} (slOf : σ → Slt) (stOf : σ → Stor) (f : σ → α → σ) : ∀ (l d : List α) (s0 : σ),
    (∀ d' a e, d ++ l = d' ++ a :: e → ∃ fl, (fl = .nx ∨ fl = .ct) ∧ body (τ a) (slOf (d'.foldl f s0)) (stOf (d'.foldl f s0)) = .ok (fl, slOf (f (d'.foldl f s0) a)) (stOf (f (d'.foldl f s0) a))) →
    forFix body (l.map τ) (slOf (d.foldl f s0)) (stOf (d.foldl f s0)) = .ok (.nx, slOf ((d ++ l).foldl f s0)) (stOf ((d ++ l).foldl f s0))
  | [], d, s0, _ => by simp [forFix]
  | a :: l, d, s0, h => by
    obtain ⟨fl, hf, e⟩ := h d a l rfl
    rw [List.map_cons]
    unfold forFix
    rw [e, bind_ok]
    have ih := for_foldA slOf stOf f l (d ++ [a]) s0 (by simpa using h)
    rw [List.foldl_append] at ih
    simp only [List.foldl_cons, List.foldl_nil] at ih
    rw [List.append_assoc] at ih
    rcases hf with rfl | rfl <;> exact ih
theorem for_fold {body : T → Slt → Stor → Rs (Fl × Slt)} {τ : α → T} {l : List α} (slOf : σ → Slt) (stOf : σ → Stor) (f : σ → α → σ) (s0 : σ) (h0 : slOf s0 = sl) (h1 : stOf s0 = st)
    (h : ∀ d a e, l = d ++ a :: e → body (τ a) (slOf (d.foldl f s0)) (stOf (d.foldl f s0)) = .ok (.nx, slOf (f (d.foldl f s0) a)) (stOf (f (d.foldl f s0) a))) :
    forFix body (l.map τ) sl st = .ok (.nx, slOf (l.foldl f s0)) (stOf (l.foldl f s0)) := by
  subst h0 h1
  exact for_foldA slOf stOf f l [] s0 fun d a e q => ⟨.nx, .inl rfl, h d a e q⟩
/-- a loop whose turns leave nothing but the loop's name -/
theorem for_pass {body : T → Slt → Stor → Rs (Fl × Slt)} {τ : α → T} {l : List α} (slOf : Option T → Slt) (o : Option T) (h0 : slOf o = sl) (h : ∀ a, a ∈ l → ∀ o, body (τ a) (slOf o) st = .ok (.nx, slOf (some (τ a))) st) :
    forFix body (l.map τ) sl st = .ok (.nx, slOf (l.foldl (fun _ a => some (τ a)) o)) st :=
  for_fold (σ := Option T) slOf (fun _ => st) (fun _ a => some (τ a)) o h0 rfl fun d a e q => h a (by rw [q]; simp) _
/-- a while by a measure -/
theorem while_run {test : Slt → Stor → Rs Bool} {body : Slt → Stor → Rs (Fl × Slt)} (slOf : σ → Slt) (stOf : σ → Stor) (c : σ → Bool) (f : σ → σ) (I : σ → Prop) (m : σ → Nat)
    (ht : ∀ s, I s → test (slOf s) (stOf s) = .ok (c s) (stOf s)) (hb : ∀ s, I s → c s = true → body (slOf s) (stOf s) = .ok (.nx, slOf (f s)) (stOf (f s)) ∧ I (f s) ∧ m (f s) < m s) :
    ∀ (n : Nat) (s : σ), I s → m s < n → ∃ s', I s' ∧ c s' = false ∧ whileN test body n (slOf s) (stOf s) = .ok (.nx, slOf s') (stOf s')
  | 0, s, _, h => by omega
  | n + 1, s, hI, hm => by
    unfold whileN
    rw [ht s hI, bind_ok]
    cases hc : c s with
    | false => exact ⟨s, hI, hc, by rw [if_neg (by simp)]⟩
    | true =>
      obtain ⟨e, hI', hm'⟩ := hb s hI hc
      obtain ⟨s', h1, h2, h3⟩ := while_run slOf stOf c f I m ht hb n (f s) hI' (by omega)
      refine ⟨s', h1, h2, ?_⟩
      rw [if_pos rfl, e, bind_ok]
      exact h3
theorem s_whl {c : C} {b : S} {res : Rs (Fl × Slt)} (h : whileN (fun sl st => evT E c sl st) (fun sl st => evS E b sl st) 100000 sl st = res) : evS E (.whl c b) sl st = res := by
  simp only [evS]
  exact h
theorem lcCell_eq {turn : T → Stor → Rs (Option T)} {n : Nat} {τ : α → T} {g : α → Option T} : ∀ (l d : List α) (acc : List T), st[n]? = some (.lst ((d ++ l).map τ)) → (∀ a, a ∈ l → turn (τ a) st = .ok (g a) st) → acc.length + l.length ≤ 16777216 → lcCell turn n l.length d.length acc st = .ok (acc ++ l.filterMap g) st
  | [], d, acc, hn, _, _ => by
    simp only [List.length_nil, lcCell, hn, List.append_nil, List.length_map, List.filterMap_nil]
    rw [if_pos (Nat.le_refl _)]
  | a :: l, d, acc, hn, h, hl => by
    simp only [List.length_cons] at hl
    have hg : ((d ++ a :: l).map τ)[d.length]? = some (τ a) := by simp
    simp only [List.length_cons, lcCell, hn, hg, h a (List.mem_cons_self ..), bind_ok]
    have ih := fun acc' => lcCell_eq l (d ++ [a]) acc' (by rw [hn]; simp) fun b hb => h b (List.mem_cons_of_mem _ hb)
    rw [show (d ++ [a]).length = d.length + 1 by simp] at ih
    cases hq : g a with
    | none => simp only [ih acc (by omega), List.filterMap_cons, hq]
    | some y =>
      simp only
      rw [if_pos (by omega), ih (acc ++ [y]) (by simp only [List.length_append, List.length_cons, List.length_nil]; omega)]
      simp only [List.filterMap_cons, hq, List.append_assoc, List.singleton_append]
theorem lcC_any {turn : T → Stor → Rs (Option T)} {n : Nat} {τ : α → T} {g : α → Option T} {l : List α} (hn : st[n]? = some (.lst (l.map τ))) (h : ∀ a, a ∈ l → turn (τ a) st = .ok (g a) st) (hl : l.length ≤ 16777216) : lcSrc turn (.cell n) st = .ok (l.filterMap g) st := by
  show lcCell turn n (lenC st n) 0 [] st = _
  have : lenC st n = l.length := by simp only [lenC, hn, List.length_map]
  rw [this]
  have := lcCell_eq (st := st) (turn := turn) (n := n) (g := g) l [] [] (by simpa using hn) h (by simpa using hl)
  simpa using this
theorem lcC_map {turn : T → Stor → Rs (Option T)} {n : Nat} {τ : α → T} {g : α → T} {l : List α} (hn : st[n]? = some (.lst (l.map τ))) (h : ∀ a, a ∈ l → turn (τ a) st = .ok (some (g a)) st) (hl : l.length ≤ 16777216) : lcSrc turn (.cell n) st = .ok (l.map g) st := by
  rw [lcC_any (g := fun a => some (g a)) hn h hl]
  simp [List.filterMap_eq_map]
theorem lcC_filter {turn : T → Stor → Rs (Option T)} {n : Nat} {τ : α → T} {g : α → T} {p : α → Bool} {l : List α} (hn : st[n]? = some (.lst (l.map τ))) (h : ∀ a, a ∈ l → turn (τ a) st = .ok (if p a then some (g a) else none) st) (hl : l.length ≤ 16777216) : lcSrc turn (.cell n) st = .ok ((l.filter p).map g) st := by
  rw [lcC_any (g := fun a => if p a then some (g a) else none) hn h hl]
  congr 1
  clear h hl hn
  induction l with
  | nil => rfl
  | cons a l ih =>
    rw [List.filterMap_cons, List.filter_cons]
    cases p a <;> simp [ih]
theorem sr_C {n : Nat} {xs : List T} (h : st[n]? = some (.lst xs)) : srcOf st (.cell n) = some (.cell n) := by simp only [srcOf, h]
theorem mt_ext {n : Nat} {xs ys : List T} {y : T} (h : st[n]? = some (.lst xs)) (hy : lstOf st y = some ys) (hl : xs.length + ys.length ≤ 16777216) : mtV E .extend (.cell n) [y] st = .ok (.val .non) (st.set n (.lst (xs ++ ys))) := by
  simp only [mtV, h, hy, if_pos hl]
theorem mt_app {n : Nat} {xs : List T} {y : T} (h : st[n]? = some (.lst xs)) (hl : xs.length < 16777216) : mtV E .append (.cell n) [y] st = .ok (.val .non) (st.set n (.lst (xs ++ [y]))) := by
  simp only [mtV, h, if_pos hl]
theorem meth_cell {n : Nat} {nm : Str} {m : Mt} {xs : List T} {res : Rs R} (h : mtV E m (.cell n) xs st = res) : methV E nm (some m) (.cell n) xs st = res := h
theorem recv_ext {n : Nat} {nm : Str} {xs : List T} (h : st[n]? = some (.lst xs)) : recvOk E nm (some .extend) (.cell n) st = true := by simp only [recvOk, mtTy, h, Option.isSome_some]
theorem recv_app {n : Nat} {nm : Str} {xs : List T} (h : st[n]? = some (.lst xs)) : recvOk E nm (some .append) (.cell n) st = true := by simp only [recvOk, mtTy, h, Option.isSome_some]
theorem recv_pop {n : Nat} {nm : Str} {xs : List T} (h : st[n]? = some (.lst xs)) : recvOk E nm (some .pop) (.cell n) st = true := by simp only [recvOk, mtTy, h, Option.isSome_some]
theorem mt_pop {n j : Nat} {xs : List T} {i : Int} {x : T} (h : st[n]? = some (.lst xs)) (hj : ixN xs.length i = some j) (hx : xs[j]? = some x) : mtV E .pop (.cell n) [.int i] st = .ok (.val x) (st.set n (.lst (xs.eraseIdx j))) := by
  simp only [mtV, h, hj, hx]
theorem e_celN {e : C} {c : Cell} {n : Nat} (h : evE E e sl st = .ok (.new c) st1) (hn : st1.length = n) (hs : st1 ++ [c] = st2) : evE E (.cel e) sl st = .ok (.val (.cell n)) st2 := by
  subst hn hs
  exact e_cel h
theorem leave_val {t : T} {L : Nat} (hp : pureB t = true) (hL : L ≤ st.length) (hc : (st.take L).all pureC = true) : leave L (.val t) st = .ok (.val t) (st.take L) := by
  unfold leave
  by_cases h : st.length = L
  · rw [if_pos h, List.take_of_length_le (by omega)]
  · rw [if_neg h, if_pos ⟨hc, hL⟩]
    simp only [hp, if_true]
theorem leave0 {t : T} (hp : pureB t = true) : leave 0 (.val t) st = .ok (.val t) [] := by
  rw [leave_val hp (Nat.zero_le _) (by simp)]
  simp
theorem leave0' {t : T} (hp : pureB t = true) : leave ([] : Stor).length (.val t) st = .ok (.val t) [] := leave0 hp
theorem leave_new0 {c : Cell} (hp : pureC c = true) : leave ([] : Stor).length (.new c) st = .ok (.new c) [] := by
  show leave 0 (.new c) st = _
  unfold leave
  by_cases h : st.length = 0
  · rw [if_pos h, List.length_eq_zero_iff.mp h]
  · rw [if_neg h, if_pos ⟨by simp, Nat.zero_le _⟩]
    simp only [hp, if_true, List.take_zero]
theorem leave_cell0 {c : Cell} {n : Nat} (h : st[n]? = some c) (hp : pureC c = true) : leave ([] : Stor).length (.val (.cell n)) st = .ok (.new c) [] := by
  have hl := (List.getElem?_eq_some_iff.mp h).1
  show leave 0 (.val (.cell n)) st = _
  unfold leave
  rw [if_neg (by omega), if_pos ⟨by simp, Nat.zero_le _⟩]
  have hq : pureB (.cell n) = false := rfl
  simp only [hq, Bool.false_eq_true, if_false, List.length_nil, Nat.zero_le, if_true, h, hp, List.take_zero]
theorem dc_run {turn : T → Stor → Rs (Option (Key × T))} {τ : α → T} {gk : α → Key} {gv : α → T} {l : List α} (h : ∀ a, a ∈ l → turn (τ a) st = .ok (some (gk a, gv a)) st) (nd : (l.map gk).Nodup) (hl : l.length ≤ 16777216) : dcFix turn (l.map τ) [] st = .ok (l.map fun a => (gk a, gv a)) st := by
  rw [dc_eq l [] h (by simpa using nd) (by simpa using hl), List.nil_append]
theorem gd_dc {turn : T → Stor → Rs (Option (Key × T))} {xs : List T} {acc : List (Key × T)} {res : Rs (List (Key × T))} (h : dcFix turn xs acc st = res) : dcFix turn xs acc st = res := h
theorem gd_turnD {k v ifs : C} {tg : Tg} {own : List Nat} {x : T} {res : Rs (Option (Key × T))} (h : turnD E k v tg ifs own sl x st = res) : turnD E k v tg ifs own sl x st = res := h
theorem sr_D {C : List α} {f : α → Str} {v : α → T} : srcOf st (.dic (C.map fun a => ((Sum.inr (f a) : Key), v a))) = some (.fix ((C.map f).map .str)) := by
  simp only [srcOf, List.map_map]
  rfl
theorem b_strN {n : Nat} (h : n < 1000000) : biV E .str [.int (n : Int)] st = .ok (.val (.str (decS (n : Int)))) st := by
  have h1 : (n : Int).natAbs = n := Int.natAbs_natCast n
  have h2 : n.log2 < 1920 := by
    by_cases h0 : n = 0
    · subst h0; decide
    · exact (Nat.log2_lt h0).mpr (Nat.lt_of_lt_of_le h (by decide))
  simp only [biV, h1, if_pos h2]
theorem mt_join {z : Str} {y : T} {zs : List Str} (h : seqOf st y = some (zs.map .str)) (hl : (zs.map Str.length).sum + z.length * zs.length ≤ 16777216) : mtV E .join (.str z) [y] st = .ok (.val (.str (Str.join z zs))) st := by
  simp only [mtV, h, strsOf_map, if_pos hl]
theorem recv_join {nm z : Str} : recvOk E nm (some .join) (.str z) st = true := rfl
theorem meth_str {nm z : Str} {m : Mt} {xs : List T} {res : Rs R} (h : mtV E m (.str z) xs st = res) : methV E nm (some m) (.str z) xs st = res := h
theorem ko_str {x : Str} : keyOf (.str x) = some (Sum.inr x) := rfl
theorem getD_fst {C : List α} {f : α → Str} {v : α → T} {g : Str → α} (hg : ∀ a ∈ C, g (f a) = a) {x : Str} (hx : x ∈ C.map f) : getD (C.map fun a => ((Sum.inr (f a) : Key), v a)) (Sum.inr x) = some (v (g x)) := by
  unfold getD
  obtain ⟨a0, ha0, rfl⟩ := List.mem_map.mp hx
  rw [hg a0 ha0]
  clear hx
  induction C with
  | nil => cases ha0
  | cons b l ih =>
    rw [List.map_cons, List.find?_cons]
    by_cases e : f b = f a0
    · have hb := hg b (List.mem_cons_self ..)
      rw [e, hg a0 ha0] at hb
      subst hb
      simp
    · have e2 : decide ((Sum.inr (f b) : Key) = Sum.inr (f a0)) = false := decide_eq_false fun z => e (Sum.inr.inj z)
      rw [show (decide (((Sum.inr (f b) : Key), v b).1 = Sum.inr (f a0))) = false from e2]
      refine ih (fun a ha => hg a (List.mem_cons_of_mem _ ha)) ((List.mem_cons.mp ha0).resolve_left fun z => e (by rw [z]))
theorem for_foldR {body : T → Slt → Stor → Rs (Fl × Slt)} {τ : α → T} {l : List α} (slOf : σ → Slt) (stOf : σ → Stor) (f : σ → α → σ) (s0 s1 : σ) (hres : l.foldl f s0 = s1) (h0 : slOf s0 = sl) (h1 : stOf s0 = st)
    (h : ∀ d a e, l = d ++ a :: e → body (τ a) (slOf (d.foldl f s0)) (stOf (d.foldl f s0)) = .ok (.nx, slOf (f (d.foldl f s0) a)) (stOf (f (d.foldl f s0) a))) :
    forFix body (l.map τ) sl st = .ok (.nx, slOf s1) (stOf s1) := by
  subst hres
  exact for_fold slOf stOf f s0 h0 h1 h
theorem b_allF {α : Type} {l : List α} {g : α → List T} {p : α → List Bool} (h : ∀ a, g a = (p a).map .bl) : biV E .all [.lst (l.flatMap g)] st = .ok (.val (.bl (l.all fun a => (p a).all id))) st := by
  have e : l.flatMap g = (l.flatMap p).map T.bl := by
    rw [List.map_flatMap]
    congr 1
    funext a
    exact h a
  rw [e, b_allL, List.all_flatMap]
theorem b_allF2 {β : Type} {l : List α} {m : α → List β} {p : α → β → Bool} : biV E .all [.lst (l.flatMap fun a => (m a).map fun o => .bl (p a o))] st = .ok (.val (.bl (l.all fun a => (m a).all fun o => p a o))) st := by
  rw [b_allF (p := fun a => (m a).map (p a)) fun a => by rw [List.map_map]; rfl]
  simp only [List.all_map]
  rfl
theorem s_fldR {o e : C} {f : Str} {n c : Nat} {fs fs' : List (Str × T)} {xr : R} {xv : T} {st3 : Stor} (he : evE E e sl st = .ok xr st1) (qxr : xr.fz = xv) (ho : evE E o sl st1 = .ok (.val (.cell n)) st2) (hn : st2[n]? = some (.ins c fs)) (hl : fs.length < 1000) (hg : E.G.fld c f = true) (hp : putFT f xv fs = fs') (hs : st2.set n (.ins c fs') = st3) : evS E (.fld o f e) sl st = .ok (.nx, sl) st3 := by
  subst hp hs
  exact s_fld he qxr ho hn hl hg
theorem b_ssetN {x : T} {l l' : List Str} (h : seqOf st x = some (l.map .str)) (hl : l.length < 64) (hs : sortS (dedupS l) = l') : biV E .sortedSet [x] st = .ok (.new (.lst (l'.map .str))) st := by
  subst hs
  exact b_sset h hl
theorem ix_cdic {kvs : List (Key × T)} {n : Nat} {x : Str} {t : T} (hn : st[n]? = some (.dic kvs)) (h : getD kvs (Sum.inr x) = some t) : idxV E (.cell n) (.str x) st = .ok (.val t) st := by
  simp only [idxV, seqOf, dicOf, keyOf, hn, h]
theorem pairs_map {l : List α} {f : α → Str} {v : α → T} : pairsOf st (l.map fun a => .tup [.str (f a), v a]) = some (l.map fun a => ((Sum.inr (f a) : Key), v a)) := by
  induction l with
  | nil => rfl
  | cons a l ih => simp only [List.map_cons, pairsOf, keyOf, ih]
theorem merge_nd : ∀ (kvs acc : List (Key × T)), (acc.map (·.1) ++ kvs.map (·.1)).Nodup → mergeT acc kvs = acc ++ kvs
  | [], acc, _ => by simp [mergeT]
  | kv :: kvs, acc, nd => by
    have hn : kv.1 ∉ acc.map (·.1) := fun hm => by
      rw [List.nodup_append] at nd
      exact nd.2.2 _ hm _ (List.mem_cons_self ..) rfl
    have ih := merge_nd kvs (acc ++ [kv]) (by simpa using nd)
    unfold mergeT at ih ⊢
    rw [List.foldl_cons, putD_new hn, ih]
    simp
theorem b_dict {l : List α} {f : α → Str} {v : α → T} (nd : (l.map fun a => (Sum.inr (f a) : Key)).Nodup) : biV E .dict [.lst (l.map fun a => .tup [.str (f a), v a])] st = .ok (.new (.dic (l.map fun a => ((Sum.inr (f a) : Key), v a)))) st := by
  simp only [biV, lstOf, pairs_map]
  rw [merge_nd _ [] (by rw [List.map_nil, List.nil_append, List.map_map]; exact nd)]
  rfl
theorem bi_addL {xs ys : List T} (h : xs.length + ys.length ≤ 16777216) : binV .Add (.lst xs) (.lst ys) st = .ok (.new (.lst (xs ++ ys))) st := by simp only [binV, if_pos h]
theorem bi_addT {xs ys : List T} (h : xs.length + ys.length ≤ 16777216) : binV .Add (.tup xs) (.tup ys) st = .ok (.val (.tup (xs ++ ys))) st := by simp only [binV, if_pos h]
theorem bi_add {i j : Int} : binV .Add (.int i) (.int j) st = .ok (.val (.int (i + j))) st := rfl
theorem bi_sub {i j : Int} : binV .Sub (.int i) (.int j) st = .ok (.val (.int (i - j))) st := rfl
theorem gd_bin {op : Operator} {x y : T} {res : Rs R} (h : binV op x y st = res) : binV op x y st = res := h
theorem range_map {n : Nat} : rangeT 0 (n : Int) = (List.range n).map fun i : Nat => T.int ((i : Nat) : Int) := by
  unfold rangeT
  rw [show ((n : Int) - 0).toNat = n by omega]
  apply List.map_congr_left
  intro i _
  rw [Int.zero_add]
theorem i_rngN {as : C} {n : Nat} (h : evA E as sl st = .ok [.int (n : Int)] st1) (h2 : n < 1000000000) : evI E (.rng as) sl st = .ok (.fix ((List.range n).map fun i : Nat => T.int ((i : Nat) : Int))) st1 := by
  rw [← range_map]
  exact i_rng1 h (by omega) (by omega)
theorem lcA_map {turn : T → Stor → Rs (Option T)} {τ : α → T} {g : α → T} {l : List α} {acc : List T} (h : ∀ a, a ∈ l → turn (τ a) st = .ok (some (g a)) st) (hl : acc.length + l.length ≤ 16777216) : lcFix turn (l.map τ) acc st = .ok (acc ++ l.map g) st := by
  rw [lcFix_eq (g := fun a => some (g a)) l acc h hl]
  simp [List.filterMap_eq_map]
theorem sum_le {f : α → Nat} {c : Nat} : ∀ {l : List α}, (∀ a, a ∈ l → f a ≤ c) → (l.map f).sum ≤ l.length * c
  | [], _ => by simp
  | a :: l, h => by
    have h1 := h a (List.mem_cons_self ..)
    have h2 := sum_le (l := l) fun b hb => h b (List.mem_cons_of_mem _ hb)
    simp only [List.map_cons, List.sum_cons, List.length_cons, Nat.add_mul, Nat.one_mul]
    omega
theorem lc2_run {turn : T → List T → Stor → Rs (List T)} {τ : α → T} {g : α → List T} {l : List α} (h : ∀ a, a ∈ l → ∀ acc : List T, acc.length ≤ 8000000 → turn (τ a) acc st = .ok (acc ++ g a) st) (hg : ∀ a, a ∈ l → (g a).length ≤ 4000) (hl : l.length ≤ 2000) :
    lcFix2 turn (l.map τ) [] st = .ok (l.flatMap g) st := by
  have h1 := sum_le hg
  have h2 : l.length * 4000 ≤ 2000 * 4000 := Nat.mul_le_mul_right _ hl
  rw [lc2_eq l [] h (by simp only [List.length_nil]; omega), List.nil_append]
theorem gd_lc2 {turn : T → List T → Stor → Rs (List T)} {xs acc : List T} {res : Rs (List T)} (h : lcFix2 turn xs acc st = res) : lcFix2 turn xs acc st = res := h
theorem gd_lcA {turn : T → Stor → Rs (Option T)} {xs acc : List T} {res : Rs (List T)} (h : lcFix turn xs acc st = res) : lcFix turn xs acc st = res := h
theorem gd_asg {tg : Tg} {x : T} {res : Option Slt} (h : asgT tg x sl st = res) : asgT tg x sl st = res := h
theorem gd_run {G : Tabs} {fns : Nat → Option Fn} {k f : Nat} {xs : List T} {res : Rs R} (h : Sv.run G fns k f xs st = res) : Sv.run G fns k f xs st = res := h
theorem gd_recv {x : T} {n : Str} {m : Option Mt} {b : Bool} (h : recvOk E n m x st = b) : recvOk E n m x st = b := h
theorem gd_meth {x : T} {n : Str} {m : Option Mt} {xs : List T} {res : Rs R} (h : methV E n m x xs st = res) : methV E n m x xs st = res := h
theorem gd_turn2 {elt ifs it1 ifs1 : C} {tg tg1 : Tg} {own own1 : List Nat} {x : T} {acc : List T} {res : Rs (List T)} (h : turn2 E elt tg ifs tg1 it1 ifs1 own own1 sl x acc st = res) : turn2 E elt tg ifs tg1 it1 ifs1 own own1 sl x acc st = res := h
end
end Sv
end
section
set_option linter.all false
set_option maxRecDepth 100000
set_option maxHeartbeats 4000000
/-! SvMath: sets of names. Plain Lean. -/
namespace Sv
open PySem L2
abbrev rcd : List Str := [("#" : Str)]
def wi (a b : List Str) : Bool := if b = rcd then true else a.all fun x => decide (x ∈ b)
def jo (a b : List Str) : List Str := if a = rcd ∨ b = rcd then rcd else sortS (dedupS (a ++ b))
def co (a b : List Str) : List Str := if a = rcd then b else if b = rcd then a else a.filter fun x => decide (x ∈ b)
/-- Keys as they stand: their names, what each tells, all KEYSETs -/
structure Ks where
  names : List Str
  tld : Str → List Str
  ks : List (List Str)
  tl : ∀ n, (tld n).length ≤ 16
  nl : names.length ≤ 16
  kl : ks.length ≤ 1000
  kk : ∀ a ∈ ks, a.length ≤ 16
abbrev tldT (K : Ks) : T := .dic (K.names.map fun n => ((Sum.inr n : Key), tS (K.tld n)))
abbrev keT (K : Ks) : T := .ins 0 [("own_names", tS K.names), ("own_told", tldT K), ("own_keysets", .tup (K.ks.map tS))]
def cd (K : Ks) (l : List Str) : List Str := if ("#" : Str) ∈ l then rcd else sortS (dedupS (l.flatMap fun n => n :: K.tld n))
def tp (K : Ks) (l : List Str) : List Str := if l = rcd then rcd else l.filter fun n => !l.any fun o => decide (n ∈ K.tld o)
def bl (K : Ks) (l : List Str) : List (List Str) := K.ks.filter fun a => wi a l
theorem cl_tS (n : Nat) (l : List Str) : clB (n + 2) (tS l) = true := Enc.pure_ok n (⟨l⟩ : Tup Str)
abbrev pT (p : Str × Str) : T := .tup [.str p.1, .str p.2]
abbrev dirT (names : List Str) (D : Str → List Str) : T := .dic (names.map fun n => ((Sum.inr n : Key), lS (D n)))
theorem cl_lS (n : Nat) (l : List Str) : clB (n + 2) (lS l) = true := Enc.pure_ok n (⟨l⟩ : Lst Str)
theorem pure_dirT (names : List Str) (D : Str → List Str) : pureB (dirT names D) = true := by
  show (List.all (names.map fun n => ((Sum.inr n : Key), lS (D n))) fun p => clB 29 p.2) = true
  rw [List.all_map, List.all_eq_true]
  exact fun n _ => cl_lS 27 _
theorem pure_told (names : List Str) (D : Str → List Str) : pureB (.dic (names.map fun n => ((Sum.inr n : Key), tS (D n)))) = true := by
  show (List.all (names.map fun n => ((Sum.inr n : Key), tS (D n))) fun p => clB 29 p.2) = true
  rw [List.all_map, List.all_eq_true]
  exact fun n _ => cl_tS 27 _
theorem pure_prs (l : List (Str × Str)) : pureB (.tup (l.map pT)) = true := pureE (by decide) (⟨l⟩ : Tup (Str × Str))
theorem pure_keT (K : Ks) : pureB (keT K) = true := by
  show ([_, _, _].all fun p : Str × T => clB 29 p.2) = true
  have h1 : clB 29 (tS K.names) = true := cl_tS 27 _
  have h2 : clB 29 (tldT K) = true := by
    show (List.all (K.names.map fun n => ((Sum.inr n : Key), tS (K.tld n))) fun p => clB 28 p.2) = true
    rw [List.all_map, List.all_eq_true]
    exact fun n _ => cl_tS 26 _
  have h3 : clB 29 (.tup (K.ks.map tS)) = true := by
    show (List.all (K.ks.map tS) (clB 28)) = true
    rw [List.all_map, List.all_eq_true]
    exact fun n _ => cl_tS 26 _
  simp only [List.all_cons, List.all_nil, h1, h2, h3, Bool.and_self]
/-- what the tellings say of one name -/
abbrev dirD (pairs : List (Str × Str)) (n : Str) : List Str := (pairs.filter fun p => decide (p.1 = n)).map (·.2)
abbrev dirT' (names : List Str) (pairs : List (Str × Str)) : T := .dic (names.map fun n => ((Sum.inr n : Key), .lst ((pairs.filter fun p => decide (p.1 = n)).map fun p => .str p.2)))
theorem dirT_eq (names : List Str) (pairs : List (Str × Str)) : dirT' names pairs = dirT names (dirD pairs) := by
  show T.dic _ = T.dic _
  congr 1
  apply List.map_congr_left
  intro n _
  show (_, T.lst _) = (_, T.lst (((pairs.filter fun p => decide (p.1 = n)).map (·.2)).map T.str))
  rw [List.map_map]
  rfl
theorem pure_dirT' (names : List Str) (pairs : List (Str × Str)) : pureB (dirT' names pairs) = true := by
  rw [dirT_eq]
  exact pure_dirT _ _
/-- all sets of some names, as they are made -/
def subs (names : List Str) : List (List Str) := names.foldl (fun f n => f ++ f.map (· ++ [n])) [[]]
abbrev clsd (tld : Str → List Str) (a : List Str) : Bool := a.all fun n => (tld n).all fun o => decide (o ∈ a)
def jn (a : List Str) : Str := Str.join " " (decS (a.length : Int) :: a)
theorem pure_tapp {α : Type} {L : List α} {f : α → List Str} {b : List Str} : pureB (.tup (L.map (fun a => tS (f a)) ++ [tS b])) = true := by
  show List.all _ (clB 29) = true
  rw [List.all_append, List.all_map, Bool.and_eq_true, List.all_eq_true]
  refine ⟨fun a _ => Enc.pure_ok 27 (⟨f a⟩ : Tup Str), ?_⟩
  simp only [List.all_cons, List.all_nil, Bool.and_true]
  exact Enc.pure_ok 27 (⟨b⟩ : Tup Str)
theorem mt_jn {E : Ev} {st : Stor} {a : List Str} (h : ((decS (a.length : Int) :: a).map Str.length).sum + (" " : Str).length * (decS (a.length : Int) :: a).length ≤ 16777216) :
    mtV E .join (.str " ") [.lst (.str (decS ((a.map T.str).length : Int)) :: (a.map .str ++ []))] st = .ok (.val (.str (jn a))) st := by
  rw [List.length_map, List.append_nil]
  exact mt_join (zs := decS (a.length : Int) :: a) rfl h
theorem subs_snoc (l : List Str) (n : Str) : subs (l ++ [n]) = subs l ++ (subs l).map (· ++ [n]) := by
  unfold subs
  rw [List.foldl_append]
  rfl
theorem rev_ind {α : Type} {P : List α → Prop} (h0 : P []) (h1 : ∀ l x, P l → P (l ++ [x])) (l : List α) : P l := by
  have : ∀ r : List α, P r.reverse := fun r => by
    induction r with
    | nil => exact h0
    | cons x r ih => rw [List.reverse_cons]; exact h1 _ _ ih
  have h := this l.reverse
  rwa [List.reverse_reverse] at h
theorem mem_subs (l a : List Str) : a ∈ subs l ↔ a.Sublist l := by
  induction l using rev_ind generalizing a with
  | h0 => simp [subs]
  | h1 l n ih =>
    rw [subs_snoc, List.mem_append, ih, List.mem_map, List.sublist_append_iff]
    constructor
    · rintro (h | ⟨b, hb, rfl⟩)
      · exact ⟨a, [], by simp, h, List.nil_sublist _⟩
      · exact ⟨b, [n], rfl, (ih b).mp hb, List.Sublist.refl _⟩
    · rintro ⟨a1, a2, rfl, h1, h2⟩
      cases h2 with
      | cons _ h2 =>
        cases h2
        left; simpa using h1
      | cons_cons _ h2 =>
        cases h2
        exact .inr ⟨a1, (ih a1).mpr h1, rfl⟩
theorem subs_len (l : List Str) : (subs l).length = 2 ^ l.length := by
  induction l using rev_ind with
  | h0 => rfl
  | h1 l n ih =>
    rw [subs_snoc, List.length_append, List.length_map, ih, List.length_append, List.length_cons, List.length_nil, Nat.pow_succ]
    omega
theorem subs_lt {l : List Str} (h : l.length ≤ 5) : (subs l).length < 64 := by
  rw [subs_len]
  exact Nat.lt_of_le_of_lt (Nat.pow_le_pow_right (by decide) h) (by decide)
theorem subs_nodup {l : List Str} (h : l.Nodup) : (subs l).Nodup := by
  induction l using rev_ind with
  | h0 => simp [subs]
  | h1 l n ih =>
    rw [List.nodup_append] at h
    rw [subs_snoc, List.nodup_append]
    refine ⟨ih h.1, ?_, fun a ha b hb e => ?_⟩
    · rw [List.Nodup, List.pairwise_map]
      exact (ih h.1).imp fun hne e => hne (List.append_cancel_right e)
    · subst e
      obtain ⟨b, hb, rfl⟩ := List.mem_map.mp hb
      have := ((mem_subs l _).mp ha).subset (show n ∈ b ++ [n] by simp)
      exact h.2.2 n this n (by simp) rfl
/-- what a name leads to -/
inductive Reach (D : Str → List Str) (n : Str) : Str → Prop
  | one {x : Str} : x ∈ D n → Reach D n x
  | step {y x : Str} : Reach D n y → x ∈ D y → Reach D n x
theorem Reach.trans {D : Str → List Str} {a b c : Str} (h : Reach D a b) (h' : Reach D b c) : Reach D a c := by
  induction h' with
  | one hx => exact .step h hx
  | step _ hx ih => exact .step ih hx
/-- the state of the walk: what was found, how far it was gone through -/
structure BfsI (D : Str → List Str) (names : List Str) (n : Str) (f : List Str) (i : Nat) : Prop where
  base : ∀ x ∈ D n, x ∈ f
  sound : ∀ x ∈ f, Reach D n x
  clos : ∀ j, j < i → ∀ y, f[j]? = some y → ∀ x ∈ D y, x ∈ f
  nd : f.Nodup
  sub : ∀ x ∈ f, x ∈ names
  le : i ≤ f.length
def bfsF (D : Str → List Str) (f : List Str) (y : Str) : List Str := f ++ (D y).filter fun x => !decide (x ∈ f)
theorem BfsI.next {D : Str → List Str} {names : List Str} {n : Str} {f : List Str} {i : Nat} {y : Str} (h : BfsI D names n f i) (hy : f[i]? = some y) (hD : ∀ x, ∀ z ∈ D x, z ∈ names) (hnd : ∀ x, (D x).Nodup) : BfsI D names n (bfsF D f y) (i + 1) := by
  have hi : i < f.length := (List.getElem?_eq_some_iff.mp hy).1
  have hyf : y ∈ f := List.mem_of_getElem? hy
  have mem : ∀ x, x ∈ bfsF D f y ↔ x ∈ f ∨ x ∈ D y := fun x => by
    unfold bfsF
    rw [List.mem_append, List.mem_filter]
    by_cases hx : x ∈ f <;> simp [hx]
  refine ⟨fun x hx => (mem x).mpr (.inl (h.base x hx)), fun x hx => ?_, fun j hj z hz x hx => ?_, ?_, fun x hx => ?_, ?_⟩
  · rcases (mem x).mp hx with q | q
    · exact h.sound x q
    · exact .step (h.sound y hyf) q
  · by_cases hji : j < i
    · have hz' : f[j]? = some z := by
        unfold bfsF at hz
        rw [List.getElem?_append_left (by omega)] at hz
        exact hz
      exact (mem x).mpr (.inl (h.clos j hji z hz' x hx))
    · have e : j = i := by omega
      subst e
      unfold bfsF at hz
      rw [List.getElem?_append_left hi, hy] at hz
      cases hz
      exact (mem x).mpr (.inr hx)
  · unfold bfsF
    rw [List.nodup_append]
    refine ⟨h.nd, (hnd y).filter _, fun a ha b hb e => ?_⟩
    subst e
    simpa [ha] using (List.mem_filter.mp hb).2
  · rcases (mem x).mp hx with q | q
    · exact h.sub x q
    · exact hD y x q
  · unfold bfsF
    rw [List.length_append]
    omega
theorem BfsI.len {D : Str → List Str} {names : List Str} {n : Str} {f : List Str} {i : Nat} (h : BfsI D names n f i) : f.length ≤ names.length := h.nd.length_le_of_subset h.sub
theorem BfsI.done {D : Str → List Str} {names : List Str} {n : Str} {f : List Str} (h : BfsI D names n f f.length) (x : Str) : x ∈ f ↔ Reach D n x := by
  refine ⟨h.sound x, fun r => ?_⟩
  induction r with
  | one hx => exact h.base _ hx
  | step _ hx ih =>
    obtain ⟨j, hj⟩ := List.getElem?_of_mem ih
    exact h.clos j (List.getElem?_eq_some_iff.mp hj).1 _ hj _ hx
end Sv
end
section
set_option linter.all false
set_option maxRecDepth 100000
set_option maxHeartbeats 4000000
/-! SvKeys: ascending lists, the lattice of sets of names. Plain Lean. -/
namespace Sv
open PySem L2 PySem.Spec
def Asc (l : List Str) : Prop := l.Pairwise fun a b => ltS a b = true
section
variable {a b c l : List Str} {x y : Str}
theorem Asc.nodup (h : Asc l) : l.Nodup := h.imp fun h e => by subst e; rw [ltS_irrefl] at h; cases h
theorem Asc.le (h : Asc l) : l.Pairwise (fun a b => ltS b a = false) := h.imp ltS_asymm
theorem asc_of (nd : l.Nodup) (s : l.Pairwise fun a b => ltS b a = false) : Asc l := by
  refine (List.Pairwise.and nd s).imp fun {a b} h => ?_
  cases e : ltS a b with
  | true => rfl
  | false => exact absurd (ltS_tri e h.2) h.1
theorem asc_ext (ha : Asc a) (hb : Asc b) (m : ∀ x, x ∈ a ↔ x ∈ b) : a = b := sorted_one (perm_of_mem ha.nodup hb.nodup m) ha.le hb.le
theorem asc_sort (l : List Str) : Asc (sortS (dedupS l)) := asc_of ((sortS_perm _).nodup_iff.mpr (dedupS_nodup l)) (sortS_sorted _)
theorem mem_sset : x ∈ sortS (dedupS l) ↔ x ∈ l := by rw [(sortS_perm _).mem_iff, dedupS_mem]
theorem Asc.sset (h : Asc l) : sortS (dedupS l) = l := asc_ext (asc_sort l) h fun x => mem_sset
theorem Asc.filter (h : Asc l) (p : Str → Bool) : Asc (l.filter p) := List.Pairwise.filter p h
theorem Asc.sub (h : Asc l) (s : a.Sublist l) : Asc a := List.Pairwise.sublist s h
/-- an ascending list within another one is a part of it in order -/
theorem asc_sublist : ∀ {a l : List Str}, Asc a → Asc l → (∀ x ∈ a, x ∈ l) → a.Sublist l
  | [], l, _, _, _ => List.nil_sublist l
  | x :: a, [], _, _, h => absurd (h x (List.mem_cons_self ..)) (by simp)
  | x :: a, y :: l, ha, hl, h => by
    obtain ⟨ha1, ha2⟩ := List.pairwise_cons.mp ha
    obtain ⟨hl1, hl2⟩ := List.pairwise_cons.mp hl
    by_cases e : x = y
    · subst e
      refine .cons_cons x (asc_sublist ha2 hl2 fun z hz => ?_)
      rcases List.mem_cons.mp (h z (List.mem_cons_of_mem _ hz)) with rfl | q
      · have := ha1 z hz
        rw [ltS_irrefl] at this; cases this
      · exact q
    · refine .cons y (asc_sublist ha hl2 fun z hz => ?_)
      rcases List.mem_cons.mp (h z hz) with rfl | q
      · exfalso
        have hx : x ∈ l := (List.mem_cons.mp (h x (List.mem_cons_self ..))).resolve_left e
        have h1 := hl1 x hx
        rcases List.mem_cons.mp hz with q | q
        · exact e q.symm
        · have h2 := ha1 z q
          have := ltS_trans h1 h2
          rw [ltS_irrefl] at this; cases this
      · exact q

/-- a set of names that is not the record -/
structure Nr (a : List Str) : Prop where
  asc : Asc a
  no : ("#" : Str) ∉ a
theorem Nr.ne (h : Nr a) : a ≠ rcd := fun e => h.no (by rw [e]; simp)
theorem Nr.jo (ha : Nr a) (hb : Nr b) : Nr (jo a b) ∧ ∀ x, x ∈ jo a b ↔ x ∈ a ∨ x ∈ b := by
  have e : Sv.jo a b = sortS (dedupS (a ++ b)) := by unfold Sv.jo; rw [if_neg (not_or.mpr ⟨ha.ne, hb.ne⟩)]
  have m : ∀ x, x ∈ Sv.jo a b ↔ x ∈ a ∨ x ∈ b := fun x => by rw [e, mem_sset, List.mem_append]
  exact ⟨⟨e ▸ asc_sort _, fun h => by rcases (m _).mp h with q | q; exact ha.no q; exact hb.no q⟩, m⟩
theorem Nr.co (ha : Nr a) (hb : Nr b) : Nr (co a b) ∧ ∀ x, x ∈ co a b ↔ x ∈ a ∧ x ∈ b := by
  have e : Sv.co a b = a.filter fun x => decide (x ∈ b) := by unfold Sv.co; rw [if_neg ha.ne, if_neg hb.ne]
  have m : ∀ x, x ∈ Sv.co a b ↔ x ∈ a ∧ x ∈ b := fun x => by rw [e, List.mem_filter]; simp
  exact ⟨⟨e ▸ ha.asc.filter _, fun h => ha.no ((m _).mp h).1⟩, m⟩
theorem jo_rcdL : jo rcd b = rcd := by simp [jo]
theorem jo_rcdR : jo a rcd = rcd := by simp [jo]
theorem co_rcdL : co rcd b = b := by simp [co]
theorem co_rcdR : co a rcd = a := by
  unfold co
  split
  · rename_i h; exact h.symm
  · simp
theorem wi_rcd : wi a rcd = true := by simp [wi]
theorem Nr.wi (hb : Nr b) : wi a b = true ↔ ∀ x ∈ a, x ∈ b := by
  unfold Sv.wi
  rw [if_neg hb.ne, List.all_eq_true]
  simp
theorem Nr.wiF (hb : Nr b) : Sv.wi rcd b = false := by
  cases h : Sv.wi rcd b with
  | false => rfl
  | true => exact absurd ((hb.wi).mp h "#" (by simp)) hb.no
theorem Nr.ext (ha : Nr a) (hb : Nr b) (m : ∀ x, x ∈ a ↔ x ∈ b) : a = b := asc_ext ha.asc hb.asc m
def IsK (a : List Str) : Prop := a = rcd ∨ Nr a

/-! ### the lattice -/
theorem jo_comm (ha : IsK a) (hb : IsK b) : jo a b = jo b a := by
  rcases ha with rfl | ha <;> rcases hb with rfl | hb
  · rfl
  · rw [jo_rcdL, jo_rcdR]
  · rw [jo_rcdL, jo_rcdR]
  · exact (ha.jo hb).1.ext (hb.jo ha).1 fun x => by rw [(ha.jo hb).2, (hb.jo ha).2, or_comm]
theorem co_comm (ha : IsK a) (hb : IsK b) : co a b = co b a := by
  rcases ha with rfl | ha <;> rcases hb with rfl | hb
  · rfl
  · rw [co_rcdL, co_rcdR]
  · rw [co_rcdL, co_rcdR]
  · exact (ha.co hb).1.ext (hb.co ha).1 fun x => by rw [(ha.co hb).2, (hb.co ha).2, and_comm]
theorem IsK.jo (ha : IsK a) (hb : IsK b) : IsK (jo a b) := by
  rcases ha with rfl | ha <;> rcases hb with rfl | hb
  · exact .inl jo_rcdL
  · exact .inl jo_rcdL
  · exact .inl jo_rcdR
  · exact .inr (ha.jo hb).1
theorem IsK.co (ha : IsK a) (hb : IsK b) : IsK (co a b) := by
  rcases ha with rfl | ha <;> rcases hb with rfl | hb
  · rw [co_rcdL]; exact .inl rfl
  · rw [co_rcdL]; exact .inr hb
  · rw [co_rcdR]; exact .inr ha
  · exact .inr (ha.co hb).1
theorem jo_absorb (ha : IsK a) (hb : IsK b) : jo a (co a b) = a := by
  rcases ha with rfl | ha
  · exact jo_rcdL
  · rcases hb with rfl | hb
    · rw [co_rcdR]
      exact (ha.jo ha).1.ext ha fun x => by rw [(ha.jo ha).2, or_self]
    · have hc := ha.co hb
      exact (ha.jo hc.1).1.ext ha fun x => by rw [(ha.jo hc.1).2, hc.2]; exact ⟨fun h => h.elim id (·.1), .inl⟩
theorem co_absorb (ha : IsK a) (hb : IsK b) : co a (jo a b) = a := by
  rcases ha with rfl | ha
  · rw [jo_rcdL]; exact co_rcdL
  · rcases hb with rfl | hb
    · rw [jo_rcdR, co_rcdR]
    · have hc := ha.jo hb
      exact (ha.co hc.1).1.ext ha fun x => by rw [(ha.co hc.1).2, hc.2]; exact ⟨(·.1), fun h => ⟨h, .inl h⟩⟩
theorem wi_jo (ha : IsK a) (hb : IsK b) : wi a b = true ↔ jo a b = b := by
  rcases hb with rfl | hb
  · rw [wi_rcd, jo_rcdR]; simp
  · rcases ha with rfl | ha
    · rw [hb.wiF, jo_rcdL]
      exact ⟨(fun h => nomatch h), fun h => absurd h.symm hb.ne⟩
    · rw [hb.wi]
      constructor
      · intro h
        exact (ha.jo hb).1.ext hb fun x => by rw [(ha.jo hb).2]; exact ⟨fun q => q.elim (h x) id, .inr⟩
      · intro h x hx
        rw [← h, (ha.jo hb).2]; exact .inl hx
theorem wi_co (ha : IsK a) (hb : IsK b) : wi a b = true ↔ co a b = a := by
  rcases hb with rfl | hb
  · rw [wi_rcd, co_rcdR]; simp
  · rcases ha with rfl | ha
    · rw [hb.wiF, co_rcdL]
      exact ⟨(fun h => nomatch h), fun h => absurd h hb.ne⟩
    · rw [hb.wi]
      constructor
      · intro h
        exact (ha.co hb).1.ext ha fun x => by rw [(ha.co hb).2]; exact ⟨(·.1), fun q => ⟨q, h x q⟩⟩
      · intro h x hx
        rw [← h, (ha.co hb).2] at hx; exact hx.2
theorem wi_anti (ha : IsK a) (hb : IsK b) (h1 : wi a b = true) (h2 : wi b a = true) : a = b := by
  have e1 := (wi_jo ha hb).mp h1
  have e2 := (wi_jo hb ha).mp h2
  rw [← e2, jo_comm hb ha, e1]
theorem wi_joL (ha : IsK a) (hb : IsK b) (hc : IsK c) : wi (jo a b) c = (wi a c && wi b c) := by
  rcases hc with rfl | hc
  · simp [wi_rcd]
  · rcases ha with rfl | ha
    · rw [jo_rcdL, hc.wiF]; rfl
    · rcases hb with rfl | hb
      · rw [jo_rcdR, hc.wiF]; simp
      · rw [Bool.eq_iff_iff, Bool.and_eq_true, hc.wi, hc.wi, hc.wi]
        constructor
        · intro h
          exact ⟨fun x hx => h x (((ha.jo hb).2 x).mpr (.inl hx)), fun x hx => h x (((ha.jo hb).2 x).mpr (.inr hx))⟩
        · rintro ⟨h1, h2⟩ x hx
          exact (((ha.jo hb).2 x).mp hx).elim (h1 x) (h2 x)
theorem wi_coR (ha : IsK a) (hb : IsK b) (hc : IsK c) : wi c (co a b) = (wi c a && wi c b) := by
  rcases ha with rfl | ha
  · rw [co_rcdL, wi_rcd]; simp
  · rcases hb with rfl | hb
    · rw [co_rcdR, wi_rcd]; simp
    · rw [Bool.eq_iff_iff, Bool.and_eq_true, (ha.co hb).1.wi, ha.wi, hb.wi]
      constructor
      · intro h
        exact ⟨fun x hx => (((ha.co hb).2 x).mp (h x hx)).1, fun x hx => (((ha.co hb).2 x).mp (h x hx)).2⟩
      · rintro ⟨h1, h2⟩ x hx
        exact ((ha.co hb).2 x).mpr ⟨h1 x hx, h2 x hx⟩
theorem jo_assoc (ha : IsK a) (hb : IsK b) (hc : IsK c) : jo a (jo b c) = jo (jo a b) c := by
  rcases ha with rfl | ha
  · simp [jo_rcdL]
  · rcases hb with rfl | hb
    · simp [jo_rcdL, jo_rcdR]
    · rcases hc with rfl | hc
      · simp [jo_rcdR]
      · have h1 := hb.jo hc
        have h2 := ha.jo hb
        exact (ha.jo h1.1).1.ext (h2.1.jo hc).1 fun x => by rw [(ha.jo h1.1).2, h1.2, (h2.1.jo hc).2, h2.2, or_assoc]
theorem co_jo (ha : IsK a) (hb : IsK b) (hc : IsK c) : co a (jo b c) = jo (co a b) (co a c) := by
  rcases ha with rfl | ha
  · simp [co_rcdL]
  · rcases hb with rfl | hb
    · rw [jo_rcdL, co_rcdR]
      exact (jo_absorb (.inr ha) hc).symm
    · rcases hc with rfl | hc
      · rw [jo_rcdR, co_rcdR, jo_comm (IsK.co (.inr ha) (.inr hb)) (.inr ha)]
        exact (jo_absorb (.inr ha) (.inr hb)).symm
      · have h1 := hb.jo hc
        have h2 := ha.co hb
        have h3 := ha.co hc
        exact (ha.co h1.1).1.ext (h2.1.jo h3.1).1 fun x => by rw [(ha.co h1.1).2, h1.2, (h2.1.jo h3.1).2, h2.2, h3.2, and_or_left]
theorem jo_co (ha : IsK a) (hb : IsK b) (hc : IsK c) : jo a (co b c) = co (jo a b) (jo a c) := by
  rcases ha with rfl | ha
  · simp [jo_rcdL, co_rcdL]
  · rcases hb with rfl | hb
    · rw [jo_rcdR, co_rcdL, co_rcdL]
    · rcases hc with rfl | hc
      · rw [jo_rcdR, co_rcdR, co_rcdR]
      · have h1 := hb.co hc
        have h2 := ha.jo hb
        have h3 := ha.jo hc
        exact (ha.jo h1.1).1.ext (h2.1.co h3.1).1 fun x => by rw [(ha.jo h1.1).2, h1.2, (h2.1.co h3.1).2, h2.2, h3.2, or_and_left]
theorem wi_trans (ha : IsK a) (hb : IsK b) (hc : IsK c) (h1 : wi a b = true) (h2 : wi b c = true) : wi a c = true := by
  rcases hc with rfl | hc
  · exact wi_rcd
  · rcases hb with rfl | hb
    · rw [hc.wiF] at h2; cases h2
    · rw [hb.wi] at h1
      rw [hc.wi] at h2 ⊢
      exact fun x hx => h2 x (h1 x hx)
theorem wi_refl (ha : IsK a) : wi a a = true := by
  rcases ha with rfl | ha
  · exact wi_rcd
  · exact ha.wi.mpr fun _ h => h
end
end Sv
end
section
set_option linter.all false
set_option maxRecDepth 100000
set_option maxHeartbeats 4000000
/-! SvKeys2: the order of sets of names; Keys of names and tellings. Plain Lean. -/
namespace Sv
open PySem L2 PySem.Spec
def lexS : List Str → List Str → Bool
  | [], [] => false
  | [], _ :: _ => true
  | _ :: _, [] => false
  | x :: r, y :: t => ltS x y || (!ltS y x && lexS r t)
def Nm (n : Str) : Prop := ∀ c ∈ n.cps.toList, 32 < c
def flat (a : List Str) : List Nat := a.flatMap fun n => 32 :: n.cps.toList
theorem app_cps (x y : Str) : (x ++ y).cps.toList = x.cps.toList ++ y.cps.toList := by
  show (x.cps ++ y.cps).toList = _
  simp
theorem join_cps : ∀ (l : List Str) (x : Str), (Str.join " " (x :: l)).cps.toList = x.cps.toList ++ flat l
  | [], x => by simp [Str.join, flat]
  | y :: l, x => by
    have ih := join_cps l y
    have e : Str.join " " (x :: y :: l) = x ++ " " ++ Str.join " " (y :: l) := rfl
    rw [e, app_cps, app_cps, ih]
    have h32 : ((" " : Str)).cps.toList = [32] := by decide +kernel
    rw [h32]
    simp [flat]
theorem digs1 {m : Nat} (h : m < 10) : (decS (m : Int)).cps.toList = [48 + m] := by
  unfold decS
  rw [if_neg (by omega)]
  have e : (m : Int).natAbs = m := Int.natAbs_natCast m
  rw [e]
  show digs m = _
  unfold digs digsF
  rw [if_pos h]
theorem ltC_lem : ∀ (X Y U V : List Nat), (∀ c ∈ X, 32 < c) → (∀ c ∈ Y, 32 < c) → (U = [] ∨ ∃ U', U = 32 :: U') → (V = [] ∨ ∃ V', V = 32 :: V') → ltCps (X ++ U) (Y ++ V) = if X = Y then ltCps U V else ltCps X Y
  | [], [], U, V, _, _, _, _ => by simp
  | [], y :: Y, U, V, _, hY, hU, _ => by
    have hy := hY y (List.mem_cons_self ..)
    rcases hU with rfl | ⟨U', rfl⟩
    · simp [ltCps]
    · simp [ltCps]; omega
  | x :: X, [], U, V, hX, _, _, hV => by
    have hx := hX x (List.mem_cons_self ..)
    rcases hV with rfl | ⟨V', rfl⟩
    · simp [ltCps]
    · have h1 : ¬ x < 32 := by omega
      have h2 : ¬ x = 32 := by omega
      simp [ltCps, h1, h2]
  | x :: X, y :: Y, U, V, hX, hY, hU, hV => by
    have ih := ltC_lem X Y U V (fun c hc => hX c (List.mem_cons_of_mem _ hc)) (fun c hc => hY c (List.mem_cons_of_mem _ hc)) hU hV
    simp only [List.cons_append, ltCps, ih]
    by_cases e : x = y
    · subst e
      by_cases e2 : X = Y
      · subst e2; simp
      · simp [e2]
    · have hne : (x == y) = false := beq_eq_false_iff_ne.mpr e
      have : ¬ (x :: X = y :: Y) := fun z => e (List.cons.inj z).1
      rw [if_neg this, hne]
      simp
theorem flat_tail (a : List Str) : flat a = [] ∨ ∃ U, flat a = 32 :: U := by
  cases a with
  | nil => exact .inl rfl
  | cons x a => exact .inr ⟨_, by simp [flat]; rfl⟩
theorem flat_lt : ∀ (a b : List Str), a.length = b.length → (∀ n ∈ a, Nm n) → (∀ n ∈ b, Nm n) → ltCps (flat a) (flat b) = lexS a b
  | [], [], _, _, _ => rfl
  | [], _ :: _, h, _, _ => by simp at h
  | _ :: _, [], h, _, _ => by simp at h
  | x :: a, y :: b, hl, ha, hb => by
    have ih := flat_lt a b (by simpa using hl) (fun n hn => ha n (List.mem_cons_of_mem _ hn)) (fun n hn => hb n (List.mem_cons_of_mem _ hn))
    have e1 : flat (x :: a) = 32 :: (x.cps.toList ++ flat a) := by simp [flat]
    have e2 : flat (y :: b) = 32 :: (y.cps.toList ++ flat b) := by simp [flat]
    rw [e1, e2]
    simp only [ltCps, Nat.lt_irrefl, decide_false, Bool.false_or, beq_self_eq_true, Bool.true_and]
    rw [ltC_lem _ _ _ _ (ha x (List.mem_cons_self ..)) (hb y (List.mem_cons_self ..)) (flat_tail a) (flat_tail b), ih]
    show _ = (ltS x y || (!ltS y x && lexS a b))
    by_cases e : x = y
    · subst e
      rw [if_pos rfl, ltS_irrefl]; simp
    · have e' : ¬ x.cps.toList = y.cps.toList := fun z => e (str_ext z)
      rw [if_neg e']
      cases h1 : ltS x y with
      | true => exact h1
      | false =>
        have h2 : ltS y x = true := by
          cases h2 : ltS y x with
          | true => rfl
          | false => exact absurd (ltS_tri h1 h2) e
        rw [h2]; exact h1
/-- by how many names, then by comparison -/
def ltK (a b : List Str) : Bool := decide (a.length < b.length) || (decide (a.length = b.length) && lexS a b)
theorem jn_lt {a b : List Str} (ha : a.length < 10) (hb : b.length < 10) (na : ∀ n ∈ a, Nm n) (nb : ∀ n ∈ b, Nm n) : ltS (jn a) (jn b) = ltK a b := by
  have e1 : (jn a).cps.toList = (48 + a.length) :: flat a := by
    unfold jn
    rw [join_cps, digs1 ha]; rfl
  have e2 : (jn b).cps.toList = (48 + b.length) :: flat b := by
    unfold jn
    rw [join_cps, digs1 hb]; rfl
  show ltCps (jn a).cps.toList (jn b).cps.toList = _
  rw [e1, e2]
  unfold ltK
  simp only [ltCps]
  by_cases h : a.length = b.length
  · rw [flat_lt a b h na nb]
    simp [h]
  · have h2 : (48 + a.length == 48 + b.length) = false := by
      rw [beq_eq_false_iff_ne]; omega
    have h3 : decide (48 + a.length < 48 + b.length) = decide (a.length < b.length) := decide_eq_decide.mpr (by omega)
    rw [h2, h3]
    simp [h]
theorem jn_inj {a b : List Str} (ha : a.length < 10) (hb : b.length < 10) (na : ∀ n ∈ a, Nm n) (nb : ∀ n ∈ b, Nm n) (h : jn a = jn b) : a = b := by
  have l1 := jn_lt ha hb na nb
  have l2 := jn_lt hb ha nb na
  rw [h, ltS_irrefl] at l1
  rw [h, ltS_irrefl] at l2
  have e : a.length = b.length := by
    have q1 := l1.symm
    have q2 := l2.symm
    unfold ltK at q1 q2
    rw [Bool.or_eq_false_iff] at q1 q2
    have z1 := of_decide_eq_false q1.1
    have z2 := of_decide_eq_false q2.1
    omega
  have k1 : lexS a b = false := by simpa [ltK, e] using l1.symm
  have k2 : lexS b a = false := by simpa [ltK, e] using l2.symm
  clear l1 l2 h ha hb na nb
  induction a generalizing b with
  | nil => cases b with
    | nil => rfl
    | cons y b => simp at e
  | cons x a ih => cases b with
    | nil => simp at e
    | cons y b =>
      simp only [lexS, Bool.or_eq_false_iff, Bool.and_eq_false_iff, Bool.not_eq_false'] at k1 k2
      have hxy : x = y := ltS_tri k1.1 k2.1
      subst hxy
      have q1 : lexS a b = false := by
        rcases k1.2 with z | z
        · rw [ltS_irrefl] at z; cases z
        · exact z
      have q2 : lexS b a = false := by
        rcases k2.2 with z | z
        · rw [ltS_irrefl] at z; cases z
        · exact z
      rw [ih (by simpa using e) q1 q2]
/-- two lists that rise by it and have the same members are one -/
theorem rise_ext {l m : List (List Str)} (hl : l.Pairwise fun a b => ltS (jn a) (jn b) = true) (hm : m.Pairwise fun a b => ltS (jn a) (jn b) = true) (h : ∀ a, a ∈ l ↔ a ∈ m) : l = m := by
  have nd : ∀ {l : List (List Str)}, l.Pairwise (fun a b => ltS (jn a) (jn b) = true) → l.Nodup := fun h => h.imp fun q e => by subst e; rw [ltS_irrefl] at q; cases q
  refine ((List.perm_ext_iff_of_nodup (nd hl) (nd hm)).mpr h).eq_of_pairwise (fun a b _ _ h1 h2 => ?_) hl hm
  rw [ltS_asymm h1] at h2; cases h2

/-! ### Keys -/
structure Bk (names : List Str) (pairs : List (Str × Str)) : Prop where
  asc : Asc names
  len : names.length ≤ 4
  nm : ∀ n ∈ names, Nm n ∧ n.length ≤ 8
  no : ("#" : Str) ∉ names
  pin : ∀ p ∈ pairs, p.1 ∈ names ∧ p.2 ∈ names
  pnd : pairs.Nodup
  pl : pairs.length ≤ 100
  rk : ∃ rank : Str → Nat, (∀ n ∈ names, rank n < names.length) ∧ ∀ p ∈ pairs, rank p.2 < rank p.1
open Classical in
noncomputable def tldB (names : List Str) (pairs : List (Str × Str)) (n : Str) : List Str := names.filter fun x => decide (Reach (dirD pairs) n x)
noncomputable def clB' (names : List Str) (pairs : List (Str × Str)) : List (List Str) := (subs names).filter (clsd (tldB names pairs))
noncomputable def gB (names : List Str) (row : Str) : List Str := ((subs names).find? fun a => decide (jn a = row)).getD []
noncomputable def ksB (names : List Str) (pairs : List (Str × Str)) : List (List Str) := (sortS ((clB' names pairs).map jn)).map (gB names)
section
variable {names : List Str} {pairs : List (Str × Str)}
theorem dir_mem {n x : Str} : x ∈ dirD pairs n ↔ (n, x) ∈ pairs := by
  unfold dirD
  rw [List.mem_map]
  constructor
  · rintro ⟨p, hp, rfl⟩
    obtain ⟨h1, h2⟩ := List.mem_filter.mp hp
    have := of_decide_eq_true h2
    rw [← this]; exact h1
  · intro h
    exact ⟨(n, x), List.mem_filter.mpr ⟨h, decide_eq_true rfl⟩, rfl⟩
theorem Bk.dnd (h : Bk names pairs) (n : Str) : (dirD pairs n).Nodup := by
  unfold dirD
  have h1 := h.pnd.filter fun p => decide (p.1 = n)
  rw [List.Nodup, List.pairwise_map]
  refine List.Pairwise.imp_of_mem ?_ h1
  intro p q hp hq hne e
  apply hne
  have e1 := of_decide_eq_true (List.mem_filter.mp hp).2
  have e2 := of_decide_eq_true (List.mem_filter.mp hq).2
  exact Prod.ext (by rw [e1, e2]) e
theorem Bk.dsub (h : Bk names pairs) (n : Str) : ∀ z ∈ dirD pairs n, z ∈ names := fun z hz => (h.pin _ (dir_mem.mp hz)).2
theorem Bk.reach_in (h : Bk names pairs) {n x : Str} (r : Reach (dirD pairs) n x) : n ∈ names ∧ x ∈ names := by
  induction r with
  | one hx => exact h.pin _ (dir_mem.mp hx)
  | step _ hx ih => exact ⟨ih.1, (h.pin _ (dir_mem.mp hx)).2⟩
theorem reach_rank {rank : Str → Nat} (hr : ∀ p ∈ pairs, rank p.2 < rank p.1) {n x : Str} (r : Reach (dirD pairs) n x) : rank x < rank n := by
  induction r with
  | one hx => exact hr _ (dir_mem.mp hx)
  | step _ hx ih => have := hr _ (dir_mem.mp hx); simp only at this; omega
theorem mem_tldB {n x : Str} (h : Bk names pairs) : x ∈ tldB names pairs n ↔ Reach (dirD pairs) n x := by
  unfold tldB
  rw [List.mem_filter, @decide_eq_true_eq _ (Classical.propDecidable _)]
  exact ⟨(·.2), fun r => ⟨(h.reach_in r).2, r⟩⟩
theorem Bk.irr (h : Bk names pairs) (n : Str) : n ∉ tldB names pairs n := fun hn => by
  obtain ⟨rank, _, hr⟩ := h.rk
  have := reach_rank hr ((mem_tldB h).mp hn)
  omega
theorem Bk.tasc (h : Bk names pairs) (n : Str) : Asc (tldB names pairs n) := h.asc.filter _
theorem Bk.tlen (n : Str) : (tldB names pairs n).length ≤ names.length := List.length_filter_le _ _
theorem sub_nm (h : Bk names pairs) {a : List Str} (ha : a ∈ subs names) : a.length < 10 ∧ ∀ n ∈ a, Nm n := by
  have s := (mem_subs _ _).mp ha
  exact ⟨by have := s.length_le; have := h.len; omega, fun n hn => (h.nm n (s.subset hn)).1⟩
theorem gB_jn (h : Bk names pairs) {a : List Str} (ha : a ∈ subs names) : gB names (jn a) = a := by
  unfold gB
  cases hf : (subs names).find? fun b => decide (jn b = jn a) with
  | none =>
    have := List.find?_eq_none.mp hf a ha
    simp at this
  | some b =>
    have h1 := List.find?_some hf
    have h2 := List.mem_of_find?_eq_some hf
    obtain ⟨q1, q2⟩ := sub_nm h ha
    obtain ⟨q3, q4⟩ := sub_nm h h2
    exact jn_inj q3 q1 q4 q2 (of_decide_eq_true h1)
theorem mem_clB {a : List Str} (h : Bk names pairs) : a ∈ clB' names pairs ↔ (Asc a ∧ ∀ x ∈ a, x ∈ names) ∧ ∀ x ∈ a, ∀ y ∈ tldB names pairs x, y ∈ a := by
  unfold clB'
  rw [List.mem_filter, mem_subs]
  have e : clsd (tldB names pairs) a = true ↔ ∀ x ∈ a, ∀ y ∈ tldB names pairs x, y ∈ a := by
    simp [clsd]
  rw [e]
  constructor
  · rintro ⟨h1, h2⟩
    exact ⟨⟨h.asc.sub h1, fun x hx => h1.subset hx⟩, h2⟩
  · rintro ⟨⟨h1, h2⟩, h3⟩
    exact ⟨asc_sublist h1 h.asc h2, h3⟩
theorem clB_nd (h : Bk names pairs) : ((clB' names pairs).map jn).Nodup := by
  rw [List.Nodup, List.pairwise_map]
  refine List.Pairwise.imp_of_mem ?_ ((subs_nodup h.asc.nodup).filter (clsd (tldB names pairs)))
  intro a b ha hb hne e
  obtain ⟨q1, q2⟩ := sub_nm h (List.mem_filter.mp ha).1
  obtain ⟨q3, q4⟩ := sub_nm h (List.mem_filter.mp hb).1
  exact hne (jn_inj q1 q3 q2 q4 e)
theorem ks_perm (h : Bk names pairs) : (ksB names pairs).Perm (clB' names pairs) := by
  unfold ksB
  refine ((sortS_perm _).map _).trans ?_
  rw [List.map_map]
  have e : (clB' names pairs).map (gB names ∘ jn) = clB' names pairs := by
    conv => rhs; rw [← List.map_id (clB' names pairs)]
    apply List.map_congr_left
    intro a ha
    exact gB_jn h (List.mem_filter.mp ha).1
  rw [e]
theorem ks_rise (h : Bk names pairs) : (ksB names pairs).Pairwise fun a b => ltS (jn a) (jn b) = true := by
  unfold ksB
  rw [List.pairwise_map]
  have hs : Asc (sortS ((clB' names pairs).map jn)) := asc_of ((sortS_perm _).nodup_iff.mpr (clB_nd h)) (sortS_sorted _)
  refine List.Pairwise.imp_of_mem ?_ hs
  intro r s hr hs' hlt
  obtain ⟨a, ha, rfl⟩ := List.mem_map.mp ((sortS_perm _).mem_iff.mp hr)
  obtain ⟨b, hb, rfl⟩ := List.mem_map.mp ((sortS_perm _).mem_iff.mp hs')
  rw [gB_jn h (List.mem_filter.mp ha).1, gB_jn h (List.mem_filter.mp hb).1]
  exact hlt
theorem ks_len (h : Bk names pairs) : (ksB names pairs).length < 64 := by
  rw [(ks_perm h).length_eq]
  exact Nat.lt_of_le_of_lt (List.length_filter_le _ _) (subs_lt (by have := h.len; omega))
/-- Keys of names and tellings -/
noncomputable def mkK (h : Bk names pairs) : Ks where
  names := names
  tld := tldB names pairs
  ks := ksB names pairs ++ [rcd]
  tl := fun n => by have := Bk.tlen (names := names) (pairs := pairs) n; have := h.len; omega
  nl := by have := h.len; omega
  kl := by have := ks_len h; simp; omega
  kk := fun a ha => by
    rcases List.mem_append.mp ha with q | q
    · have := (List.mem_filter.mp ((ks_perm h).mem_iff.mp q)).1
      have := (sub_nm h this).1
      omega
    · rw [List.mem_singleton.mp q]; decide
theorem mem_ks (h : Bk names pairs) {a : List Str} : a ∈ (mkK h).ks ↔ a = rcd ∨ (Asc a ∧ (∀ x ∈ a, x ∈ names) ∧ ∀ x ∈ a, ∀ y ∈ tldB names pairs x, y ∈ a) := by
  show a ∈ ksB names pairs ++ [rcd] ↔ _
  rw [List.mem_append, (ks_perm h).mem_iff, mem_clB h, List.mem_singleton, and_assoc]
  exact Or.comm
theorem ks_isK (h : Bk names pairs) {a : List Str} (ha : a ∈ (mkK h).ks) : IsK a := by
  rcases (mem_ks h).mp ha with rfl | ⟨h1, h2, _⟩
  · exact .inl rfl
  · exact .inr ⟨h1, fun q => h.no (h2 _ q)⟩
end
end Sv
end
section
set_option linter.all false
set_option maxRecDepth 100000
set_option maxHeartbeats 4000000
/-! SvTold: what names tell, by going over the tellings again and again. Plain Lean. -/
namespace Sv
open PySem L2 PySem.Spec
/-- within so many steps -/
def RLe (D : Str → List Str) : Nat → Str → Str → Prop
  | 0, _, _ => False
  | k + 1, n, x => x ∈ D n ∨ ∃ y ∈ D n, RLe D k y x
theorem RLe.reach {D : Str → List Str} : ∀ {k : Nat} {n x : Str}, RLe D k n x → Reach D n x
  | k + 1, n, x, .inl h => .one h
  | k + 1, n, x, .inr ⟨y, hy, h⟩ => (Reach.one hy).trans h.reach
theorem RLe.mono {D : Str → List Str} : ∀ {k : Nat} {n x : Str}, RLe D k n x → RLe D (k + 1) n x
  | k + 1, n, x, .inl h => .inl h
  | k + 1, n, x, .inr ⟨y, hy, h⟩ => .inr ⟨y, hy, h.mono⟩
theorem RLe.up {D : Str → List Str} {k j : Nat} {n x : Str} (h : RLe D k n x) (hk : k ≤ j) : RLe D j n x := by
  induction hk with
  | refl => exact h
  | step _ ih => exact ih.mono
theorem Reach.head {D : Str → List Str} {n x : Str} (r : Reach D n x) : x ∈ D n ∨ ∃ y ∈ D n, Reach D y x := by
  induction r with
  | one h => exact .inl h
  | step _ hx ih =>
    rcases ih with h | ⟨y, hy, h⟩
    · exact .inr ⟨_, h, .one hx⟩
    · exact .inr ⟨y, hy, .step h hx⟩
theorem reach_rle {pairs : List (Str × Str)} {rank : Str → Nat} (hr : ∀ p ∈ pairs, rank p.2 < rank p.1) : ∀ (k : Nat) {n x : Str}, rank n ≤ k → Reach (dirD pairs) n x → RLe (dirD pairs) k n x
  | 0, n, x, hk, r => by have := reach_rank hr r; omega
  | k + 1, n, x, hk, r => by
    rcases r.head with h | ⟨y, hy, h⟩
    · exact .inl h
    · have := hr _ (dir_mem.mp hy)
      simp only at this
      exact .inr ⟨y, hy, reach_rle hr k (by omega) h⟩
abbrev tabT (names : List Str) (F : Str → List Str) : List (Key × T) := names.map fun n => ((Sum.inr n : Key), lS (F n))
theorem dirTab_eq (names : List Str) (pairs : List (Str × Str)) : (names.map fun n => ((Sum.inr n : Key), T.lst ((pairs.filter fun p => decide (p.1 = n)).map fun p => .str p.2))) = tabT names (dirD pairs) := by
  have := dirT_eq names pairs
  injection this
theorem pc_told (names : List Str) (D : Str → List Str) : pureC (.dic (names.map fun n => ((Sum.inr n : Key), tS (D n)))) = true := by
  show (List.all (names.map fun n => ((Sum.inr n : Key), tS (D n))) fun p => pureB p.2) = true
  rw [List.all_map, List.all_eq_true]
  exact fun n _ => pure_tS _
theorem flat_len {α β : Type} {f : α → List β} {c : Nat} (h : ∀ a, (f a).length ≤ c) : ∀ l : List α, (l.flatMap f).length ≤ l.length * c
  | [] => by simp
  | a :: l => by
    have h1 := h a
    have h2 := flat_len h l
    simp only [List.flatMap_cons, List.length_append, List.length_cons, Nat.add_mul, Nat.one_mul]
    omega
theorem fold_app {α β γ : Type} (f : α → List β) (g : α → γ) : ∀ (l : List α) (l0 : List β) (o : Option γ), ∃ o', l.foldl (fun (s : List β × Option γ) n => (s.1 ++ f n, some (g n))) (l0, o) = (l0 ++ l.flatMap f, o')
  | [], l0, o => ⟨o, by simp⟩
  | a :: l, l0, o => by
    obtain ⟨o', e⟩ := fold_app f g l (l0 ++ f a) (some (g a))
    exact ⟨o', by rw [List.foldl_cons, e, List.flatMap_cons, List.append_assoc]⟩
def updF (F : Str → List Str) (n : Str) (v : List Str) : Str → List Str := fun m => if m = n then v else F m
theorem put_tab {names : List Str} {F : Str → List Str} {n : Str} {v : List Str} (hn : n ∈ names) : putD (tabT names F) (Sum.inr n) (lS v) = tabT names (updF F n v) := by
  unfold putD
  have h1 : ((tabT names F).any fun kv => decide (kv.1 = Sum.inr n)) = true := List.any_eq_true.mpr ⟨_, List.mem_map.mpr ⟨n, hn, rfl⟩, decide_eq_true rfl⟩
  rw [if_pos h1, List.map_map]
  apply List.map_congr_left
  intro m _
  show (if (Sum.inr m : Key) = Sum.inr n then ((Sum.inr m : Key), lS v) else (Sum.inr m, lS (F m))) = (Sum.inr m, lS (updF F n v m))
  unfold updF
  by_cases e : m = n
  · subst e; simp
  · have : ¬ (Sum.inr m : Key) = Sum.inr n := fun z => e (Sum.inr.inj z)
    rw [if_neg this, if_neg e]
/-- one step: what a told one tells is told too -/
def stepT (F : Str → List Str) (n far : Str) : Str → List Str := updF F n (F n ++ (F far).filter fun x => !decide (x ∈ F n))
/-- what stays true of the table -/
structure TI (names : List Str) (pairs : List (Str × Str)) (F : Str → List Str) : Prop where
  base : ∀ n x, x ∈ dirD pairs n → x ∈ F n
  sound : ∀ n x, x ∈ F n → Reach (dirD pairs) n x
  nd : ∀ n, (F n).Nodup
theorem stepT_mem {F : Str → List Str} {n far m x : Str} : x ∈ stepT F n far m ↔ x ∈ F m ∨ (m = n ∧ x ∈ F far) := by
  unfold stepT updF
  by_cases e : m = n
  · subst e
    rw [if_pos rfl, List.mem_append, List.mem_filter]
    by_cases hx : x ∈ F m <;> simp [hx]
  · rw [if_neg e]
    simp [e]
theorem TI.step {names : List Str} {pairs : List (Str × Str)} {F : Str → List Str} {n far : Str} (h : TI names pairs F) (hf : Reach (dirD pairs) n far) : TI names pairs (stepT F n far) := by
  refine ⟨fun m x hx => stepT_mem.mpr (.inl (h.base m x hx)), fun m x hx => ?_, fun m => ?_⟩
  · rcases stepT_mem.mp hx with q | ⟨rfl, q⟩
    · exact h.sound m x q
    · exact hf.trans (h.sound far x q)
  · unfold stepT updF
    by_cases e : m = n
    · rw [if_pos e, List.nodup_append]
      refine ⟨h.nd n, (h.nd far).filter _, fun a ha b hb z => ?_⟩
      subst z
      simpa [ha] using (List.mem_filter.mp hb).2
    · rw [if_neg e]; exact h.nd m
theorem TI.len {names : List Str} {pairs : List (Str × Str)} {F : Str → List Str} (b : Bk names pairs) (h : TI names pairs F) (n : Str) : (F n).length ≤ names.length :=
  (h.nd n).length_le_of_subset fun x hx => (b.reach_in (h.sound n x hx)).2
/-- one name gone over -/
theorem rowT {names : List Str} {pairs : List (Str × Str)} {n : Str} : ∀ (l : List Str) {F : Str → List Str}, TI names pairs F → (∀ x ∈ l, Reach (dirD pairs) n x) → TI names pairs (l.foldl (fun F far => stepT F n far) F) ∧ (∀ m x, x ∈ F m → x ∈ l.foldl (fun F far => stepT F n far) F m) ∧ ∀ far ∈ l, ∀ x ∈ F far, x ∈ l.foldl (fun F far => stepT F n far) F n
  | [], F, h, _ => ⟨h, fun _ _ q => q, fun _ q => by cases q⟩
  | a :: l, F, h, hl => by
    obtain ⟨h1, h2, h3⟩ := rowT l (h.step (hl a (List.mem_cons_self ..))) fun x hx => hl x (List.mem_cons_of_mem _ hx)
    refine ⟨h1, fun m x q => h2 m x (stepT_mem.mpr (.inl q)), fun far hf x hx => ?_⟩
    rcases List.mem_cons.mp hf with rfl | hf
    · exact h2 n x (stepT_mem.mpr (.inr ⟨rfl, hx⟩))
    · exact h3 far hf x (stepT_mem.mpr (.inl hx))
def rowF (F : Str → List Str) (n : Str) : Str → List Str := (F n).foldl (fun F far => stepT F n far) F
theorem rowF_ok {names : List Str} {pairs : List (Str × Str)} {F : Str → List Str} {n : Str} {t : Nat} (h : TI names pairs F) (hc : ∀ m x, RLe (dirD pairs) (t + 1) m x → x ∈ F m) :
    TI names pairs (rowF F n) ∧ (∀ m x, x ∈ F m → x ∈ rowF F n m) ∧ ∀ x, RLe (dirD pairs) (t + 2) n x → x ∈ rowF F n n := by
  obtain ⟨h1, h2, h3⟩ := rowT (n := n) (F n) h fun x hx => h.sound n x hx
  refine ⟨h1, h2, fun x r => ?_⟩
  rcases r with r | ⟨y, hy, r⟩
  · exact h2 n x (h.base n x r)
  · exact h3 y (h.base n y hy) x (hc y x r)
/-- all names gone over once -/
theorem turnT {names : List Str} {pairs : List (Str × Str)} {t : Nat} : ∀ (l : List Str) {F : Str → List Str}, TI names pairs F → (∀ m x, RLe (dirD pairs) (t + 1) m x → x ∈ F m) →
    TI names pairs (l.foldl rowF F) ∧ (∀ m x, x ∈ F m → x ∈ l.foldl rowF F m) ∧ ∀ n ∈ l, ∀ x, RLe (dirD pairs) (t + 2) n x → x ∈ l.foldl rowF F n
  | [], F, h, _ => ⟨h, fun _ _ q => q, fun _ q => by cases q⟩
  | a :: l, F, h, hc => by
    obtain ⟨h1, h2, h3⟩ := rowF_ok (n := a) h hc
    obtain ⟨k1, k2, k3⟩ := turnT l h1 fun m x r => h2 m x (hc m x r)
    refine ⟨k1, fun m x q => k2 m x (h2 m x q), fun n hn x r => ?_⟩
    rcases List.mem_cons.mp hn with rfl | hn
    · exact k2 n x (h3 x r)
    · exact k3 n hn x r
theorem roundT {names : List Str} {pairs : List (Str × Str)} (b : Bk names pairs) {t : Nat} {F : Str → List Str} (h : TI names pairs F) (hc : ∀ m x, RLe (dirD pairs) (t + 1) m x → x ∈ F m) :
    TI names pairs (names.foldl rowF F) ∧ ∀ m x, RLe (dirD pairs) (t + 2) m x → x ∈ names.foldl rowF F m := by
  obtain ⟨h1, _, h3⟩ := turnT names h hc
  exact ⟨h1, fun m x r => h3 m (b.reach_in r.reach).1 x r⟩
theorem allT {names : List Str} {pairs : List (Str × Str)} (b : Bk names pairs) : ∀ (k t : Nat) {F : Str → List Str}, TI names pairs F → (∀ m x, RLe (dirD pairs) (t + 1) m x → x ∈ F m) →
    TI names pairs ((List.range k).foldl (fun F _ => names.foldl rowF F) F) ∧ ∀ m x, RLe (dirD pairs) (t + k + 1) m x → x ∈ (List.range k).foldl (fun F _ => names.foldl rowF F) F m
  | 0, t, F, h, hc => ⟨h, hc⟩
  | k + 1, t, F, h, hc => by
    obtain ⟨h1, h2⟩ := allT b k t h hc
    rw [List.range_succ, List.foldl_append]
    obtain ⟨h3, h4⟩ := roundT b h1 h2
    exact ⟨h3, fun m x r => h4 m x (by rw [show t + k + 2 = t + (k + 1) + 1 by omega]; exact r)⟩
/-- the table at the end -/
def tabF (names : List Str) (pairs : List (Str × Str)) : Str → List Str := (List.range names.length).foldl (fun F _ => names.foldl rowF F) (dirD pairs)
theorem tabF_ok {names : List Str} {pairs : List (Str × Str)} (b : Bk names pairs) : TI names pairs (tabF names pairs) ∧ ∀ n x, x ∈ tabF names pairs n ↔ Reach (dirD pairs) n x := by
  obtain ⟨rank, h1, h2⟩ := b.rk
  have h0 : TI names pairs (dirD pairs) := ⟨fun _ _ h => h, fun _ _ h => .one h, b.dnd⟩
  obtain ⟨h3, h4⟩ := allT b names.length 0 h0 fun m x r => by
    rcases r with r | ⟨y, _, r⟩
    · exact r
    · exact r.elim
  refine ⟨h3, fun n x => ⟨h3.sound n x, fun r => h4 n x ?_⟩⟩
  have := h1 n (b.reach_in r).1
  exact (reach_rle h2 (rank n) (Nat.le_refl _) r).up (by omega)
theorem told_eq {names : List Str} {pairs : List (Str × Str)} (b : Bk names pairs) (n : Str) : (names.filter fun x => decide (x ∈ tabF names pairs n)) = tldB names pairs n :=
  asc_ext (b.asc.filter _) (b.tasc n) fun x => by
    rw [List.mem_filter, mem_tldB b, decide_eq_true_eq, (tabF_ok b).2]
    exact ⟨(·.2), fun r => ⟨(b.reach_in r).2, r⟩⟩
end Sv
end
section
set_option linter.all false
set_option maxRecDepth 100000
set_option maxHeartbeats 4000000
/-! SvSets: the law's own list of KEYSETs is that of Keys. Plain Lean. -/
namespace Sv
open PySem L2 PySem.Spec
theorem toks_dS : ∀ (a b : List Str), PyProof.Rows.lexLt PyProof.Rows.itemOrd (PySem.W.keyToksAll (a.map .str)) (PySem.W.keyToksAll (b.map .str)) = lexS a b
  | [], [] => by simp [PySem.W.keyToksAll, PyProof.Rows.lexLt, lexS, PyProof.Rows.itemLt]
  | [], y :: b => by simp [PySem.W.keyToksAll, PyProof.Rows.lexLt, lexS, PyProof.Rows.itemLt]
  | x :: a, [] => by simp [PySem.W.keyToksAll, PyProof.Rows.lexLt, lexS, PyProof.Rows.itemLt]
  | x :: a, y :: b => by
    have ih := toks_dS a b
    simp only [List.map_cons, PySem.W.keyToksAll, PySem.W.keyToks, List.cons_append, List.nil_append, PyProof.Rows.lexLt, ih, lexS]
    simp [PyProof.Rows.itemLt, ltS, PyProof.Rows.ltCps_eq]
theorem alike_dS : ∀ (a b : List Str), PySem.W.alikeAll (a.map .str) (b.map .str) = true
  | [], _ => by simp [PySem.W.alikeAll]
  | _ :: _, [] => by simp [PySem.W.alikeAll]
  | x :: a, y :: b => by simp [PySem.W.alikeAll, PySem.W.alike, alike_dS a b]
theorem le_tS {E : Ev} {st : Stor} {a b : List Str} : cmpV E .LtE (tS a) (tS b) st = .ok (.val (.bl (!lexS b a))) st := by
  show ofB st (leT st (tS a) (tS b)) = _
  unfold leT ordT
  have e1 : rd st (tS a) = some (.tuple (a.map .str)) := rd20 (by decide) st (⟨a⟩ : Tup Str)
  have e2 : rd st (tS b) = some (.tuple (b.map .str)) := rd20 (by decide) st (⟨b⟩ : Tup Str)
  rw [e1, e2]
  have h1 : (PySem.W.alike (.tuple (a.map .str)) (.tuple (b.map .str)) && notNone (.tuple (a.map .str))) = true := by
    simp [PySem.W.alike, alike_dS, notNone]
  simp only [h1, if_true]
  show ofB st (some (!PySem.W.dataLt _ _)) = _
  have h2 : PySem.W.dataLt (.tuple (b.map .str)) (.tuple (a.map .str)) = lexS b a := by
    unfold PySem.W.dataLt
    simp only [PySem.W.keyToks]
    exact toks_dS b a
  rw [h2]
  rfl
theorem slc_to {xs : List T} {n : Nat} {st : Stor} (h : n ≤ xs.length) : slcV (.lst xs) none (some (n : Int)) st = .ok (.new (.lst (xs.take n))) st := by
  have e1 : HT.sIx xs.length 0 none = 0 := rfl
  have e2 : HT.sIx xs.length xs.length (some (n : Int)) = n := by
    unfold HT.sIx
    simp
    rw [if_neg (by omega)]
    omega
  simp only [slcV, cutT, e1, e2]
  simp
theorem slc_from {xs : List T} {n : Nat} {st : Stor} (h : n ≤ xs.length) : slcV (.lst xs) (some (n : Int)) none st = .ok (.new (.lst (xs.drop n))) st := by
  have e1 : HT.sIx xs.length 0 (some (n : Int)) = n := by
    unfold HT.sIx
    simp
    rw [if_neg (by omega)]
    omega
  have e2 : HT.sIx xs.length xs.length none = xs.length := rfl
  simp only [slcV, cutT, e1, e2]
  rw [List.take_of_length_le (by simp)]
/-- put in its place -/
def insK (done : List (List Str)) (own : List Str) : List (List Str) := done.take (done.filter fun b => !lexS own b).length ++ [own] ++ done.drop (done.filter fun b => !lexS own b).length
def risL (rows : List (List Str)) : List (List Str) := rows.foldl insK []
/-- rows that can be compared by their texts -/
def Cp (m : Nat) (a : List Str) : Prop := a.length = m ∧ ∀ n ∈ a, Nm n
theorem Cp.lt {m : Nat} {a b : List Str} (hm : m < 10) (ha : Cp m a) (hb : Cp m b) : lexS a b = ltS (jn a) (jn b) := by
  rw [jn_lt (by rw [ha.1]; exact hm) (by rw [hb.1]; exact hm) ha.2 hb.2]
  unfold ltK
  simp [ha.1, hb.1]
theorem insK_cons_le {b own : List Str} {d : List (List Str)} (h : lexS own b = false) : insK (b :: d) own = b :: insK d own := by
  unfold insK
  rw [List.filter_cons]
  simp [h]
theorem insK_ok {m : Nat} (hm : m < 10) {own : List Str} (ho : Cp m own) : ∀ {done : List (List Str)}, (∀ a ∈ done, Cp m a) → done.Pairwise (fun a b => ltS (jn b) (jn a) = false) →
    (insK done own).Perm (own :: done) ∧ (insK done own).Pairwise (fun a b => ltS (jn b) (jn a) = false)
  | [], _, _ => by simp [insK]
  | b :: d, hd, hp => by
    obtain ⟨h1, h2⟩ := List.pairwise_cons.mp hp
    have hb := hd b (List.mem_cons_self ..)
    have e := Cp.lt hm ho hb
    cases hl : lexS own b with
    | false =>
      obtain ⟨k1, k2⟩ := insK_ok hm ho (fun a ha => hd a (List.mem_cons_of_mem _ ha)) h2
      rw [insK_cons_le hl]
      refine ⟨(k1.cons b).trans (List.Perm.swap own b d), List.pairwise_cons.mpr ⟨fun c hc => ?_, k2⟩⟩
      rcases List.mem_cons.mp (k1.mem_iff.mp hc) with rfl | hc
      · rw [← e]; exact hl
      · exact h1 c hc
    | true =>
      have hall : (b :: d).filter (fun c => !lexS own c) = [] := by
        rw [List.filter_eq_nil_iff]
        intro c hc
        have hcp := hd c hc
        have hlt : lexS own c = true := by
          rcases List.mem_cons.mp hc with rfl | hc
          · exact hl
          · rw [Cp.lt hm ho hcp]
            have q := h1 c hc
            rw [e] at hl
            cases q2 : ltS (jn own) (jn c) with
            | true => rfl
            | false =>
              have := leS_trans q q2
              rw [this] at hl; cases hl
        simp [hlt]
      have e2 : insK (b :: d) own = own :: b :: d := by
        unfold insK
        rw [hall]
        simp
      rw [e2]
      refine ⟨.refl _, List.pairwise_cons.mpr ⟨fun c hc => ?_, hp⟩⟩
      have hcp := hd c hc
      rw [e] at hl
      rcases List.mem_cons.mp hc with rfl | hc
      · exact ltS_asymm hl
      · exact leS_trans (ltS_asymm hl) (h1 c hc)
theorem risA {m : Nat} (hm : m < 10) : ∀ (rows done : List (List Str)), (∀ a ∈ rows, Cp m a) → (∀ a ∈ done, Cp m a) → done.Pairwise (fun a b => ltS (jn b) (jn a) = false) →
    (rows.foldl insK done).Perm (rows ++ done) ∧ (rows.foldl insK done).Pairwise (fun a b => ltS (jn b) (jn a) = false)
  | [], done, _, _, hp => ⟨.refl _, hp⟩
  | r :: rows, done, hr, hd, hp => by
    have hrm := hr r (List.mem_cons_self ..)
    obtain ⟨k1, k2⟩ := insK_ok hm hrm hd hp
    obtain ⟨q1, q2⟩ := risA hm rows (insK done r) (fun a ha => hr a (List.mem_cons_of_mem _ ha)) (fun a ha => by
      rcases List.mem_cons.mp (k1.mem_iff.mp ha) with rfl | ha
      · exact hrm
      · exact hd a ha) k2
    exact ⟨q1.trans ((k1.append_left rows).trans List.perm_middle), q2⟩
theorem risL_ok {m : Nat} (hm : m < 10) {rows : List (List Str)} (hr : ∀ a ∈ rows, Cp m a) (nd : rows.Nodup) : (risL rows).Perm rows ∧ (risL rows).Pairwise (fun a b => ltS (jn a) (jn b) = true) := by
  obtain ⟨h1, h2⟩ := risA hm rows [] hr (by simp) .nil
  rw [List.append_nil] at h1
  refine ⟨h1, ?_⟩
  have nd' : (risL rows).Nodup := h1.nodup_iff.mpr nd
  refine List.Pairwise.imp_of_mem ?_ (List.Pairwise.and nd' h2)
  intro a b ha hb q
  have ca := hr a (h1.mem_iff.mp ha)
  have cb := hr b (h1.mem_iff.mp hb)
  cases e : ltS (jn a) (jn b) with
  | true => rfl
  | false => exact absurd (jn_inj (by rw [ca.1]; exact hm) (by rw [cb.1]; exact hm) ca.2 cb.2 (ltS_tri e q.2)) q.1
section
variable {names : List Str} {pairs : List (Str × Str)}
noncomputable def rowsM (h : Bk names pairs) (m : Nat) : List (List Str) := (subs names).filter fun a => decide (a.length = m) && decide (cd (mkK h) a = a)
theorem cd_closed (h : Bk names pairs) {a : List Str} (ha : Asc a) (hs : ∀ x ∈ a, x ∈ names) : cd (mkK h) a = a ↔ ∀ x ∈ a, ∀ y ∈ tldB names pairs x, y ∈ a := by
  have hno : ¬ ("#" : Str) ∈ a := fun q => h.no (hs _ q)
  have e : cd (mkK h) a = sortS (dedupS (a.flatMap fun n => n :: tldB names pairs n)) := by
    unfold cd
    rw [if_neg hno]
    rfl
  rw [e]
  constructor
  · intro q x hx y hy
    rw [← q, mem_sset]
    exact List.mem_flatMap.mpr ⟨x, hx, List.mem_cons_of_mem _ hy⟩
  · intro q
    refine asc_ext (asc_sort _) ha fun x => ?_
    rw [mem_sset, List.mem_flatMap]
    constructor
    · rintro ⟨n, hn, hx⟩
      rcases List.mem_cons.mp hx with rfl | hx
      · exact hn
      · exact q n hn x hx
    · intro hx
      exact ⟨x, hx, List.mem_cons_self ..⟩
theorem mem_rows (h : Bk names pairs) {m : Nat} {a : List Str} : a ∈ rowsM h m ↔ a ∈ clB' names pairs ∧ a.length = m := by
  unfold rowsM
  rw [List.mem_filter, mem_clB h, Bool.and_eq_true, decide_eq_true_eq, decide_eq_true_eq, mem_subs]
  constructor
  · rintro ⟨h1, h2, h3⟩
    have q := h.asc.sub h1
    exact ⟨⟨⟨q, fun x hx => h1.subset hx⟩, (cd_closed h q fun x hx => h1.subset hx).mp h3⟩, h2⟩
  · rintro ⟨⟨⟨h1, h2⟩, h3⟩, h4⟩
    exact ⟨asc_sublist h1 h.asc h2, h4, (cd_closed h h1 h2).mpr h3⟩
theorem rows_cp (h : Bk names pairs) {m : Nat} {a : List Str} (ha : a ∈ rowsM h m) : Cp m a := by
  have := (mem_rows h).mp ha
  exact ⟨this.2, (sub_nm h (List.mem_filter.mp this.1).1).2⟩
noncomputable def setsL (h : Bk names pairs) (k : Nat) : List (List Str) := (List.range k).flatMap fun m => risL (rowsM h m)
theorem rows_nd (h : Bk names pairs) (m : Nat) : (rowsM h m).Nodup := (subs_nodup h.asc.nodup).filter _
theorem mem_setsL (h : Bk names pairs) {k : Nat} (hk : k ≤ 10) {a : List Str} : a ∈ setsL h k ↔ a ∈ clB' names pairs ∧ a.length < k := by
  unfold setsL
  rw [List.mem_flatMap]
  constructor
  · rintro ⟨m, hm, ha⟩
    have hm := List.mem_range.mp hm
    have := (mem_rows h).mp ((risL_ok (by omega) (fun a ha => rows_cp h ha) (rows_nd h m)).1.mem_iff.mp ha)
    exact ⟨this.1, by omega⟩
  · rintro ⟨h1, h2⟩
    exact ⟨a.length, List.mem_range.mpr h2, (risL_ok (by omega) (fun a ha => rows_cp h ha) (rows_nd h _)).1.mem_iff.mpr ((mem_rows h).mpr ⟨h1, rfl⟩)⟩
theorem setsL_rise (h : Bk names pairs) : ∀ k, k ≤ 10 → (setsL h k).Pairwise (fun a b => ltS (jn a) (jn b) = true)
  | 0, _ => by simp [setsL]
  | k + 1, hk => by
    have ih := setsL_rise h k (by omega)
    have e : setsL h (k + 1) = setsL h k ++ risL (rowsM h k) := by
      unfold setsL
      rw [List.range_succ, List.flatMap_append]
      simp
    have r := risL_ok (m := k) (by omega) (fun a ha => rows_cp h ha) (rows_nd h k)
    rw [e, List.pairwise_append]
    refine ⟨ih, r.2, fun a ha b hb => ?_⟩
    obtain ⟨q1, q2⟩ := (mem_setsL h (by omega)).mp ha
    obtain ⟨q3, q4⟩ := (mem_rows h).mp (r.1.mem_iff.mp hb)
    obtain ⟨n1, n2⟩ := sub_nm h (List.mem_filter.mp q1).1
    obtain ⟨n3, n4⟩ := sub_nm h (List.mem_filter.mp q3).1
    rw [jn_lt n1 n3 n2 n4]
    unfold ltK
    have : a.length < b.length := by omega
    simp [this]
theorem setsL_eq (h : Bk names pairs) : setsL h (names.length + 1) ++ [rcd] = (mkK h).ks := by
  have hl := h.len
  show _ = ksB names pairs ++ [rcd]
  congr 1
  refine rise_ext (setsL_rise h _ (by omega)) (ks_rise h) fun a => ?_
  rw [mem_setsL h (by omega), (ks_perm h).mem_iff]
  constructor
  · exact (·.1)
  · intro q
    have := ((mem_subs _ _).mp (List.mem_filter.mp q).1).length_le
    exact ⟨q, by omega⟩
end
end Sv
namespace Sv
open PySem L2 PySem.Spec
theorem pt_n : partOf .non = some none := rfl
theorem pt_i {i : Int} : partOf (.int i) = some (some i) := rfl
theorem insK_len (d : List (List Str)) (a : List Str) : (insK d a).length = d.length + 1 := by
  unfold insK
  have := List.length_filter_le (fun b => !lexS a b) d
  simp
  omega
theorem risL_len (rows : List (List Str)) : (risL rows).length = rows.length := by
  unfold risL
  suffices h : ∀ (rows d : List (List Str)), (rows.foldl insK d).length = d.length + rows.length by simpa using h rows []
  intro rows
  induction rows with
  | nil => simp
  | cons r rows ih => intro d; rw [List.foldl_cons, ih, insK_len]; simp; omega
theorem i_rngS {E : Ev} {sl : Slt} {st st1 : Stor} {a : C} {n : Nat} (ha : evE E a sl st = .ok (.val (.int (n : Int))) st1) (h2 : n < 1000000) : evI E (.rng (.cons (.bin .Add a (.lit (.int 1))) .nil)) sl st = .ok (.fix ((List.range (n + 1)).map fun i : Nat => T.int ((i : Nat) : Int))) st1 := by
  refine i_rngN (n := n + 1) ?_ (by omega)
  exact a_cons (e_bin ha rfl e_lit rfl bi_add) rfl a_nil
theorem range_at {n : Nat} {d e : List Nat} {a : Nat} (q : List.range n = d ++ a :: e) : a = d.length := by
  have h : (List.range n)[d.length]? = some a := by rw [q]; simp
  have hl : d.length < n := by have := congrArg List.length q; simp at this; omega
  rw [List.getElem?_range hl] at h
  exact (Option.some.inj h).symm
theorem setsL_succ {names : List Str} {pairs : List (Str × Str)} (h : Bk names pairs) (k : Nat) : setsL h (k + 1) = setsL h k ++ risL (rowsM h k) := by
  unfold setsL
  rw [List.range_succ, List.flatMap_append]
  simp
theorem rowsM_int {names : List Str} {pairs : List (Str × Str)} (h : Bk names pairs) (m : Nat) : ((subs names).filter fun a => decide ((a.length : Int) = (m : Int)) && decide (cd (mkK h) a = a)) = rowsM h m := by
  unfold rowsM
  congr 1
  funext a
  congr 1
  simp [Int.natCast_inj]
theorem setsL_len {names : List Str} {pairs : List (Str × Str)} (h : Bk names pairs) (k : Nat) : (setsL h k).length ≤ k * 16 := by
  induction k with
  | zero => simp [setsL]
  | succ k ih =>
    have hl := h.len
    have h1 : (rowsM h k).length ≤ (subs names).length := List.length_filter_le _ _
    rw [subs_len] at h1
    have h2 : 2 ^ names.length ≤ 2 ^ 4 := Nat.pow_le_pow_right (by decide) (by omega)
    rw [setsL_succ, List.length_append, risL_len]
    omega
theorem fold_subs (names : List Str) : ∀ (f : List (List Str)) (o : Option T), ∃ o', names.foldl (fun (s : List (List Str) × Option T) n => (s.1 ++ s.1.map (· ++ [n]), some (.str n))) (f, o) = (names.foldl (fun f n => f ++ f.map (· ++ [n])) f, o') := by
  induction names with
  | nil => exact fun f o => ⟨o, rfl⟩
  | cons n l ih => exact fun f o => ih _ _
end Sv
end
section
set_option linter.all false
set_option maxRecDepth 100000
set_option maxHeartbeats 4000000
/-! SvSame: plain data, for `_law_same`. -/
namespace Sv
open PySem L2
/-- plain data, not deeper than this -/
def plT : Nat → T → Bool
  | 0, _ => false
  | k + 1, t => match t with
    | .tup xs => decide (xs.length ≤ 16777216) && xs.all (plT k)
    | .lst xs => decide (xs.length ≤ 16777216) && xs.all (plT k)
    | .non => true
    | .bl _ => true
    | .int _ => true
    | .str _ => true
    | _ => false
theorem zipT_self : ∀ xs : List T, zipT xs xs = xs.map fun x => .tup [x, x]
  | [] => rfl
  | x :: xs => by rw [List.map_cons, ← zipT_self xs]; rfl
section
variable {E : Ev} {sl : Slt} {st st1 : Stor}
theorem i_zipLL {as : C} {xs : List T} (h : evA E as sl st = .ok [.lst xs, .lst xs] st1) : evI E (.zip as) sl st = .ok (.fix (xs.map fun x => .tup [x, x])) st1 := by rw [i_zipL h, zipT_self]
theorem i_zipTT {as : C} {xs : List T} (h : evA E as sl st = .ok [.tup xs, .tup xs] st1) : evI E (.zip as) sl st = .ok (.fix (xs.map fun x => .tup [x, x])) st1 := by rw [i_zipT h, zipT_self]
theorem i_zipLv {i j : Nat} {xs : List T} (h1 : sl[i]? = some (some (.lst xs))) (h2 : sl[j]? = some (some (.lst xs))) : evI E (.zip (.cons (.var i) (.cons (.var j) .nil))) sl st = .ok (.fix (xs.map fun x => .tup [x, x])) st := i_zipLL (a_cons (e_var h1) rfl (a_cons (e_var h2) rfl a_nil))
theorem i_zipTv {i j : Nat} {xs : List T} (h1 : sl[i]? = some (some (.tup xs))) (h2 : sl[j]? = some (some (.tup xs))) : evI E (.zip (.cons (.var i) (.cons (.var j) .nil))) sl st = .ok (.fix (xs.map fun x => .tup [x, x])) st := i_zipTT (a_cons (e_var h1) rfl (a_cons (e_var h2) rfl a_nil))
theorem is_str {s : Str} : cmpV E .Is (.str s) .non st = .ok (.val (.bl false)) st := rfl
theorem is_bl {s : Bool} : cmpV E .Is (.bl s) .non st = .ok (.val (.bl false)) st := rfl
theorem is_int {s : Int} : cmpV E .Is (.int s) .non st = .ok (.val (.bl false)) st := rfl
theorem is_non : cmpV E .Is .non .non st = .ok (.val (.bl true)) st := rfl
theorem eq_non : eqT st .non .non = some true := rfl
theorem same_all {n : Nat} {xs : List T} : (decide ((n : Int) = (n : Int)) && xs.all fun _ => true) = true := by simp
end
end Sv
end
section
set_option linter.all false
set_option maxRecDepth 100000
set_option maxHeartbeats 4000000
/-! SvLat: the KEYSETs of a book are closed under joint and common; tops. Plain Lean. -/
namespace Sv
open PySem L2
theorem sset_len (l : List Str) : (sortS (dedupS l)).length ≤ l.length := (asc_sort l).nodup.length_le_of_subset fun x hx => mem_sset.mp hx
theorem jo_len (a b : List Str) : (jo a b).length ≤ a.length + b.length + 1 := by
  unfold jo
  split
  · simp
  · have := sset_len (a ++ b)
    rw [List.length_append] at this
    omega
theorem co_len (a b : List Str) : (co a b).length ≤ a.length + b.length := by
  unfold co
  split
  · omega
  · split
    · omega
    · have := List.length_filter_le (fun x => decide (x ∈ b)) a
      omega
section
variable {names : List Str} {pairs : List (Str × Str)} {a b : List Str}
theorem ks_len4 (h : Bk names pairs) (ha : a ∈ (mkK h).ks) : a.length ≤ 4 := by
  rcases (mem_ks h).mp ha with rfl | ⟨h1, h2, _⟩
  · simp
  · exact Nat.le_trans (h1.nodup.length_le_of_subset h2) h.len
theorem nr_ks (h : Bk names pairs) (ha : a ∈ (mkK h).ks) (hr : a ≠ rcd) : Nr a ∧ (∀ x ∈ a, x ∈ names) ∧ ∀ x ∈ a, ∀ y ∈ tldB names pairs x, y ∈ a := by
  have q := ks_isK h ha
  rcases (mem_ks h).mp ha with rfl | ⟨h1, h2, h3⟩
  · exact absurd rfl hr
  · rcases q with rfl | q
    · exact absurd rfl hr
    · exact ⟨q, h2, h3⟩
theorem ks_nr (h : Bk names pairs) (ha : Nr a) (h1 : ∀ x ∈ a, x ∈ names) (h2 : ∀ x ∈ a, ∀ y ∈ tldB names pairs x, y ∈ a) : a ∈ (mkK h).ks := (mem_ks h).mpr (.inr ⟨ha.asc, h1, h2⟩)
theorem jo_ks (h : Bk names pairs) (ha : a ∈ (mkK h).ks) (hb : b ∈ (mkK h).ks) : jo a b ∈ (mkK h).ks := by
  by_cases ea : a = rcd
  · subst ea; rw [jo_rcdL]; exact ha
  by_cases eb : b = rcd
  · subst eb; rw [jo_rcdR]; exact hb
  obtain ⟨a1, a2, a3⟩ := nr_ks h ha ea
  obtain ⟨b1, b2, b3⟩ := nr_ks h hb eb
  obtain ⟨c1, c2⟩ := a1.jo b1
  refine ks_nr h c1 (fun x hx => ?_) (fun x hx y hy => ?_)
  · rcases (c2 x).mp hx with q | q
    · exact a2 x q
    · exact b2 x q
  · rcases (c2 x).mp hx with q | q
    · exact (c2 y).mpr (.inl (a3 x q y hy))
    · exact (c2 y).mpr (.inr (b3 x q y hy))
theorem co_ks (h : Bk names pairs) (ha : a ∈ (mkK h).ks) (hb : b ∈ (mkK h).ks) : co a b ∈ (mkK h).ks := by
  by_cases ea : a = rcd
  · subst ea; rw [co_rcdL]; exact hb
  by_cases eb : b = rcd
  · subst eb; rw [co_rcdR]; exact ha
  obtain ⟨a1, a2, a3⟩ := nr_ks h ha ea
  obtain ⟨b1, b2, b3⟩ := nr_ks h hb eb
  obtain ⟨c1, c2⟩ := a1.co b1
  refine ks_nr h c1 (fun x hx => a2 x ((c2 x).mp hx).1) (fun x hx y hy => ?_)
  have q := (c2 x).mp hx
  exact (c2 y).mpr ⟨a3 x q.1 y hy, b3 x q.2 y hy⟩
end
theorem pl_tS (l : List Str) (h : l.length ≤ 16777216) : plT 2 (tS l) = true := by
  show (decide ((l.map T.str).length ≤ 16777216) && (l.map T.str).all (plT 1)) = true
  rw [List.length_map, List.all_map]
  simp [h, plT]
end Sv
end
section
set_option linter.all false
set_option maxRecDepth 100000
set_option maxHeartbeats 4000000
/-! SvTops: tops and what is below. Plain Lean. -/
namespace Sv
open PySem L2
theorem eq_t0 {st : Stor} : eqT st (.tup []) (.tup []) = some true := by
  have := eq_tS st [] []
  simpa using this
theorem mem_cd {K : Ks} {l : List Str} (h : ("#" : Str) ∉ l) {x : Str} : x ∈ cd K l ↔ ∃ n ∈ l, x = n ∨ x ∈ K.tld n := by
  unfold cd
  rw [if_neg h, mem_sset, List.mem_flatMap]
  simp only [List.mem_cons]
theorem asc_cd {K : Ks} {l : List Str} (h : ("#" : Str) ∉ l) : Asc (cd K l) := by
  unfold cd
  rw [if_neg h]
  exact asc_sort _
section
variable {names : List Str} {pairs : List (Str × Str)} {a b : List Str}
theorem mem_tp (h : Bk names pairs) (hr : a ≠ rcd) {x : Str} : x ∈ tp (mkK h) a ↔ x ∈ a ∧ ∀ o ∈ a, x ∉ tldB names pairs o := by
  unfold tp
  rw [if_neg hr, List.mem_filter]
  rw [Bool.not_eq_true', List.any_eq_false]
  exact ⟨fun ⟨p, q⟩ => ⟨p, fun o ho z => q o ho (decide_eq_true z)⟩, fun ⟨p, q⟩ => ⟨p, fun o ho z => q o ho (of_decide_eq_true z)⟩⟩
theorem tp_rcd (h : Bk names pairs) : tp (mkK h) rcd = rcd := by unfold tp; rw [if_pos rfl]
theorem cd_rcd (h : Bk names pairs) : cd (mkK h) rcd = rcd := by unfold cd; rw [if_pos (by simp)]
theorem tp_no (h : Bk names pairs) (ha : a ∈ (mkK h).ks) (hr : a ≠ rcd) : ("#" : Str) ∉ tp (mkK h) a := fun q => (nr_ks h ha hr).1.no ((mem_tp h hr).mp q).1
theorem top_over (h : Bk names pairs) (ha : a ∈ (mkK h).ks) (hr : a ≠ rcd) {rank : Str → Nat} (r1 : ∀ n ∈ names, rank n < names.length) (r2 : ∀ p ∈ pairs, rank p.2 < rank p.1) : ∀ (m : Nat) (x : Str), x ∈ a → names.length - rank x ≤ m → ∃ n ∈ tp (mkK h) a, x = n ∨ x ∈ tldB names pairs n
  | 0, x, hx, q => by
    have := r1 x ((nr_ks h ha hr).2.1 x hx)
    omega
  | m + 1, x, hx, q => by
    by_cases e : x ∈ tp (mkK h) a
    · exact ⟨x, e, .inl rfl⟩
    · have : ∃ o ∈ a, x ∈ tldB names pairs o := by
        rw [mem_tp h hr] at e
        simp only [not_and, Classical.not_forall, Classical.not_not] at e
        obtain ⟨o, ho, hxo⟩ := e hx
        exact ⟨o, ho, hxo⟩
      obtain ⟨o, ho, hxo⟩ := this
      have hro := (mem_tldB h).mp hxo
      have hlt := reach_rank r2 hro
      have hon := r1 o ((nr_ks h ha hr).2.1 o ho)
      obtain ⟨n, hn, q2⟩ := top_over h ha hr r1 r2 m o ho (by omega)
      refine ⟨n, hn, .inr ?_⟩
      rcases q2 with rfl | q2
      · exact hxo
      · exact (mem_tldB h).mpr (((mem_tldB h).mp q2).trans hro)
theorem cd_tp (h : Bk names pairs) (ha : a ∈ (mkK h).ks) : cd (mkK h) (tp (mkK h) a) = a := by
  by_cases hr : a = rcd
  · subst hr; rw [tp_rcd, cd_rcd]
  obtain ⟨a1, a2, a3⟩ := nr_ks h ha hr
  have hno := tp_no h ha hr
  refine asc_ext (asc_cd hno) a1.asc fun x => ?_
  rw [mem_cd hno]
  constructor
  · rintro ⟨n, hn, rfl | hx⟩
    · exact ((mem_tp h hr).mp hn).1
    · exact a3 n ((mem_tp h hr).mp hn).1 x hx
  · intro hx
    obtain ⟨rank, r1, r2⟩ := h.rk
    exact top_over h ha hr r1 r2 _ x hx (Nat.le_refl _)
theorem cd_few (h : Bk names pairs) (ha : a ∈ (mkK h).ks) {t : Str} (ht : t ∈ tp (mkK h) a) : cd (mkK h) ((tp (mkK h) a).filter fun x => !decide (x = t)) ≠ a := by
  by_cases hr : a = rcd
  · subst hr
    rw [tp_rcd] at ht ⊢
    have : t = "#" := by simpa using ht
    subst this
    have e : (rcd.filter fun x => !decide (x = ("#" : Str))) = [] := by simp
    rw [e]
    intro q
    have : ("#" : Str) ∈ cd (mkK h) [] := by rw [q]; simp
    rw [mem_cd (by simp)] at this
    simp at this
  · have hno := tp_no h ha hr
    intro q
    have h1 := (mem_tp h hr).mp ht
    have h2 := h1.1
    rw [← q, mem_cd (fun z => hno (List.mem_filter.mp z).1)] at h2
    obtain ⟨n, hn, q2⟩ := h2
    obtain ⟨n1, n2⟩ := List.mem_filter.mp hn
    rcases q2 with rfl | q2
    · simp at n2
    · exact h1.2 n ((mem_tp h hr).mp n1).1 q2
theorem tp_names (h : Bk names pairs) (ha : a ∈ (mkK h).ks) : ∀ n ∈ tp (mkK h) a, n = "#" ∨ n ∈ names := by
  by_cases hr : a = rcd
  · subst hr; rw [tp_rcd]; simp
  · exact fun n hn => .inr ((nr_ks h ha hr).2.1 n ((mem_tp h hr).mp hn).1)
theorem tp_len (h : Bk names pairs) (ha : a ∈ (mkK h).ks) : (tp (mkK h) a).length ≤ 4 := by
  refine Nat.le_trans ?_ (ks_len4 h ha)
  unfold tp
  split
  · rename_i e; rw [e]; exact Nat.le_refl _
  · exact List.length_filter_le _ _
theorem flat20 (h : Bk names pairs) {l : List Str} (hl : l.length ≤ 4) : (l.flatMap fun n => n :: (mkK h).tld n).length < 64 := by
  have := flat_len (f := fun n => n :: tldB names pairs n) (c := 5) (fun n => by have := Bk.tlen (names := names) (pairs := pairs) n; have := h.len; simp only [List.length_cons]; omega) l
  show (l.flatMap fun n => n :: tldB names pairs n).length < 64
  omega
/-! below -/
theorem last_of {α : Type} {R : α → α → Prop} {L : List α} {a : α} (hp : L.Pairwise R) (ha : a ∈ L) (hb : ∀ b ∈ L, b ≠ a → ¬ R a b) : L.getLast? = some a := by
  induction L with
  | nil => cases ha
  | cons x L ih =>
    obtain ⟨h1, h2⟩ := List.pairwise_cons.mp hp
    cases L with
    | nil =>
      rw [List.mem_singleton] at ha
      rw [ha]; rfl
    | cons y L =>
      rw [List.getLast?_cons_cons]
      rcases List.mem_cons.mp ha with rfl | ha
      · exact ih h2 (by
          by_cases e : y = a
          · rw [e]; exact List.mem_cons_self ..
          · exact absurd (h1 y (List.mem_cons_self ..)) (hb y (by simp) e)) (fun b hb2 hne => hb b (List.mem_cons_of_mem _ hb2) hne)
      · exact ih h2 ha (fun b hb2 hne => hb b (List.mem_cons_of_mem _ hb2) hne)
theorem head_of {α : Type} {R : α → α → Prop} {L M : List α} {a : α} (hp : L.Pairwise R) (ha : a ∈ L) (hb : ∀ b ∈ L, b ≠ a → ¬ R b a) : (L ++ M)[0]? = some a := by
  cases L with
  | nil => cases ha
  | cons x L =>
    rcases List.mem_cons.mp ha with rfl | q
    · rfl
    · by_cases e : x = a
      · rw [e]; rfl
      · exact absurd ((List.pairwise_cons.mp hp).1 a q) (hb x (List.mem_cons_self ..) e)
theorem ksB_nm (h : Bk names pairs) (ha : a ∈ ksB names pairs) : a.length < 10 ∧ ∀ n ∈ a, Nm n := sub_nm h (List.mem_filter.mp ((ks_perm h).mem_iff.mp ha)).1
theorem bl_eq (h : Bk names pairs) (hr : a ≠ rcd) : bl (mkK h) a = (ksB names pairs).filter (fun b => wi b a) ++ (if wi rcd a then [rcd] else []) := by
  show (ksB names pairs ++ [rcd]).filter _ = _
  rw [List.filter_append, List.filter_cons]
  rfl
theorem jn_short (h : Bk names pairs) (ha : a ∈ ksB names pairs) (hb : b ∈ ksB names pairs) (hl : a.length < b.length) : ltS (jn a) (jn b) = true := by
  obtain ⟨a1, a2⟩ := ksB_nm h ha
  obtain ⟨b1, b2⟩ := ksB_nm h hb
  rw [jn_lt a1 b1 a2 b2]
  simp [ltK, hl]
theorem nil_ksB (h : Bk names pairs) : [] ∈ ksB names pairs := by
  rw [(ks_perm h).mem_iff, mem_clB h]
  exact ⟨⟨.nil, by simp⟩, by simp⟩
theorem below_first (h : Bk names pairs) : (bl (mkK h) a)[0]? = some [] := by
  have e : bl (mkK h) a = (ksB names pairs).filter (fun b => wi b a) ++ [rcd].filter (fun b => wi b a) := by
    show (ksB names pairs ++ [rcd]).filter _ = _
    rw [List.filter_append]
  rw [e]
  refine head_of (List.Pairwise.filter _ (ks_rise h)) (List.mem_filter.mpr ⟨nil_ksB h, by unfold wi; split <;> simp⟩) fun b hb hne q => ?_
  have := jn_short h (nil_ksB h) (List.mem_filter.mp hb).1 (by cases b with | nil => exact absurd rfl hne | cons _ _ => simp)
  rw [ltS_asymm this] at q
  cases q
theorem below_last (h : Bk names pairs) (ha : a ∈ (mkK h).ks) : (bl (mkK h) a).getLast? = some a := by
  by_cases hr : a = rcd
  · subst hr
    have e : bl (mkK h) rcd = ksB names pairs ++ [rcd] := by
      show (ksB names pairs ++ [rcd]).filter _ = _
      rw [List.filter_eq_self]
      exact fun b _ => wi_rcd
    rw [e]
    simp
  · obtain ⟨a1, a2, a3⟩ := nr_ks h ha hr
    have e : bl (mkK h) a = (ksB names pairs).filter (fun b => wi b a) := by
      rw [bl_eq h hr, a1.wiF]; simp
    have hk : a ∈ ksB names pairs := by
      rcases List.mem_append.mp (show a ∈ ksB names pairs ++ [rcd] from ha) with q | q
      · exact q
      · exact absurd (List.mem_singleton.mp q) hr
    rw [e]
    refine last_of (List.Pairwise.filter _ (ks_rise h)) (List.mem_filter.mpr ⟨hk, a1.wi.mpr fun x hx => hx⟩) fun b hb hne q => ?_
    obtain ⟨b1, b2⟩ := List.mem_filter.mp hb
    have hsub := a1.wi.mp b2
    have hbk := (mem_clB h).mp ((ks_perm h).mem_iff.mp b1)
    have hs := asc_sublist hbk.1.1 a1.asc hsub
    have hlt : b.length < a.length := by
      rcases Nat.lt_or_ge b.length a.length with z | z
      · exact z
      · exact absurd (hs.eq_of_length_le z) hne
    have := jn_short h b1 hk hlt
    rw [ltS_asymm this] at q
    cases q
theorem at_last {L : List (List Str)} (h : L.getLast? = some a) : atI (L.map tS) (-1) = some (tS a) := by
  have hne : L ≠ [] := by rintro rfl; cases h
  have hl : 0 < L.length := List.length_pos_iff.mpr hne
  rw [List.getLast?_eq_getElem?] at h
  have e : ixN (L.map tS).length (-1) = some (L.length - 1) := by
    unfold ixN
    rw [List.length_map, if_neg (by omega), if_pos (by omega)]
    congr 1
    omega
  unfold atI
  rw [e, Option.bind_some, List.getElem?_map, h]
  rfl
theorem at_first {L : List (List Str)} (h : L[0]? = some a) : atI (L.map tS) 0 = some (tS a) := by
  cases L with
  | nil => cases h
  | cons x L =>
    have : x = a := by simpa using h
    subst this
    have e : ixN ((x :: L).map tS).length 0 = some 0 := by
      unfold ixN
      rw [List.length_map, List.length_cons, if_pos (by omega), if_pos (by omega)]
      rfl
    unfold atI
    rw [e]
    rfl
end
end Sv
end
section
set_option linter.all false
set_option maxRecDepth 100000
set_option maxHeartbeats 4000000
/-! SvUrn: the source of draws. -/
namespace Sv
open PySem L2
structure Urn where
  a : Int
  b : Int
  c : Int
abbrev urC (u : Urn) : Cell := .lst [.int u.a, .int u.b, .int u.c]
def tkOnce (u : Urn) : Int := ((u.b + 48271 * (u.c + 1)) * (39373 + (u.c + 1))).fmod 2147483647
def tkFar (u : Urn) : Int := (tkOnce u).fmod 40009 + 7
def tkTwice (u : Urn) : Int := ((tkOnce u + (u.c + 1) + u.b.fdiv 1000003) * tkFar u).fmod 2147483629
def tkV (u : Urn) (low : Int) : Int := if 0 < u.a then u.a.fmod low else (((tkTwice u * 48271 + tkOnce u).fmod 2147483587).fdiv 64).fmod low
def tkU (u : Urn) (low : Int) : Urn := if 0 < u.a then ⟨u.a.fdiv low, u.b, u.c⟩ else ⟨u.a, u.b, u.c + 1⟩
/-- not more than so many mixed numbers were drawn -/
def Urn.ub (u : Urn) (n : Int) : Prop := 0 ≤ u.c ∧ u.c ≤ n
theorem tk_ub {u : Urn} {n low : Int} (h : u.ub n) : (tkU u low).ub (n + 1) := by
  unfold Urn.ub tkU at *
  split <;> simp only <;> omega
theorem tk_lo {u : Urn} {low : Int} (h : 0 < low) : 0 ≤ tkV u low := by
  unfold tkV
  split <;> exact Int.fmod_nonneg_of_pos _ h
theorem tk_hi {u : Urn} {low : Int} (h : 0 < low) : tkV u low < low := by
  unfold tkV
  split <;> exact Int.fmod_lt_of_pos _ h
section
variable {E : Ev} {st : Stor}
theorem bi_mod {i j : Int} (h : j ≠ 0) : binV .Mod (.int i) (.int j) st = .ok (.val (.int (i.fmod j))) st := by simp only [binV, if_neg h]
theorem bi_fdv {i j : Int} (h : divOk j = true) : binV .FloorDiv (.int i) (.int j) st = .ok (.val (.int (i.fdiv j))) st := by simp only [binV, if_pos h]
theorem bi_mulL {i j : Int} (h : i.natAbs < 18446744073709551616) : binV .Mult (.int i) (.int j) st = .ok (.val (.int (i * j))) st := by
  have : mulOk i j = true := by unfold mulOk; simp [h]
  simp only [binV, if_pos this]
theorem bi_mulR {i j : Int} (h : j.natAbs < 18446744073709551616) : binV .Mult (.int i) (.int j) st = .ok (.val (.int (i * j))) st := by
  have : mulOk i j = true := by unfold mulOk; simp [h]
  simp only [binV, if_pos this]
theorem div_ok {j : Int} (h : 0 < j) (h2 : j < 1073741824) : divOk j = true := by
  unfold divOk
  have h1 : ¬ j = 0 := by omega
  have h3 : j.natAbs < 1073741824 := by omega
  simp [h1, h3]
theorem far_lt (u : Urn) : (tkFar u).natAbs < 18446744073709551616 := by
  unfold tkFar
  have h1 := Int.fmod_nonneg_of_pos (tkOnce u) (b := 40009) (by decide)
  have h2 := Int.fmod_lt_of_pos (tkOnce u) (b := 40009) (by decide)
  omega
variable {sl : Slt} {x y z xv : T} {xr : R}
theorem ix3_0 : idxV E (.cell 0) (.int 0) [.lst [x, y, z]] = .ok (.val x) [.lst [x, y, z]] := rfl
theorem ix3_1 : idxV E (.cell 0) (.int 1) [.lst [x, y, z]] = .ok (.val y) [.lst [x, y, z]] := rfl
theorem ix3_2 : idxV E (.cell 0) (.int 2) [.lst [x, y, z]] = .ok (.val z) [.lst [x, y, z]] := rfl
theorem s_sub3_0 {v : Nat} {e : C} (hv : sl[v]? = some (some (.cell 0))) (he : evE E e sl [.lst [x, y, z]] = .ok xr [.lst [x, y, z]]) (qxr : xr.fz = xv) : evS E (.sub (.var v) (.lit (.int 0)) e) sl [.lst [x, y, z]] = .ok (.nx, sl) [.lst [xv, y, z]] :=
  s_subL (n := 0) (j := 0) he qxr (e_var hv) e_lit rfl rfl
theorem s_sub3_2 {v : Nat} {e : C} (hv : sl[v]? = some (some (.cell 0))) (he : evE E e sl [.lst [x, y, z]] = .ok xr [.lst [x, y, z]]) (qxr : xr.fz = xv) : evS E (.sub (.var v) (.lit (.int 2)) e) sl [.lst [x, y, z]] = .ok (.nx, sl) [.lst [x, y, xv]] :=
  s_subL (n := 0) (j := 2) he qxr (e_var hv) e_lit rfl rfl
theorem leave1 {c c' : Cell} {r : R} : leave ([c] : Stor).length r [c'] = .ok r [c'] := leave_same r [c']
theorem pc_urn (u : Urn) : pureC (urC u) = true := rfl
theorem call_urn {cal : List T → Stor → Rs R} {xs : List T} {u u' : Urn} {r : R} {rest : Stor} (hp : xs.all pureB = true) (h : cal (.cell 0 :: xs) [urC u] = .ok r [urC u']) (hr : pureR r = true) : callC cal (.cell 0 :: xs) (urC u :: rest) = .ok r (urC u' :: rest) :=
  call_cell (n := 0) (c := urC u) (c' := urC u') rfl (pc_urn u) hp h hr (pc_urn u')
theorem leave_urn {c : Cell} {t : T} {u : Urn} {rest : Stor} (hp : pureB t = true) : leave ([c] : Stor).length (.val t) (urC u :: rest) = .ok (.val t) [urC u] := by
  rw [leave_val hp (by simp) (by simp [pc_urn])]
  rfl
end
theorem ixN_in {n : Nat} {i : Int} (h1 : 0 ≤ i) (h2 : i < n) : ixN n i = some i.toNat := by
  unfold ixN
  rw [if_pos h1, if_pos h2]
theorem at_in {α : Type} {τ : α → T} {l : List α} {i : Int} (x : α) (h1 : 0 ≤ i) (h2 : i < l.length) : atI (l.map τ) i = some (τ (l.getD i.toNat x)) := by
  have h3 : i.toNat < l.length := by omega
  unfold atI
  rw [List.length_map, ixN_in h1 h2, Option.bind_some, List.getElem?_map, List.getD_eq_getElem?_getD, List.getElem?_eq_getElem h3]
  rfl
theorem getD_mem {α : Type} {l : List α} {i : Nat} {x : α} (h : i < l.length) : l.getD i x ∈ l := by
  rw [List.getD_eq_getElem?_getD, List.getElem?_eq_getElem h]
  exact List.getElem_mem h
theorem erase_perm {α : Type} : ∀ {l : List α} {i : Nat} (h : i < l.length), (l[i] :: l.eraseIdx i).Perm l
  | x :: l, 0, _ => .refl _
  | x :: l, i + 1, h => (List.Perm.swap x (l[i]'(Nat.lt_of_succ_lt_succ h)) (l.eraseIdx i)).trans ((erase_perm (Nat.lt_of_succ_lt_succ h)).cons x)
theorem erase_map {α β : Type} (f : α → β) : ∀ (l : List α) (i : Nat), (l.eraseIdx i).map f = (l.map f).eraseIdx i
  | [], _ => rfl
  | x :: l, 0 => rfl
  | x :: l, i + 1 => by rw [List.eraseIdx_cons_succ, List.map_cons, List.map_cons, List.eraseIdx_cons_succ, erase_map f l i]
section
end
end Sv
end
section
set_option linter.all false
set_option maxRecDepth 100000
set_option maxHeartbeats 4000000
/-! SvBook: drawn books. -/
namespace Sv
open PySem L2
theorem enum_map {α : Type} (τ : α → T) : ∀ (l : List α) (k : Nat), enumT k (l.map τ) = (l.zipIdx k).map fun p => .tup [.int ((p.2 : Nat) : Int), τ p.1]
  | [], _ => rfl
  | x :: l, k => by
    rw [List.map_cons, List.zipIdx_cons, List.map_cons, ← enum_map τ l (k + 1)]
    rfl
section
variable {E : Ev} {sl : Slt} {st st1 st2 : Stor} {α : Type} {τ : α → T} {l : List α}
theorem i_enumM {as : C} (h : evA E as sl st = .ok [.lst (l.map τ)] st1) : evI E (.enum as) sl st = .ok (.fix ((l.zipIdx).map fun p => .tup [.int ((p.2 : Nat) : Int), τ p.1])) st1 := by
  rw [i_enum h, enum_map]
theorem slc_toM {i : Int} (h0 : 0 ≤ i) (h : i ≤ l.length) : slcV (.lst (l.map τ)) none (some i) st = .ok (.new (.lst ((l.take i.toNat).map τ))) st := by
  obtain ⟨n, rfl⟩ := Int.eq_ofNat_of_zero_le h0
  rw [slc_to (by rw [List.length_map]; omega), List.map_take]
  rfl
theorem slc_fromM {i : Nat} (h : i + 1 ≤ l.length) : slcV (.lst (l.map τ)) (some ((i : Int) + 1)) none st = .ok (.new (.lst ((l.drop (i + 1)).map τ))) st := by
  have := slc_from (xs := l.map τ) (n := i + 1) (st := st) (by rw [List.length_map]; omega)
  rw [List.map_drop]
  exact this
theorem t_andT {a b : C} {res : Rs Bool} {k : Bool} (ha : evT E a sl st = .ok k st1) (hk : k = true) (hb : evT E b sl st1 = res) : evT E (.and a b) sl st = res := by
  subst hk; simp only [evT, ha, bind_ok, if_true, hb]
theorem t_andF {a b : C} {k : Bool} (ha : evT E a sl st = .ok k st1) (hk : k = false) : evT E (.and a b) sl st = .ok false st1 := by
  subst hk; simp only [evT, ha, bind_ok, Bool.false_eq_true, if_false]
end
/-- all pairs of names, an earlier one and a later one -/
def rowC (l : List Str) (p : Str × Nat) : List (Str × Str) := (l.drop (p.2 + 1)).map fun y => (p.1, y)
def cands (l : List Str) : List (Str × Str) := l.zipIdx.flatMap (rowC l)
theorem mem_cands {l : List Str} (ha : Asc l) {p : Str × Str} (h : p ∈ cands l) : p.1 ∈ l ∧ p.2 ∈ l ∧ ltS p.1 p.2 = true := by
  unfold cands at h
  rw [List.mem_flatMap] at h
  obtain ⟨⟨x, i⟩, h1, h2⟩ := h
  unfold rowC at h2
  rw [List.mem_map] at h2
  obtain ⟨y, hy, rfl⟩ := h2
  rw [List.mk_mem_zipIdx_iff_getElem?] at h1
  have hi := List.getElem?_eq_some_iff.mp h1
  obtain ⟨hi, e⟩ := hi
  refine ⟨List.mem_of_getElem? h1, (List.drop_sublist _ _).subset hy, ?_⟩
  have hp : Asc (l.drop i) := ha.sub (List.drop_sublist _ _)
  rw [List.drop_eq_getElem_cons hi, e] at hp
  exact (List.pairwise_cons.mp hp).1 y hy
theorem cands_nd {l : List Str} (ha : Asc l) : (cands l).Nodup := by
  unfold cands
  rw [List.Nodup, List.pairwise_flatMap]
  constructor
  · intro p _
    unfold rowC
    rw [List.pairwise_map]
    exact (ha.sub (List.drop_sublist (p.2 + 1) l)).nodup.imp fun h e => h (Prod.mk.inj e).2
  · have : (l.zipIdx.map Prod.fst).Nodup := by rw [List.zipIdx_map_fst]; exact ha.nodup
    rw [List.Nodup, List.pairwise_map] at this
    refine this.imp fun h x hx y hy e => h ?_
    unfold rowC at hx hy
    rw [List.mem_map] at hx hy
    obtain ⟨_, _, rfl⟩ := hx
    obtain ⟨_, _, rfl⟩ := hy
    exact (Prod.mk.inj e).1
theorem cands_len {l : List Str} (h : l.length ≤ 4) : (cands l).length ≤ 16 := by
  have := flat_len (f := rowC l) (c := 4) (fun p => by unfold rowC; rw [List.length_map, List.length_drop]; omega) l.zipIdx
  unfold cands
  rw [List.length_zipIdx] at this
  omega
def ori (b : Bool) (p : Str × Str) : Str × Str := if b then p else (p.2, p.1)
theorem ori_inj (b : Bool) {p q : Str × Str} (h : ori b p = ori b q) : p = q := by
  unfold ori at h
  cases b with
  | true => exact h
  | false =>
    obtain ⟨h1, h2⟩ := Prod.mk.inj h
    exact Prod.ext h2 h1
theorem bk_of {l : List Str} {Q : List (Str × Str)} (b : Bool) (ha : Asc l) (hl : l.length ≤ 4) (hn : ∀ n ∈ l, Nm n ∧ n.length ≤ 8) (hno : ("#" : Str) ∉ l) (hq : Q.Sublist (cands l)) : Bk l (Q.map (ori b)) := by
  have hm : ∀ p ∈ Q, p.1 ∈ l ∧ p.2 ∈ l ∧ ltS p.1 p.2 = true := fun p hp => mem_cands ha (hq.subset hp)
  have hlen := hq.length_le
  have hcl := cands_len hl
  refine ⟨ha, hl, hn, hno, ?_, ?_, by rw [List.length_map]; omega, ?_⟩
  · intro p hp
    obtain ⟨q, hq, rfl⟩ := List.mem_map.mp hp
    have := hm q hq
    cases b with
    | true => exact ⟨this.1, this.2.1⟩
    | false => exact ⟨this.2.1, this.1⟩
  · rw [List.Nodup, List.pairwise_map]
    exact ((cands_nd ha).sublist hq).imp fun h e => h (ori_inj b e)
  · cases b with
    | true =>
      refine ⟨fun n => (l.filter fun z => ltS n z).length, fun n hn => ?_, fun p hp => ?_⟩
      · have : (n :: l.filter fun z => ltS n z).length ≤ l.length := List.Nodup.length_le_of_subset (List.nodup_cons.mpr ⟨fun z => by simp [ltS_irrefl] at z, ha.nodup.filter _⟩) (fun x hx => by
          rcases List.mem_cons.mp hx with rfl | hx
          · exact hn
          · exact (List.mem_filter.mp hx).1)
        exact this
      · obtain ⟨q, hq, rfl⟩ := List.mem_map.mp hp
        obtain ⟨h1, h2, h3⟩ := hm q hq
        have : (q.2 :: l.filter fun z => ltS q.2 z).length ≤ (l.filter fun z => ltS q.1 z).length := List.Nodup.length_le_of_subset (List.nodup_cons.mpr ⟨fun z => by simp [ltS_irrefl] at z, ha.nodup.filter _⟩) (fun x hx => by
          rcases List.mem_cons.mp hx with rfl | hx
          · exact List.mem_filter.mpr ⟨h2, h3⟩
          · obtain ⟨z1, z2⟩ := List.mem_filter.mp hx
            exact List.mem_filter.mpr ⟨z1, ltS_trans h3 z2⟩)
        exact this
    | false =>
      refine ⟨fun n => (l.filter fun z => ltS z n).length, fun n hn => ?_, fun p hp => ?_⟩
      · have : (n :: l.filter fun z => ltS z n).length ≤ l.length := List.Nodup.length_le_of_subset (List.nodup_cons.mpr ⟨fun z => by simp [ltS_irrefl] at z, ha.nodup.filter _⟩) (fun x hx => by
          rcases List.mem_cons.mp hx with rfl | hx
          · exact hn
          · exact (List.mem_filter.mp hx).1)
        exact this
      · obtain ⟨q, hq, rfl⟩ := List.mem_map.mp hp
        obtain ⟨h1, h2, h3⟩ := hm q hq
        have : (q.1 :: l.filter fun z => ltS z q.1).length ≤ (l.filter fun z => ltS z q.2).length := List.Nodup.length_le_of_subset (List.nodup_cons.mpr ⟨fun z => by simp [ltS_irrefl] at z, ha.nodup.filter _⟩) (fun x hx => by
          rcases List.mem_cons.mp hx with rfl | hx
          · exact List.mem_filter.mpr ⟨h1, h3⟩
          · obtain ⟨z1, z2⟩ := List.mem_filter.mp hx
            exact List.mem_filter.mpr ⟨z1, ltS_trans z2 h3⟩)
        exact this
abbrev poolB : List Str := ["a", "city", "item", "lot", "shop", "user", "zzzzzzzz"]
instance (n : Str) : Decidable (Nm n) := inferInstanceAs (Decidable (∀ c ∈ n.cps.toList, 32 < c))
theorem pool_ok : ∀ n ∈ poolB, (Nm n ∧ n.length ≤ 8) ∧ n ≠ "#" := by decide +kernel
theorem pool_nd : poolB.Nodup := by decide +kernel
/-- the names of a book -/
theorem flats_ok {found : List Str} (hp : found.Perm poolB) (m : Nat) (hm : m ≤ 4) : Asc (sortS (found.take m)) ∧ (sortS (found.take m)).length ≤ 4 ∧ (∀ n ∈ sortS (found.take m), Nm n ∧ n.length ≤ 8) ∧ ("#" : Str) ∉ sortS (found.take m) := by
  have h1 : ∀ n ∈ sortS (found.take m), n ∈ poolB := fun n hn => hp.mem_iff.mp ((List.take_sublist _ _).subset ((sortS_perm _).mem_iff.mp hn))
  refine ⟨asc_of ((sortS_perm _).nodup_iff.mpr ((hp.nodup_iff.mpr pool_nd).sublist (List.take_sublist _ _))) (sortS_sorted _), ?_, fun n hn => (pool_ok n (h1 n hn)).1, fun q => (pool_ok _ (h1 _ q)).2 rfl⟩
  rw [(sortS_perm _).length_eq, List.length_take]
  omega
end Sv
end
section
set_option linter.all false
set_option maxRecDepth 100000
set_option maxHeartbeats 4000000
/-! SvLaw: rules for the heads of laws. -/
namespace Sv
open PySem L2
section
variable {E : Ev} {sl : Slt} {st st1 st2 : Stor} {x y z w : T} {r : R}
theorem i_rngLit {j : Int} (n : Nat) (h : j = (n : Int)) (h2 : n < 1000000) : evI E (.rng (.cons (.lit (.int j)) .nil)) sl st = .ok (.fix ((List.range n).map fun i : Nat => T.int ((i : Nat) : Int))) st := by
  subst h
  exact i_rngN (a_cons e_lit rfl a_nil) (by omega)
theorem ixl3_0 : idxV E (.lst [x, y, z]) (.int 0) st = .ok (.val x) st := rfl
theorem ixl3_1 : idxV E (.lst [x, y, z]) (.int 1) st = .ok (.val y) st := rfl
theorem ixl3_2 : idxV E (.lst [x, y, z]) (.int 2) st = .ok (.val z) st := rfl
theorem slc_scr {ns : List Int} {lo hi : Option Int} : slcV (.scr ns) lo hi st = .ok (.new (.lst ((cutT ns lo hi).map T.int))) st := rfl
theorem bi_pow {i j : Int} (h : 0 ≤ j ∧ j ≤ 1000000 ∧ i.natAbs < 18446744073709551616) : binV .Pow (.int i) (.int j) st = .ok (.val (.int (i ^ j.toNat))) st := by simp only [binV, if_pos h]
theorem call_pure0 {cal : List T → Stor → Rs R} (h : cal [] [] = .ok r []) (hr : pureR r = true) : callC cal [] st = .ok r st := call_pure rfl h hr
theorem pc_lTS (l : List (List Str)) : pureC (.lst (l.map tS)) = true := by
  show (l.map tS).all pureB = true
  rw [List.all_map, List.all_eq_true]
  exact fun a _ => pure_tS a
/-- a comprehension whose turns change cells -/
theorem lc_st {α : Type} {turn : T → Stor → Rs (Option T)} {τ : α → T} (P : List T → Stor → Prop) (N : Nat) (hN : N ≤ 16777216) : ∀ (l : List α) (done : List T) (st : Stor), P done st → (∀ a ∈ l, ∀ xs st, xs.length < N → P xs st → ∃ y st', turn (τ a) st = .ok (some y) st' ∧ P (xs ++ [y]) st') → done.length + l.length = N →
    ∃ xs st', lcFix turn (l.map τ) done st = .ok xs st' ∧ P xs st' ∧ xs.length = N
  | [], done, st, h0, _, e => ⟨done, st, rfl, h0, e⟩
  | a :: l, done, st, h0, step, hl => by
    rw [List.length_cons] at hl
    obtain ⟨y, st1, e1, h1⟩ := step a (List.mem_cons_self ..) done st (by omega) h0
    obtain ⟨xs, st2, e2, h2, h3⟩ := lc_st P N hN l (done ++ [y]) st1 h1 (fun b hb => step b (List.mem_cons_of_mem _ hb)) (by rw [List.length_append, List.length_cons, List.length_nil]; omega)
    refine ⟨xs, st2, ?_, h2, h3⟩
    rw [List.map_cons]
    show (turn (τ a) st).bind _ = _
    rw [e1, bind_ok]
    show (if done.length < 16777216 then _ else _) = _
    rw [if_pos (by omega)]
    exact e2
end
/-- the first numbers of the script; a zero if there is none -/
def firstC (t : Int) (ns : List Int) : List Int := match cutT ns none (some t) with
  | [] => [0]
  | x :: r => x :: r
theorem e_cellsN {E : Ev} {sl : Slt} {t : Int} {ns : List Int} (h0 : sl[0]? = some (some (.scr ns))) (h1 : sl[1]? = some (some (.int t))) : evE E (.cel (.or (.bi .list (.cons (.slc (.var 0) (.lit .non) (.var 1)) .nil)) (.lst (.cons (.lit (.int 0)) .nil)))) sl [] = .ok (.val (.cell 0)) [.lst ((firstC t ns).map T.int)] := by
  have hs : evE E (.bi .list (.cons (.slc (.var 0) (.lit .non) (.var 1)) .nil)) sl [] = .ok (.new (.lst ((cutT ns none (some t)).map T.int))) [] :=
    e_bi (a_cons (e_slc (e_var h0) rfl e_lit rfl (e_var h1) rfl pt_n pt_i slc_scr) rfl a_nil) (b_list rfl)
  unfold firstC
  cases e : cutT ns none (some t) with
  | nil => rw [e] at hs; exact e_celN (e_orE hs (e_lst (a_cons e_lit rfl a_nil) (by simp))) rfl rfl
  | cons x r => rw [e] at hs; exact e_celN (e_orL hs) rfl rfl
theorem cut2 {x y : Int} {r : List Int} : cutT (x :: y :: r) none (some 2) = [x, y] := by
  have e1 : HT.sIx (x :: y :: r).length 0 none = 0 := rfl
  have e2 : HT.sIx (x :: y :: r).length (x :: y :: r).length (some (2 : Int)) = 2 := by
    have := HT.sIx_nat (x :: y :: r).length (x :: y :: r).length 2
    rw [show ((2 : Nat) : Int) = 2 from rfl] at this
    rw [this, List.length_cons, List.length_cons]
    omega
  simp only [cutT, e1, e2]
  rfl
theorem rest2 {x y : Int} {r : List Int} (h : (x :: y :: r).length ≤ 63) : cutT (x :: y :: r) (some 2) (some 63) = r := by
  have e1 : HT.sIx (x :: y :: r).length 0 (some (2 : Int)) = 2 := by
    have := HT.sIx_nat (x :: y :: r).length 0 2
    rw [show ((2 : Nat) : Int) = 2 from rfl] at this
    rw [this, List.length_cons, List.length_cons]
    omega
  have e2 : HT.sIx (x :: y :: r).length (x :: y :: r).length (some (63 : Int)) = (x :: y :: r).length := by
    have := HT.sIx_nat (x :: y :: r).length (x :: y :: r).length 63
    rw [show ((63 : Nat) : Int) = 63 from rfl] at this
    rw [this]
    omega
  simp only [cutT, e1, e2]
  show r.take (r.length + 1 + 1 - 2) = r
  rw [List.take_of_length_le (by omega)]
abbrev absI (c : Int) : Int := if c < 0 then -c else c
abbrev boxA (c : Int) : Int := absI c * (if decide ((10 : Int) ^ (18 : Int).toNat ≤ absI c) = true then 1 else 0)
abbrev boxB (c : Int) (i : Nat) : Int := c.fmod 2305843009213693951 + 39373 * (i : Int) + 587
theorem mod2 (i : Nat) : ((i : Int).fmod 2 = 0) ∨ ((i : Int).fmod 2 = 1) := by
  have h1 := Int.fmod_nonneg_of_pos (i : Int) (b := 2) (by decide)
  have h2 := Int.fmod_lt_of_pos (i : Int) (b := 2) (by decide)
  omega
end Sv
end
section
set_option linter.all false
set_option maxRecDepth 100000
set_option maxHeartbeats 4000000
/-! SvMore: calls with keywords, cells at the end of the store, the law's cells in general. Plain Lean. -/
namespace Sv
open PySem L2
section
variable {E : Ev} {sl sl1 : Slt} {st st1 st2 st3 s : Stor} {xs ys : List T} {r : R} {y x xv : T} {xr : R}
theorem e_callK {f n : Nat} {ks : List Str} {as : C} {pm : List Nat} {ds : List T} {res : Rs R} (h : evA E as sl st = .ok xs st1) (hk : E.G.kw f n ks = some (pm, ds)) (hl : xs.length = n + ks.length) (hp : mapO (fun j => (xs ++ ds)[j]?) pm = some ys) (h2 : callC (E.cal f) ys st1 = res) :
    evE E (.callK f n ks as) sl st = res := by
  simp only [evE, h, bind_ok, kwArgs, hk, if_pos hl, hp, h2]
theorem e_makeK {c f n : Nat} {ks : List Str} {as : C} {pm : List Nat} {ds : List T} {res : Rs R} (h : evA E as sl st = .ok xs st1) (hk : E.G.kw f (n + 1) ks = some (0 :: pm, ds)) (hl : xs.length = n + ks.length ∧ pm.all (fun j => decide (0 < j)) = true) (hp : mapO (fun j => (xs ++ ds)[j]?) (pm.map fun j => j - 1) = some ys) (h2 : makeC (E.cal f) c ys st1 = res) :
    evE E (.makeK c f n ks as) sl st = res := by
  simp only [evE, h, bind_ok, kwMake, hk, if_pos hl, hp, h2]
theorem e_mtK {f n c : Nat} {fs : List (Str × T)} {nm : Str} {ks : List Str} {o as : C} {pm : List Nat} {ds : List T} {res : Rs R} (ho : evE E o sl st = .ok xr st1) (qxr : xr.fz = .ins c fs) (hf : getF fs nm = none) (hm : E.G.meth c nm = some f) (h : evA E as sl st1 = .ok xs st2) (hk : E.G.kw f (n + 1) ks = some (pm, ds))
    (hl : (T.ins c fs :: xs).length = n + 1 + ks.length) (hp : mapO (fun j => (T.ins c fs :: xs ++ ds)[j]?) pm = some ys) (h2 : callC (E.cal f) ys st2 = res) : evE E (.mtK nm n ks o as) sl st = res := by
  simp only [evE, ho, bind_ok, qxr, hf, hm, h, kwArgs, hk, if_pos hl, hp, h2]
theorem t_orT {a b : C} {k : Bool} (h : evT E a sl st = .ok k st1) (hk : k = true) : evT E (.or a b) sl st = .ok true st1 := by
  subst hk
  simp only [evT, h, bind_ok, if_true]
/-! ### cells at the end -/
theorem get_last {c : Cell} : (s ++ [c])[s.length]? = some c := by simp
theorem get_mid {c d : Cell} : (s ++ [c] ++ [d])[s.length]? = some c := by simp
theorem mt_appE (h : xs.length < 16777216) : mtV E .append (.cell s.length) [y] (s ++ [.lst xs]) = .ok (.val .non) (s ++ [.lst (xs ++ [y])]) := by
  rw [mt_app get_last h]; simp
theorem mt_appM {d : Cell} (h : xs.length < 16777216) : mtV E .append (.cell s.length) [y] (s ++ [.lst xs] ++ [d]) = .ok (.val .non) (s ++ [.lst (xs ++ [y])] ++ [d]) := by
  rw [mt_app get_mid h]; simp
theorem recv_appE {nm : Str} : recvOk E nm (some .append) (.cell s.length) (s ++ [.lst xs]) = true := recv_app get_last
theorem recv_appM {nm : Str} {d : Cell} : recvOk E nm (some .append) (.cell s.length) (s ++ [.lst xs] ++ [d]) = true := recv_app get_mid
theorem s_frzE {i : Nat} (h : sl[i]? = some (some (.cell s.length))) (h2 : sl.set i (some (.lst xs)) = sl1) : evS E (.frz i) sl (s ++ [.lst xs]) = .ok (.nx, sl1) (s ++ [.gone]) := by
  subst h2
  simp only [evS, h, get_last]
  simp
theorem fz_cl : ∀ (k : Nat), (∀ t, clB k t = true → fzT st k t = some t) ∧ (∀ ts, ts.all (clB k) = true → mapO (fzT st k) ts = some ts)
  | 0 => ⟨fun t h => (by cases h), fun ts h => by
      cases ts with
      | nil => rfl
      | cons t r => simp [clB] at h⟩
  | k + 1 => by
    have ih := fz_cl k
    have one : ∀ t, clB (k + 1) t = true → fzT st (k + 1) t = some t := by
      intro t h
      cases t with
      | cell n => cases h
      | tup xs => simp only [fzT, ih.2 xs h]; rfl
      | lst xs => simp only [fzT, ih.2 xs h]; rfl
      | _ => simp only [fzT, h, if_true]
    refine ⟨one, fun ts h => ?_⟩
    induction ts with
    | nil => rfl
    | cons t r ihr =>
      rw [List.all_cons, Bool.and_eq_true] at h
      simp only [mapO, one t h.1, ihr h.2]
theorem fz_pure {k : Nat} {t : T} (h : clB k t = true) : fzT st k t = some t := (fz_cl k).1 t h
theorem call_frz {cal : List T → Stor → Rs R} {t : T} (hs : st ≠ []) (ht : takeArgs xs [] = none) (hm : mapO (fzT st 30) xs = some ys) (h : cal ys [] = .ok (.val t) []) (ha : atomB t = true) : callC cal xs st = .ok (.val t) st := by
  cases st with
  | nil => exact absurd rfl hs
  | cons c0 st0 => simp only [callC, ht, callF, hm, h, ha, if_true]
/-! ### the first numbers of a script -/
theorem sIx_hi {n t : Nat} : HT.sIx n n (some (t : Int)) = min t n := by
  simp only [HT.sIx]
  rw [if_neg (by omega), Int.toNat_natCast]
theorem sIx_lo {n t : Nat} : HT.sIx n 0 (some (t : Int)) = min t n := by
  simp only [HT.sIx]
  rw [if_neg (by omega), Int.toNat_natCast]
theorem cut_to {α : Type} {ns : List α} {t : Nat} : cutT ns none (some (t : Int)) = ns.take t := by
  unfold cutT
  rw [sIx_hi]
  show (ns.drop 0).take (min t ns.length - 0) = _
  rw [List.drop_zero, Nat.sub_zero]
  by_cases h : t ≤ ns.length
  · rw [Nat.min_eq_left h]
  · rw [Nat.min_eq_right (by omega), List.take_length, List.take_of_length_le (by omega)]
theorem cut_from {α : Type} {ns : List α} {t m : Nat} (h : ns.length ≤ m) : cutT ns (some (t : Int)) (some (m : Int)) = ns.drop t := by
  unfold cutT
  rw [sIx_hi, sIx_lo, Nat.min_eq_right h]
  by_cases h2 : t ≤ ns.length
  · rw [Nat.min_eq_left h2]
    exact List.take_of_length_le (by simp)
  · rw [Nat.min_eq_right (by omega)]
    simp
    omega
theorem fmod_in {i : Int} {t : Nat} (ht : 0 < t) : 0 ≤ i.fmod (t : Int) ∧ i.fmod (t : Int) < ((t : Nat) : Int) := by
  rw [Int.fmod_eq_emod_of_nonneg _ (by omega)]
  exact ⟨Int.emod_nonneg _ (by omega), Int.emod_lt_of_pos _ (by omega)⟩
theorem pc_lS (l : List Str) : pureC (.lst (l.map .str)) = true := by
  show (l.map T.str).all pureB = true
  rw [List.all_map, List.all_eq_true]
  exact fun _ _ => rfl
/-! ### two KEYSETs -/
theorem eq_l0 {l : List Str} : eqT st (.lst (l.map .str)) (.lst []) = some (decide (l = [])) := eq_lS st l []
theorem eq_t1 {l : List Str} {x : Str} : eqT st (.tup (l.map .str)) (.tup [.str x]) = some (decide (l = [x])) := eq_tS st l [x]
theorem in_tA {z : Str} {a b : List Str} : inD st (.str z) (.tup (a.map .str ++ b.map .str)) = some (decide (z ∈ a ++ b)) := by
  rw [← List.map_append]
  exact in_tS
end
section
variable {names a b : List Str} {pairs : List (Str × Str)}
theorem no_num (h : Bk names pairs) (ha : a ∈ (mkK h).ks) : ("#" : Str) ∈ a ↔ a = rcd := by
  constructor
  · intro q
    by_cases e : a = rcd
    · exact e
    · exact absurd q (nr_ks h ha e).1.no
  · intro e; rw [e]; simp
/-- this law's own names of both -/
theorem jo_own (h : Bk names pairs) (ha : a ∈ (mkK h).ks) (hb : b ∈ (mkK h).ks) : (if ("#" : Str) ∈ a ++ b then rcd else names.filter fun x => decide (x ∈ a ++ b)) = jo a b := by
  unfold jo
  by_cases e : a = rcd ∨ b = rcd
  · rw [if_pos e, if_pos]
    rw [List.mem_append, no_num h ha, no_num h hb]
    exact e
  · rw [if_neg e, if_neg (by rw [List.mem_append, no_num h ha, no_num h hb]; exact e)]
    refine asc_ext (h.asc.filter _) (asc_sort _) fun x => ?_
    rw [List.mem_filter, mem_sset, decide_eq_true_eq]
    constructor
    · exact fun q => q.2
    · intro q
      refine ⟨?_, q⟩
      rcases List.mem_append.mp q with q | q
      · exact (nr_ks h ha fun z => e (.inl z)).2.1 x q
      · exact (nr_ks h hb fun z => e (.inr z)).2.1 x q
theorem wi_own : (decide (b = rcd) || decide ((a.filter fun x => !decide (x ∈ b)) = [])) = wi a b := by
  unfold wi
  by_cases e : b = rcd
  · simp [e]
  · rw [if_neg e, decide_eq_false e, Bool.false_or, Bool.eq_iff_iff]
    simp [List.filter_eq_nil_iff]
/-- this law's own tops -/
theorem tp_own (h : Bk names pairs) (ha : a ∈ (mkK h).ks) : (a.filter fun n => decide (n = ("#" : Str)) || decide ((a.filter fun o => decide (n ∈ tldB names pairs o)) = [])) = tp (mkK h) a := by
  unfold tp
  by_cases e : a = rcd
  · rw [if_pos e, e]
    simp
  · rw [if_neg e]
    refine List.filter_congr fun n hn => ?_
    have : n ≠ ("#" : Str) := fun z => e ((no_num h ha).mp (z ▸ hn))
    rw [decide_eq_false this, Bool.false_or, Bool.eq_iff_iff]
    simp only [decide_eq_true_eq, List.filter_eq_nil_iff, Bool.not_eq_true', List.any_eq_false]
    rfl
end
end Sv
end
section
set_option linter.all false
set_option maxRecDepth 100000
set_option maxHeartbeats 0
namespace K03
open PySem PySem.W PySem.Calls PyProof.Rows L2 Sv
def prog : Program := PySem.Challenge.pw_surershares_k03_two_keysets
def topS (i : Nat) : Stmt := prog.main.body.getD i (.Pass ⟨0, 0, 0, 0⟩)
def fnsT : List (Str × Sig) := [("is_name", ⟨0, ["thing"], []⟩),
  ("words_of", ⟨1, ["text"], []⟩),
  ("reached", ⟨2, ["direct", "name"], []⟩),
  ("all_closed", ⟨3, ["names", "told"], []⟩),
  ("within", ⟨15, ["one", "other"], []⟩),
  ("joint", ⟨16, ["one", "other"], []⟩),
  ("common", ⟨17, ["one", "other"], []⟩),
  ("below", ⟨18, ["keys", "keyset"], []⟩),
  ("tops", ⟨19, ["keys", "keyset"], []⟩),
  ("_law_box", ⟨20, ["_law_script", "_law_k"], []⟩),
  ("_law_take", ⟨21, ["_law_urn", "_law_low_so"], []⟩),
  ("_law_cells", ⟨22, ["_law_script", "_law_top_here"], []⟩),
  ("_law_same", ⟨23, ["_law_got", "_law_goal"], []⟩),
  ("_law_lists", ⟨24, ["_law_thing_so"], []⟩),
  ("_law_mixed", ⟨25, ["_law_urn", "_law_pool"], []⟩),
  ("_law_book", ⟨26, ["_law_urn", "_law_most_so"], []⟩),
  ("_law_told", ⟨27, ["_law_book_here"], []⟩),
  ("_law_wide", ⟨28, ["_law_book_here", "_law_bag"], []⟩),
  ("_law_rising", ⟨29, ["_law_rows_so"], []⟩),
  ("_law_sets", ⟨30, ["_law_book_here"], []⟩),
  ("_law_in", ⟨31, ["_law_one_so", "_law_far_so"], []⟩),
  ("_law_top", ⟨32, ["_law_book_here", "_law_bag"], []⟩),
  ("_law_by_hand_right", ⟨33, [], []⟩),
  ("_law_right", ⟨34, ["_law_urn"], []⟩),
  ("law", ⟨35, ["_law_script"], []⟩)]
def clsT : List (Str × Nat × Sig) := [("Keys", 0, ⟨4, ["self", "names", "tells"], [.tup []]⟩)]
def gloT : List (Str × T) := [("LETTERS", .str "abcdefghijklmnopqrstuvwxyz"), ("MOST_LETTERS", .int (8)), ("NUMBER", .str "#"), ("RECORD", .tup [.str "#"]), ("TELLS", .str "tells"), ("FEED", .str "\n"), ("BLANK", .str " ")]
def freeT : List Str := ["abs", "all", "any", "bool", "dict", "enumerate", "int", "isinstance", "len", "list", "range", "set", "sorted", "str", "super", "tuple", "zip"]
def hintsT : List Pos := [⟨32, 12, 32, 30⟩, ⟨39, 12, 39, 16⟩, ⟨152, 22, 152, 62⟩, ⟨168, 29, 168, 44⟩, ⟨168, 46, 168, 48⟩, ⟨174, 136, 174, 138⟩, ⟨182, 17, 182, 137⟩, ⟨211, 58, 211, 60⟩, ⟨219, 15, 219, 134⟩, ⟨220, 15, 220, 122⟩, ⟨222, 15, 222, 159⟩, ⟨224, 15, 224, 104⟩, ⟨227, 15, 227, 155⟩, ⟨229, 15, 229, 124⟩, ⟨231, 19, 231, 56⟩, ⟨234, 15, 234, 101⟩, ⟨245, 23, 245, 115⟩, ⟨245, 24, 245, 56⟩, ⟨259, 27, 259, 114⟩, ⟨266, 27, 266, 60⟩]
def n0 : List Str := ["thing", "sign"]
def n1 : List Str := ["text", "word"]
def n2 : List Str := ["direct", "name", "found", "at", "other"]
def n3 : List Str := ["names", "told", "found", "name", "closed", "written", "keyset", "row", "other"]
def n4 : List Str := ["self", "names", "tells", "pair", "direct", "ringed", "name", "one", "other"]
def n5 : List Str := ["self"]
def n6 : List Str := ["self", "one", "other"]
def n7 : List Str := ["self", "tellings", "one", "other"]
def n8 : List Str := ["self"]
def n9 : List Str := ["self", "name"]
def n10 : List Str := ["self", "one", "other", "found"]
def n11 : List Str := ["self", "names", "name", "found", "other"]
def n12 : List Str := ["self", "name"]
def n13 : List Str := ["self"]
def n14 : List Str := ["self", "other"]
def n15 : List Str := ["one", "other", "name"]
def n16 : List Str := ["one", "other"]
def n17 : List Str := ["one", "other", "name"]
def n18 : List Str := ["keys", "keyset", "one"]
def n19 : List Str := ["keys", "keyset", "name", "one"]
def n20 : List Str := ["_law_script", "_law_k", "_law_cell"]
def n21 : List Str := ["_law_urn", "_law_low_so", "_law_once", "_law_far", "_law_twice", "_law_drawn"]
def n22 : List Str := ["_law_script", "_law_top_here", "_law_cells_here", "_law_k", "_law_cell", "_law_at_so"]
def n23 : List Str := ["_law_got", "_law_goal", "_law_mine_so", "_law_own"]
def n24 : List Str := ["_law_thing_so", "_law_bit"]
def n25 : List Str := ["_law_urn", "_law_pool", "_law_turn", "_law_left", "_law_found"]
def n26 : List Str := ["_law_urn", "_law_most_so", "_law_pool", "_law_flats", "_law_pairs_so", "_law_style", "_law_k", "_law_own", "_law_far"]
def n27 : List Str := ["_law_book_here", "_law_table", "_law_turn", "_law_flats", "_law_pairs_so", "_law_own", "_law_far", "_law_pair", "_law_bit"]
def n28 : List Str := ["_law_book_here", "_law_bag", "_law_own", "_law_told_so", "_law_found"]
def n29 : List Str := ["_law_rows_so", "_law_done", "_law_own", "_law_spot", "_law_bit"]
def n30 : List Str := ["_law_book_here", "_law_own", "_law_many", "_law_rows_so", "_law_done", "_law_bag"]
def n31 : List Str := ["_law_one_so", "_law_far_so", "_law_own"]
def n32 : List Str := ["_law_book_here", "_law_bag", "_law_own", "_law_told_so", "_law_done", "_law_far"]
def n33 : List Str := ["_law_keyring", "_law_got", "_law_due", "_law_told_so", "_law_small", "_law_great"]
def n34 : List Str := ["_law_urn", "_law_turn", "_law_book_here", "_law_one_so", "_law_keyring", "_law_sets_so", "_law_due", "_law_got", "_law_far_so", "_law_high", "_law_low", "_law_own"]
def n35 : List Str := ["_law_script", "_law_cells_here", "_law_k"]
def frzT : List (Pos × List Nat) := [(⟨236, 4, 236, 89⟩, [1]), (⟨247, 12, 248, 28⟩, [7]), (⟨261, 16, 262, 32⟩, [7])]
def d0 : Df := ⟨.glo "is_name", "is_name", "is_name", topS 12, ["thing"], n0, []⟩
def d1 : Df := ⟨.glo "words_of", "words_of", "words_of", topS 13, ["text"], n1, []⟩
def d2 : Df := ⟨.glo "reached", "reached", "reached", topS 14, ["direct", "name"], n2, []⟩
def d3 : Df := ⟨.glo "all_closed", "all_closed", "all_closed", topS 15, ["names", "told"], n3, []⟩
def d4 : Df := ⟨.meth "Keys" "__init__", "__init__", "Keys.__init__", inClass (topS 16) 0, ["self", "names", "tells"], n4, [.tup []]⟩
def d5 : Df := ⟨.prop "Keys" "names", "names", "Keys.names", inClass (topS 16) 1, ["self"], n5, []⟩
def d6 : Df := ⟨.prop "Keys" "pairs", "pairs", "Keys.pairs", inClass (topS 16) 2, ["self"], n6, []⟩
def d7 : Df := ⟨.prop "Keys" "text", "text", "Keys.text", inClass (topS 16) 3, ["self"], n7, []⟩
def d8 : Df := ⟨.prop "Keys" "keysets", "keysets", "Keys.keysets", inClass (topS 16) 4, ["self"], n8, []⟩
def d9 : Df := ⟨.meth "Keys" "told", "told", "Keys.told", inClass (topS 16) 5, ["self", "name"], n9, []⟩
def d10 : Df := ⟨.meth "Keys" "tells", "tells", "Keys.tells", inClass (topS 16) 6, ["self", "one", "other"], n10, []⟩
def d11 : Df := ⟨.meth "Keys" "closed", "closed", "Keys.closed", inClass (topS 16) 7, ["self", "names"], n11, []⟩
def d12 : Df := ⟨.meth "Keys" "__contains__", "__contains__", "Keys.__contains__", inClass (topS 16) 8, ["self", "name"], n12, []⟩
def d13 : Df := ⟨.meth "Keys" "__len__", "__len__", "Keys.__len__", inClass (topS 16) 9, ["self"], n13, []⟩
def d14 : Df := ⟨.meth "Keys" "__eq__", "__eq__", "Keys.__eq__", inClass (topS 16) 10, ["self", "other"], n14, []⟩
def d15 : Df := ⟨.glo "within", "within", "within", topS 17, ["one", "other"], n15, []⟩
def d16 : Df := ⟨.glo "joint", "joint", "joint", topS 18, ["one", "other"], n16, []⟩
def d17 : Df := ⟨.glo "common", "common", "common", topS 19, ["one", "other"], n17, []⟩
def d18 : Df := ⟨.glo "below", "below", "below", topS 20, ["keys", "keyset"], n18, []⟩
def d19 : Df := ⟨.glo "tops", "tops", "tops", topS 21, ["keys", "keyset"], n19, []⟩
def d20 : Df := ⟨.glo "_law_box", "_law_box", "_law_box", topS 23, ["_law_script", "_law_k"], n20, []⟩
def d21 : Df := ⟨.glo "_law_take", "_law_take", "_law_take", topS 24, ["_law_urn", "_law_low_so"], n21, []⟩
def d22 : Df := ⟨.glo "_law_cells", "_law_cells", "_law_cells", topS 25, ["_law_script", "_law_top_here"], n22, []⟩
def d23 : Df := ⟨.glo "_law_same", "_law_same", "_law_same", topS 26, ["_law_got", "_law_goal"], n23, []⟩
def d24 : Df := ⟨.glo "_law_lists", "_law_lists", "_law_lists", topS 27, ["_law_thing_so"], n24, []⟩
def d25 : Df := ⟨.glo "_law_mixed", "_law_mixed", "_law_mixed", topS 28, ["_law_urn", "_law_pool"], n25, []⟩
def d26 : Df := ⟨.glo "_law_book", "_law_book", "_law_book", topS 29, ["_law_urn", "_law_most_so"], n26, []⟩
def d27 : Df := ⟨.glo "_law_told", "_law_told", "_law_told", topS 30, ["_law_book_here"], n27, []⟩
def d28 : Df := ⟨.glo "_law_wide", "_law_wide", "_law_wide", topS 31, ["_law_book_here", "_law_bag"], n28, []⟩
def d29 : Df := ⟨.glo "_law_rising", "_law_rising", "_law_rising", topS 32, ["_law_rows_so"], n29, []⟩
def d30 : Df := ⟨.glo "_law_sets", "_law_sets", "_law_sets", topS 33, ["_law_book_here"], n30, []⟩
def d31 : Df := ⟨.glo "_law_in", "_law_in", "_law_in", topS 34, ["_law_one_so", "_law_far_so"], n31, []⟩
def d32 : Df := ⟨.glo "_law_top", "_law_top", "_law_top", topS 35, ["_law_book_here", "_law_bag"], n32, []⟩
def d33 : Df := ⟨.glo "_law_by_hand_right", "_law_by_hand_right", "_law_by_hand_right", topS 36, [], n33, []⟩
def d34 : Df := ⟨.glo "_law_right", "_law_right", "_law_right", topS 37, ["_law_urn"], n34, []⟩
def d35 : Df := ⟨.glo "law", "law", "law", topS 38, ["_law_script"], n35, []⟩
def methT : List ((Nat × Str) × Nat) := [((0, "told"), 9), ((0, "tells"), 10), ((0, "closed"), 11), ((0, "__contains__"), 12), ((0, "__len__"), 13), ((0, "__eq__"), 14)]
def propT : List ((Nat × Str) × Nat) := [((0, "names"), 5), ((0, "pairs"), 6), ((0, "text"), 7), ((0, "keysets"), 8)]
def fldT : List (Nat × Str) := [(0, "own_names"), (0, "own_told"), (0, "own_keysets")]
def kwT : List ((Nat × Nat × List Str) × List Nat) := [((18, 0, ["keyset", "keys"]), [1, 0]), ((19, 0, ["keyset", "keys"]), [1, 0]), ((15, 0, ["one", "other"]), [0, 1]), ((16, 0, ["one", "other"]), [0, 1]), ((17, 0, ["one", "other"]), [0, 1])]
def tb : Tb := ⟨[d0, d1, d2, d3, d4, d5, d6, d7, d8, d9, d10, d11, d12, d13, d14, d15, d16, d17, d18, d19, d20, d21, d22, d23, d24, d25, d26, d27, d28, d29, d30, d31, d32, d33, d34, d35], ["Keys"], fnsT, clsT, gloT, freeT, hintsT, frzT, methT, propT, fldT, kwT⟩
theorem wf : tb.wf = true := by decide +kernel
theorem b0 : BindOk d0 := ⟨fun _ _ _ _ _ _ _ us hl => match us, hl with | [_], _ => rfl, fun j _ h => absurd rfl h⟩
theorem s0 : FnScope d0.N d0.ps (defScope d0.st) := ⟨rfl, rfl, rfl, by decide +kernel, rfl, by decide +kernel, by decide +kernel⟩
theorem b1 : BindOk d1 := ⟨fun _ _ _ _ _ _ _ us hl => match us, hl with | [_], _ => rfl, fun j _ h => absurd rfl h⟩
theorem s1 : FnScope d1.N d1.ps (defScope d1.st) := ⟨rfl, rfl, rfl, by decide +kernel, rfl, by decide +kernel, by decide +kernel⟩
theorem b2 : BindOk d2 := ⟨fun _ _ _ _ _ _ _ us hl => match us, hl with | [_, _], _ => rfl, fun j _ h => absurd rfl h⟩
theorem s2 : FnScope d2.N d2.ps (defScope d2.st) := ⟨rfl, rfl, rfl, by decide +kernel, rfl, by decide +kernel, by decide +kernel⟩
theorem b3 : BindOk d3 := ⟨fun _ _ _ _ _ _ _ us hl => match us, hl with | [_, _], _ => rfl, fun j _ h => absurd rfl h⟩
theorem s3 : FnScope d3.N d3.ps (defScope d3.st) := ⟨rfl, rfl, rfl, by decide +kernel, rfl, by decide +kernel, by decide +kernel⟩
theorem b4 : BindOk d4 := ⟨(fun h => nomatch h), fun j hj _ => match j, hj with | 0, _ => fun t kV doc pm an cdv ct us its hu hi => (match us, its, hu, hi with | [_, _], [_], _, _ => ⟨_, rfl, rfl⟩) | 1, _ => fun t kV doc pm an cdv ct us its hu hi => (match us, its, hu, hi with | [_, _, _], [_], _, _ => ⟨_, rfl, rfl⟩)⟩
theorem s4 : FnScope d4.N d4.ps (defScope d4.st) := ⟨rfl, rfl, rfl, by decide +kernel, rfl, by decide +kernel, by decide +kernel⟩
theorem b5 : BindOk d5 := ⟨fun _ _ _ _ _ _ _ us hl => match us, hl with | [_], _ => rfl, fun j _ h => absurd rfl h⟩
theorem s5 : FnScope d5.N d5.ps (defScope d5.st) := ⟨rfl, rfl, rfl, by decide +kernel, rfl, by decide +kernel, by decide +kernel⟩
theorem b6 : BindOk d6 := ⟨fun _ _ _ _ _ _ _ us hl => match us, hl with | [_], _ => rfl, fun j _ h => absurd rfl h⟩
theorem s6 : FnScope d6.N d6.ps (defScope d6.st) := ⟨rfl, rfl, rfl, by decide +kernel, rfl, by decide +kernel, by decide +kernel⟩
theorem b7 : BindOk d7 := ⟨fun _ _ _ _ _ _ _ us hl => match us, hl with | [_], _ => rfl, fun j _ h => absurd rfl h⟩
theorem s7 : FnScope d7.N d7.ps (defScope d7.st) := ⟨rfl, rfl, rfl, by decide +kernel, rfl, by decide +kernel, by decide +kernel⟩
theorem b8 : BindOk d8 := ⟨fun _ _ _ _ _ _ _ us hl => match us, hl with | [_], _ => rfl, fun j _ h => absurd rfl h⟩
theorem s8 : FnScope d8.N d8.ps (defScope d8.st) := ⟨rfl, rfl, rfl, by decide +kernel, rfl, by decide +kernel, by decide +kernel⟩
theorem b9 : BindOk d9 := ⟨fun _ _ _ _ _ _ _ us hl => match us, hl with | [_, _], _ => rfl, fun j _ h => absurd rfl h⟩
theorem s9 : FnScope d9.N d9.ps (defScope d9.st) := ⟨rfl, rfl, rfl, by decide +kernel, rfl, by decide +kernel, by decide +kernel⟩
theorem b10 : BindOk d10 := ⟨fun _ _ _ _ _ _ _ us hl => match us, hl with | [_, _, _], _ => rfl, fun j _ h => absurd rfl h⟩
theorem s10 : FnScope d10.N d10.ps (defScope d10.st) := ⟨rfl, rfl, rfl, by decide +kernel, rfl, by decide +kernel, by decide +kernel⟩
theorem b11 : BindOk d11 := ⟨fun _ _ _ _ _ _ _ us hl => match us, hl with | [_, _], _ => rfl, fun j _ h => absurd rfl h⟩
theorem s11 : FnScope d11.N d11.ps (defScope d11.st) := ⟨rfl, rfl, rfl, by decide +kernel, rfl, by decide +kernel, by decide +kernel⟩
theorem b12 : BindOk d12 := ⟨fun _ _ _ _ _ _ _ us hl => match us, hl with | [_, _], _ => rfl, fun j _ h => absurd rfl h⟩
theorem s12 : FnScope d12.N d12.ps (defScope d12.st) := ⟨rfl, rfl, rfl, by decide +kernel, rfl, by decide +kernel, by decide +kernel⟩
theorem b13 : BindOk d13 := ⟨fun _ _ _ _ _ _ _ us hl => match us, hl with | [_], _ => rfl, fun j _ h => absurd rfl h⟩
theorem s13 : FnScope d13.N d13.ps (defScope d13.st) := ⟨rfl, rfl, rfl, by decide +kernel, rfl, by decide +kernel, by decide +kernel⟩
theorem b14 : BindOk d14 := ⟨fun _ _ _ _ _ _ _ us hl => match us, hl with | [_, _], _ => rfl, fun j _ h => absurd rfl h⟩
theorem s14 : FnScope d14.N d14.ps (defScope d14.st) := ⟨rfl, rfl, rfl, by decide +kernel, rfl, by decide +kernel, by decide +kernel⟩
theorem b15 : BindOk d15 := ⟨fun _ _ _ _ _ _ _ us hl => match us, hl with | [_, _], _ => rfl, fun j _ h => absurd rfl h⟩
theorem s15 : FnScope d15.N d15.ps (defScope d15.st) := ⟨rfl, rfl, rfl, by decide +kernel, rfl, by decide +kernel, by decide +kernel⟩
theorem b16 : BindOk d16 := ⟨fun _ _ _ _ _ _ _ us hl => match us, hl with | [_, _], _ => rfl, fun j _ h => absurd rfl h⟩
theorem s16 : FnScope d16.N d16.ps (defScope d16.st) := ⟨rfl, rfl, rfl, by decide +kernel, rfl, by decide +kernel, by decide +kernel⟩
theorem b17 : BindOk d17 := ⟨fun _ _ _ _ _ _ _ us hl => match us, hl with | [_, _], _ => rfl, fun j _ h => absurd rfl h⟩
theorem s17 : FnScope d17.N d17.ps (defScope d17.st) := ⟨rfl, rfl, rfl, by decide +kernel, rfl, by decide +kernel, by decide +kernel⟩
theorem b18 : BindOk d18 := ⟨fun _ _ _ _ _ _ _ us hl => match us, hl with | [_, _], _ => rfl, fun j _ h => absurd rfl h⟩
theorem s18 : FnScope d18.N d18.ps (defScope d18.st) := ⟨rfl, rfl, rfl, by decide +kernel, rfl, by decide +kernel, by decide +kernel⟩
theorem b19 : BindOk d19 := ⟨fun _ _ _ _ _ _ _ us hl => match us, hl with | [_, _], _ => rfl, fun j _ h => absurd rfl h⟩
theorem s19 : FnScope d19.N d19.ps (defScope d19.st) := ⟨rfl, rfl, rfl, by decide +kernel, rfl, by decide +kernel, by decide +kernel⟩
theorem b20 : BindOk d20 := ⟨fun _ _ _ _ _ _ _ us hl => match us, hl with | [_, _], _ => rfl, fun j _ h => absurd rfl h⟩
theorem s20 : FnScope d20.N d20.ps (defScope d20.st) := ⟨rfl, rfl, rfl, by decide +kernel, rfl, by decide +kernel, by decide +kernel⟩
theorem b21 : BindOk d21 := ⟨fun _ _ _ _ _ _ _ us hl => match us, hl with | [_, _], _ => rfl, fun j _ h => absurd rfl h⟩
theorem s21 : FnScope d21.N d21.ps (defScope d21.st) := ⟨rfl, rfl, rfl, by decide +kernel, rfl, by decide +kernel, by decide +kernel⟩
theorem b22 : BindOk d22 := ⟨fun _ _ _ _ _ _ _ us hl => match us, hl with | [_, _], _ => rfl, fun j _ h => absurd rfl h⟩
theorem s22 : FnScope d22.N d22.ps (defScope d22.st) := ⟨rfl, rfl, rfl, by decide +kernel, rfl, by decide +kernel, by decide +kernel⟩
theorem b23 : BindOk d23 := ⟨fun _ _ _ _ _ _ _ us hl => match us, hl with | [_, _], _ => rfl, fun j _ h => absurd rfl h⟩
theorem s23 : FnScope d23.N d23.ps (defScope d23.st) := ⟨rfl, rfl, rfl, by decide +kernel, rfl, by decide +kernel, by decide +kernel⟩
theorem b24 : BindOk d24 := ⟨fun _ _ _ _ _ _ _ us hl => match us, hl with | [_], _ => rfl, fun j _ h => absurd rfl h⟩
theorem s24 : FnScope d24.N d24.ps (defScope d24.st) := ⟨rfl, rfl, rfl, by decide +kernel, rfl, by decide +kernel, by decide +kernel⟩
theorem b25 : BindOk d25 := ⟨fun _ _ _ _ _ _ _ us hl => match us, hl with | [_, _], _ => rfl, fun j _ h => absurd rfl h⟩
theorem s25 : FnScope d25.N d25.ps (defScope d25.st) := ⟨rfl, rfl, rfl, by decide +kernel, rfl, by decide +kernel, by decide +kernel⟩
theorem b26 : BindOk d26 := ⟨fun _ _ _ _ _ _ _ us hl => match us, hl with | [_, _], _ => rfl, fun j _ h => absurd rfl h⟩
theorem s26 : FnScope d26.N d26.ps (defScope d26.st) := ⟨rfl, rfl, rfl, by decide +kernel, rfl, by decide +kernel, by decide +kernel⟩
theorem b27 : BindOk d27 := ⟨fun _ _ _ _ _ _ _ us hl => match us, hl with | [_], _ => rfl, fun j _ h => absurd rfl h⟩
theorem s27 : FnScope d27.N d27.ps (defScope d27.st) := ⟨rfl, rfl, rfl, by decide +kernel, rfl, by decide +kernel, by decide +kernel⟩
theorem b28 : BindOk d28 := ⟨fun _ _ _ _ _ _ _ us hl => match us, hl with | [_, _], _ => rfl, fun j _ h => absurd rfl h⟩
theorem s28 : FnScope d28.N d28.ps (defScope d28.st) := ⟨rfl, rfl, rfl, by decide +kernel, rfl, by decide +kernel, by decide +kernel⟩
theorem b29 : BindOk d29 := ⟨fun _ _ _ _ _ _ _ us hl => match us, hl with | [_], _ => rfl, fun j _ h => absurd rfl h⟩
theorem s29 : FnScope d29.N d29.ps (defScope d29.st) := ⟨rfl, rfl, rfl, by decide +kernel, rfl, by decide +kernel, by decide +kernel⟩
theorem b30 : BindOk d30 := ⟨fun _ _ _ _ _ _ _ us hl => match us, hl with | [_], _ => rfl, fun j _ h => absurd rfl h⟩
theorem s30 : FnScope d30.N d30.ps (defScope d30.st) := ⟨rfl, rfl, rfl, by decide +kernel, rfl, by decide +kernel, by decide +kernel⟩
theorem b31 : BindOk d31 := ⟨fun _ _ _ _ _ _ _ us hl => match us, hl with | [_, _], _ => rfl, fun j _ h => absurd rfl h⟩
theorem s31 : FnScope d31.N d31.ps (defScope d31.st) := ⟨rfl, rfl, rfl, by decide +kernel, rfl, by decide +kernel, by decide +kernel⟩
theorem b32 : BindOk d32 := ⟨fun _ _ _ _ _ _ _ us hl => match us, hl with | [_, _], _ => rfl, fun j _ h => absurd rfl h⟩
theorem s32 : FnScope d32.N d32.ps (defScope d32.st) := ⟨rfl, rfl, rfl, by decide +kernel, rfl, by decide +kernel, by decide +kernel⟩
theorem b33 : BindOk d33 := ⟨fun _ _ _ _ _ _ _ us hl => match us, hl with | [], _ => rfl, fun j _ h => absurd rfl h⟩
theorem s33 : FnScope d33.N d33.ps (defScope d33.st) := ⟨rfl, rfl, rfl, by decide +kernel, rfl, by decide +kernel, by decide +kernel⟩
theorem b34 : BindOk d34 := ⟨fun _ _ _ _ _ _ _ us hl => match us, hl with | [_], _ => rfl, fun j _ h => absurd rfl h⟩
theorem s34 : FnScope d34.N d34.ps (defScope d34.st) := ⟨rfl, rfl, rfl, by decide +kernel, rfl, by decide +kernel, by decide +kernel⟩
theorem b35 : BindOk d35 := ⟨fun _ _ _ _ _ _ _ us hl => match us, hl with | [_], _ => rfl, fun j _ h => absurd rfl h⟩
theorem s35 : FnScope d35.N d35.ps (defScope d35.st) := ⟨rfl, rfl, rfl, by decide +kernel, rfl, by decide +kernel, by decide +kernel⟩
theorem kw0 : KwOk d18 0 ["keyset", "keys"] [1, 0] := ⟨fun _ _ _ _ _ _ _ us ws hu hw => match us, ws, hu, hw with | [], [_, _], _, _ => rfl, fun h => absurd rfl h⟩
theorem kw1 : KwOk d19 0 ["keyset", "keys"] [1, 0] := ⟨fun _ _ _ _ _ _ _ us ws hu hw => match us, ws, hu, hw with | [], [_, _], _, _ => rfl, fun h => absurd rfl h⟩
theorem kw2 : KwOk d15 0 ["one", "other"] [0, 1] := ⟨fun _ _ _ _ _ _ _ us ws hu hw => match us, ws, hu, hw with | [], [_, _], _, _ => rfl, fun h => absurd rfl h⟩
theorem kw3 : KwOk d16 0 ["one", "other"] [0, 1] := ⟨fun _ _ _ _ _ _ _ us ws hu hw => match us, ws, hu, hw with | [], [_, _], _, _ => rfl, fun h => absurd rfl h⟩
theorem kw4 : KwOk d17 0 ["one", "other"] [0, 1] := ⟨fun _ _ _ _ _ _ _ us ws hu hw => match us, ws, hu, hw with | [], [_, _], _, _ => rfl, fun h => absurd rfl h⟩
theorem kws : tb.KwsOk := (List.forall_mem_cons.mpr ⟨⟨by decide, kw0⟩, (List.forall_mem_cons.mpr ⟨⟨by decide, kw1⟩, (List.forall_mem_cons.mpr ⟨⟨by decide, kw2⟩, (List.forall_mem_cons.mpr ⟨⟨by decide, kw3⟩, (List.forall_mem_cons.mpr ⟨⟨by decide, kw4⟩, List.forall_mem_nil _⟩)⟩)⟩)⟩)⟩)
theorem binds : ∀ d ∈ tb.defs, BindOk d := (List.forall_mem_cons.mpr ⟨b0, (List.forall_mem_cons.mpr ⟨b1, (List.forall_mem_cons.mpr ⟨b2, (List.forall_mem_cons.mpr ⟨b3, (List.forall_mem_cons.mpr ⟨b4, (List.forall_mem_cons.mpr ⟨b5, (List.forall_mem_cons.mpr ⟨b6, (List.forall_mem_cons.mpr ⟨b7, (List.forall_mem_cons.mpr ⟨b8, (List.forall_mem_cons.mpr ⟨b9, (List.forall_mem_cons.mpr ⟨b10, (List.forall_mem_cons.mpr ⟨b11, (List.forall_mem_cons.mpr ⟨b12, (List.forall_mem_cons.mpr ⟨b13, (List.forall_mem_cons.mpr ⟨b14, (List.forall_mem_cons.mpr ⟨b15, (List.forall_mem_cons.mpr ⟨b16, (List.forall_mem_cons.mpr ⟨b17, (List.forall_mem_cons.mpr ⟨b18, (List.forall_mem_cons.mpr ⟨b19, (List.forall_mem_cons.mpr ⟨b20, (List.forall_mem_cons.mpr ⟨b21, (List.forall_mem_cons.mpr ⟨b22, (List.forall_mem_cons.mpr ⟨b23, (List.forall_mem_cons.mpr ⟨b24, (List.forall_mem_cons.mpr ⟨b25, (List.forall_mem_cons.mpr ⟨b26, (List.forall_mem_cons.mpr ⟨b27, (List.forall_mem_cons.mpr ⟨b28, (List.forall_mem_cons.mpr ⟨b29, (List.forall_mem_cons.mpr ⟨b30, (List.forall_mem_cons.mpr ⟨b31, (List.forall_mem_cons.mpr ⟨b32, (List.forall_mem_cons.mpr ⟨b33, (List.forall_mem_cons.mpr ⟨b34, (List.forall_mem_cons.mpr ⟨b35, List.forall_mem_nil _⟩)⟩)⟩)⟩)⟩)⟩)⟩)⟩)⟩)⟩)⟩)⟩)⟩)⟩)⟩)⟩)⟩)⟩)⟩)⟩)⟩)⟩)⟩)⟩)⟩)⟩)⟩)⟩)⟩)⟩)⟩)⟩)⟩)⟩)⟩)⟩)
theorem scopes : ∀ d ∈ tb.defs, FnScope d.N d.ps (defScope d.st) := (List.forall_mem_cons.mpr ⟨s0, (List.forall_mem_cons.mpr ⟨s1, (List.forall_mem_cons.mpr ⟨s2, (List.forall_mem_cons.mpr ⟨s3, (List.forall_mem_cons.mpr ⟨s4, (List.forall_mem_cons.mpr ⟨s5, (List.forall_mem_cons.mpr ⟨s6, (List.forall_mem_cons.mpr ⟨s7, (List.forall_mem_cons.mpr ⟨s8, (List.forall_mem_cons.mpr ⟨s9, (List.forall_mem_cons.mpr ⟨s10, (List.forall_mem_cons.mpr ⟨s11, (List.forall_mem_cons.mpr ⟨s12, (List.forall_mem_cons.mpr ⟨s13, (List.forall_mem_cons.mpr ⟨s14, (List.forall_mem_cons.mpr ⟨s15, (List.forall_mem_cons.mpr ⟨s16, (List.forall_mem_cons.mpr ⟨s17, (List.forall_mem_cons.mpr ⟨s18, (List.forall_mem_cons.mpr ⟨s19, (List.forall_mem_cons.mpr ⟨s20, (List.forall_mem_cons.mpr ⟨s21, (List.forall_mem_cons.mpr ⟨s22, (List.forall_mem_cons.mpr ⟨s23, (List.forall_mem_cons.mpr ⟨s24, (List.forall_mem_cons.mpr ⟨s25, (List.forall_mem_cons.mpr ⟨s26, (List.forall_mem_cons.mpr ⟨s27, (List.forall_mem_cons.mpr ⟨s28, (List.forall_mem_cons.mpr ⟨s29, (List.forall_mem_cons.mpr ⟨s30, (List.forall_mem_cons.mpr ⟨s31, (List.forall_mem_cons.mpr ⟨s32, (List.forall_mem_cons.mpr ⟨s33, (List.forall_mem_cons.mpr ⟨s34, (List.forall_mem_cons.mpr ⟨s35, List.forall_mem_nil _⟩)⟩)⟩)⟩)⟩)⟩)⟩)⟩)⟩)⟩)⟩)⟩)⟩)⟩)⟩)⟩)⟩)⟩)⟩)⟩)⟩)⟩)⟩)⟩)⟩)⟩)⟩)⟩)⟩)⟩)⟩)⟩)⟩)⟩)⟩)⟩)
/--  is_name -/
abbrev c0 : S := (.seq (.ife (.or (.nt (.tru (.isi [.str] (.var 0)))) (.nt (.tru (.chain .LtE .LtE (.lit (.int (1))) (.bi .len (.cons (.var 0) .nil)) (.glo "MOST_LETTERS"))))) (.seq (.ret (.lit (.bl false)))
 .nil) .nil)
 (.seq (.ret (.bi .all (.cons (.lc (.cmp .In (.var 1) (.glo "LETTERS")) (.nm 1) (.itr (.var 0)) .nil [1]) .nil)))
 .nil))
/--  words_of -/
abbrev c1 : S := (.seq (.ret (.lc (.var 1) (.nm 1) (.itr (.mt "split" none (.var 0) (.cons (.glo "BLANK") .nil))) (.tru (.cmp .NotEq (.var 1) (.lit (.str "")))) [1]))
 .nil)
/--  reached -/
abbrev c2_b0 : S := (.seq (.ex (.mt "extend" (some .extend) (.var 2) (.cons (.lc (.var 4) (.nm 4) (.itr (.idx (.var 0) (.idx (.var 2) (.var 3)))) (.tru (.cmp .NotIn (.var 4) (.var 2))) [4]) .nil)))
 (.seq (.aug 3 .Add (.lit (.int (1))))
 .nil))
abbrev c2 : S := (.seq (.asg (.nm 2) (.cel (.bi .list (.cons (.idx (.var 0) (.var 1)) .nil))))
 (.seq (.asg (.nm 3) (.lit (.int (0))))
 (.seq (.whl (.tru (.cmp .Lt (.var 3) (.bi .len (.cons (.var 2) .nil)))) c2_b0)
 (.seq (.ret (.bi .tuple (.cons (.bi .sortedSet (.cons (.var 2) .nil)) .nil)))
 .nil))))
/--  all_closed -/
abbrev c3_b0 : S := (.seq (.ex (.mt "extend" (some .extend) (.var 2) (.cons (.lc (.tup (.star (.var 6) (.cons (.var 3) .nil))) (.nm 6) (.itr (.var 2)) .nil [6]) .nil)))
 .nil)
abbrev c3 : S := (.seq (.asg (.nm 2) (.cel (.lst (.cons (.tup .nil) .nil))))
 (.seq (.for_ (.nm 3) (.itr (.var 0)) c3_b0)
 (.seq (.asg (.nm 4) (.lc (.var 6) (.nm 6) (.itr (.var 2)) (.tru (.bi .all (.cons (.lc2 (.cmp .In (.var 8) (.var 6)) (.nm 3) (.itr (.var 6)) .nil (.nm 8) (.itr (.idx (.var 1) (.var 3))) .nil [3, 8] [8]) .nil))) [6]))
 (.seq (.asg (.nm 5) (.dc (.mt "join" (some .join) (.glo "BLANK") (.cons (.lst (.cons (.bi .str (.cons (.bi .len (.cons (.var 6) .nil)) .nil)) (.star (.var 6) .nil))) .nil)) (.var 6) (.nm 6) (.itr (.var 4)) .nil [6]))
 (.seq (.ret (.tup (.star (.lc (.idx (.var 5) (.var 7)) (.nm 7) (.itr (.bi .sorted (.cons (.lc (.bi .str (.cons (.var 7) .nil)) (.nm 7) (.itr (.var 5)) .nil [7]) .nil))) .nil [7]) (.cons (.glo "RECORD") .nil))))
 .nil)))))
/-- Keys __init__ -/
abbrev c4_b0 : S := (.seq (.ife (.tru (.cmp .NotIn (.var 6) (.var 1))) (.seq (.raise 0 0 .nil)
 .nil) .nil)
 .nil)
abbrev c4_b1 : S := (.seq (.for_ (.nm 6) (.itr (.var 3)) c4_b0)
 .nil)
abbrev c4 : S := (.seq (.for_ (.nm 3) (.itr (.var 2)) c4_b1)
 (.seq (.fld (.var 0) "own_names" (.bi .tuple (.cons (.bi .sortedSet (.cons (.var 1) .nil)) .nil)))
 (.seq (.asg (.nm 4) (.dc (.var 6) (.lc (.var 8) (.tp [7, 8]) (.itr (.var 2)) (.tru (.cmp .Eq (.var 7) (.var 6))) [7, 8]) (.nm 6) (.itr (.attr (.var 0) "own_names")) .nil [6]))
 (.seq (.fld (.var 0) "own_told" (.dc (.var 6) (.call 2 (.cons (.var 4) (.cons (.var 6) .nil))) (.nm 6) (.itr (.attr (.var 0) "own_names")) .nil [6]))
 (.seq (.asg (.nm 5) (.lc (.var 6) (.nm 6) (.itr (.attr (.var 0) "own_names")) (.tru (.cmp .In (.var 6) (.idx (.attr (.var 0) "own_told") (.var 6)))) [6]))
 (.seq (.ife (.tru (.cmp .Gt (.bi .len (.cons (.var 5) .nil)) (.lit (.int (0))))) (.seq (.raise 0 0 .nil)
 .nil) .nil)
 (.seq (.fld (.var 0) "own_keysets" (.call 3 (.cons (.attr (.var 0) "own_names") (.cons (.attr (.var 0) "own_told") .nil))))
 .nil)))))))
/-- Keys names -/
abbrev c5 : S := (.seq (.ret (.attr (.var 0) "own_names"))
 .nil)
/-- Keys pairs -/
abbrev c6 : S := (.seq (.ret (.bi .tuple (.cons (.lc2 (.tup (.cons (.var 1) (.cons (.var 2) .nil))) (.nm 1) (.itr (.attr (.var 0) "own_names")) .nil (.nm 2) (.itr (.idx (.attr (.var 0) "own_told") (.var 1))) .nil [1, 2] [2]) .nil)))
 .nil)
/-- Keys text -/
abbrev c7 : S := (.seq (.asg (.nm 1) (.lc (.bin .Add (.bin .Add (.bin .Add (.bin .Add (.var 2) (.glo "BLANK")) (.glo "TELLS")) (.glo "BLANK")) (.var 3)) (.tp [2, 3]) (.itr (.attr (.var 0) "pairs")) .nil [2, 3]))
 (.seq (.ret (.mt "join" (some .join) (.glo "FEED") (.cons (.lst (.star (.attr (.var 0) "own_names") (.star (.var 1) .nil))) .nil)))
 .nil))
/-- Keys keysets -/
abbrev c8 : S := (.seq (.ret (.attr (.var 0) "own_keysets"))
 .nil)
/-- Keys told -/
abbrev c9 : S := (.seq (.ife (.tru (.cmp .NotIn (.var 1) (.attr (.var 0) "own_names"))) (.seq (.raise 0 0 .nil)
 .nil) .nil)
 (.seq (.ret (.idx (.attr (.var 0) "own_told") (.var 1)))
 .nil))
/-- Keys tells -/
abbrev c10 : S := (.seq (.asg (.nm 3) (.mt "told" none (.var 0) (.cons (.var 1) .nil)))
 (.seq (.ife (.tru (.cmp .NotIn (.var 2) (.attr (.var 0) "own_names"))) (.seq (.raise 0 0 .nil)
 .nil) .nil)
 (.seq (.ret (.cmp .In (.var 2) (.var 3)))
 .nil)))
/-- Keys closed -/
abbrev c11_b0 : S := (.seq (.ife (.and (.tru (.cmp .NotEq (.var 2) (.glo "NUMBER"))) (.tru (.cmp .NotIn (.var 2) (.attr (.var 0) "own_names")))) (.seq (.raise 0 0 .nil)
 .nil) .nil)
 .nil)
abbrev c11 : S := (.seq (.for_ (.nm 2) (.itr (.var 1)) c11_b0)
 (.seq (.ife (.tru (.cmp .In (.glo "NUMBER") (.var 1))) (.seq (.ret (.glo "RECORD"))
 .nil) .nil)
 (.seq (.asg (.nm 3) (.lc2 (.var 4) (.nm 2) (.itr (.var 1)) .nil (.nm 4) (.itr (.tup (.cons (.var 2) (.star (.idx (.attr (.var 0) "own_told") (.var 2)) .nil)))) .nil [2, 4] [4]))
 (.seq (.ret (.bi .tuple (.cons (.bi .sortedSet (.cons (.var 3) .nil)) .nil)))
 .nil))))
/-- Keys __contains__ -/
abbrev c12 : S := (.seq (.ret (.cmp .In (.var 1) (.attr (.var 0) "own_names")))
 .nil)
/-- Keys __len__ -/
abbrev c13 : S := (.seq (.ret (.bi .len (.cons (.attr (.var 0) "own_names") .nil)))
 .nil)
/-- Keys __eq__ -/
abbrev c14 : S := (.seq (.ret (.and (.isi [(.own 0)] (.var 1)) (.and (.cmp .Eq (.attr (.var 0) "own_names") (.attr (.var 1) "own_names")) (.cmp .Eq (.attr (.var 0) "own_told") (.attr (.var 1) "own_told")))))
 .nil)
/--  within -/
abbrev c15 : S := (.seq (.ife (.tru (.cmp .Eq (.bi .tuple (.cons (.var 1) .nil)) (.glo "RECORD"))) (.seq (.ret (.lit (.bl true)))
 .nil) .nil)
 (.seq (.ret (.bi .all (.cons (.lc (.cmp .In (.var 2) (.var 1)) (.nm 2) (.itr (.var 0)) .nil [2]) .nil)))
 .nil))
/--  joint -/
abbrev c16 : S := (.seq (.ife (.or (.tru (.cmp .Eq (.bi .tuple (.cons (.var 0) .nil)) (.glo "RECORD"))) (.tru (.cmp .Eq (.bi .tuple (.cons (.var 1) .nil)) (.glo "RECORD")))) (.seq (.ret (.glo "RECORD"))
 .nil) .nil)
 (.seq (.ret (.bi .tuple (.cons (.bi .sortedSet (.cons (.lst (.star (.var 0) (.star (.var 1) .nil))) .nil)) .nil)))
 .nil))
/--  common -/
abbrev c17 : S := (.seq (.ife (.tru (.cmp .Eq (.bi .tuple (.cons (.var 0) .nil)) (.glo "RECORD"))) (.seq (.ret (.bi .tuple (.cons (.var 1) .nil)))
 .nil) .nil)
 (.seq (.ret (.ite (.tru (.cmp .Eq (.bi .tuple (.cons (.var 1) .nil)) (.glo "RECORD"))) (.bi .tuple (.cons (.var 0) .nil)) (.bi .tuple (.cons (.lc (.var 2) (.nm 2) (.itr (.var 0)) (.tru (.cmp .In (.var 2) (.var 1))) [2]) .nil))))
 .nil))
/--  below -/
abbrev c18 : S := (.seq (.ret (.lc (.var 2) (.nm 2) (.itr (.attr (.var 0) "keysets")) (.tru (.call 15 (.cons (.var 2) (.cons (.var 1) .nil)))) [2]))
 .nil)
/--  tops -/
abbrev c19 : S := (.seq (.ife (.tru (.cmp .Eq (.bi .tuple (.cons (.var 1) .nil)) (.glo "RECORD"))) (.seq (.ret (.glo "RECORD"))
 .nil) .nil)
 (.seq (.ret (.bi .tuple (.cons (.lc (.var 2) (.nm 2) (.itr (.var 1)) (.nt (.tru (.bi .any (.cons (.lc (.mt "tells" none (.var 0) (.cons (.var 3) (.cons (.var 2) .nil))) (.nm 3) (.itr (.var 1)) .nil [3]) .nil)))) [2]) .nil)))
 .nil))
/--  _law_box -/
abbrev c20 : S := (.seq (.asg (.nm 2) (.ite (.tru (.cmp .Lt (.var 1) (.bi .len (.cons (.var 0) .nil)))) (.idx (.var 0) (.var 1)) (.lit (.int (0)))))
 (.seq (.ret (.lst (.cons (.bin .Mult (.bi .abs (.cons (.var 2) .nil)) (.bi .int (.cons (.cmp .GtE (.bi .abs (.cons (.var 2) .nil)) (.bin .Pow (.lit (.int (10))) (.lit (.int (18))))) .nil))) (.cons (.bin .Add (.bin .Add (.bin .Mod (.bi .int (.cons (.var 2) .nil)) (.lit (.int (2305843009213693951)))) (.bin .Mult (.lit (.int (39373))) (.var 1))) (.lit (.int (587)))) (.cons (.lit (.int (0))) .nil)))))
 .nil))
/--  _law_take -/
abbrev c21 : S := (.seq (.ife (.tru (.cmp .Gt (.idx (.var 0) (.lit (.int (0)))) (.lit (.int (0))))) (.seq (.asg (.nm 5) (.bin .Mod (.bi .int (.cons (.idx (.var 0) (.lit (.int (0)))) .nil)) (.var 1)))
 (.seq (.sub (.var 0) (.lit (.int (0))) (.bin .FloorDiv (.idx (.var 0) (.lit (.int (0)))) (.var 1)))
 (.seq (.ret (.var 5))
 .nil))) .nil)
 (.seq (.sub (.var 0) (.lit (.int (2))) (.bin .Add (.idx (.var 0) (.lit (.int (2)))) (.lit (.int (1)))))
 (.seq (.asg (.nm 2) (.bin .Mod (.bi .int (.cons (.bin .Mult (.bin .Add (.idx (.var 0) (.lit (.int (1)))) (.bin .Mult (.lit (.int (48271))) (.idx (.var 0) (.lit (.int (2)))))) (.bin .Add (.lit (.int (39373))) (.idx (.var 0) (.lit (.int (2)))))) .nil)) (.lit (.int (2147483647)))))
 (.seq (.asg (.nm 3) (.bin .Add (.bin .Mod (.bi .int (.cons (.var 2) .nil)) (.lit (.int (40009)))) (.lit (.int (7)))))
 (.seq (.asg (.nm 4) (.bin .Mod (.bi .int (.cons (.bin .Mult (.bin .Add (.bin .Add (.var 2) (.idx (.var 0) (.lit (.int (2))))) (.bin .FloorDiv (.idx (.var 0) (.lit (.int (1)))) (.lit (.int (1000003))))) (.var 3)) .nil)) (.lit (.int (2147483629)))))
 (.seq (.ret (.bin .Mod (.bi .int (.cons (.bin .FloorDiv (.bin .Mod (.bi .int (.cons (.bin .Add (.bin .Mult (.var 4) (.lit (.int (48271)))) (.var 2)) .nil)) (.lit (.int (2147483587)))) (.lit (.int (64)))) .nil)) (.var 1)))
 .nil))))))
/--  _law_cells -/
abbrev c22_b0 : S := (.seq (.asg (.nm 5) (.bin .Mod (.bi .int (.cons (.var 3) .nil)) (.var 1)))
 (.seq (.sub (.var 2) (.var 5) (.bin .Add (.idx (.var 2) (.var 5)) (.bin .Mult (.var 4) (.bin .Add (.var 3) (.lit (.int (2)))))))
 .nil))
abbrev c22 : S := (.seq (.asg (.nm 2) (.cel (.or (.bi .list (.cons (.slc (.var 0) (.lit .non) (.var 1)) .nil)) (.lst (.cons (.lit (.int (0))) .nil)))))
 (.seq (.for_ (.tp [3, 4]) (.enum (.cons (.slc (.var 0) (.var 1) (.lit (.int (63)))) .nil)) c22_b0)
 (.seq (.ret (.var 2))
 .nil)))
/--  _law_same -/
abbrev c23 : S := (.seq (.ife (.tru (.isi [.list, .tuple] (.var 1))) (.seq (.ife (.or (.tru (.cmp .NotEq (.isi [.list] (.var 0)) (.isi [.list] (.var 1)))) (.tru (.cmp .NotEq (.isi [.tuple] (.var 0)) (.isi [.tuple] (.var 1))))) (.seq (.ret (.lit (.bl false)))
 .nil) .nil)
 (.seq (.ret (.and (.cmp .Eq (.bi .len (.cons (.var 0) .nil)) (.bi .len (.cons (.var 1) .nil))) (.bi .all (.cons (.lc (.call 23 (.cons (.var 2) (.cons (.var 3) .nil))) (.tp [2, 3]) (.zip (.cons (.var 0) (.cons (.var 1) .nil))) .nil [2, 3]) .nil))))
 .nil)) .nil)
 (.seq (.ife (.or (.tru (.cmp .Is (.var 1) (.lit (.non)))) (.tru (.isi [.bool, .str] (.var 1)))) (.seq (.ret (.and (.cmp .Eq (.var 0) (.var 1)) (.and (.cmp .Eq (.isi [.bool] (.var 0)) (.isi [.bool] (.var 1))) (.cmp .Eq (.cmp .Is (.var 0) (.lit (.non))) (.cmp .Is (.var 1) (.lit (.non)))))))
 .nil) .nil)
 (.seq (.ret (.and (.isi [.int] (.var 0)) (.and (.nt (.isi [.bool] (.var 0))) (.cmp .Eq (.var 0) (.var 1)))))
 .nil)))
/--  _law_lists -/
abbrev c24 : S := (.seq (.ret (.ite (.tru (.isi [.list, .tuple] (.var 0))) (.lc (.call 24 (.cons (.var 1) .nil)) (.nm 1) (.itr (.var 0)) .nil [1]) (.var 0)))
 .nil)
/--  _law_mixed -/
abbrev c25_b0 : S := (.seq (.ex (.mt "append" (some .append) (.var 4) (.cons (.mt "pop" (some .pop) (.var 3) (.cons (.call 21 (.cons (.var 0) (.cons (.bi .len (.cons (.var 3) .nil)) .nil))) .nil)) .nil)))
 .nil)
abbrev c25 : S := (.seq (.asg (.tp [3, 4]) (.tup (.cons (.cel (.bi .list (.cons (.var 1) .nil))) (.cons (.cel (.lst .nil)) .nil))))
 (.seq (.for_ (.nm 2) (.rng (.cons (.bi .len (.cons (.var 1) .nil)) .nil)) c25_b0)
 (.seq (.ret (.bi .tuple (.cons (.var 4) .nil)))
 .nil)))
/--  _law_book -/
abbrev c26_b0 : S := (.seq (.ife (.and (.tru (.cmp .Gt (.var 5) (.lit (.int (0))))) (.tru (.cmp .Eq (.call 21 (.cons (.var 0) (.cons (.lit (.int (4))) .nil))) (.lit (.int (0)))))) (.seq (.ex (.mt "append" (some .append) (.var 4) (.cons (.ite (.tru (.cmp .Eq (.var 5) (.lit (.int (1))))) (.tup (.cons (.var 7) (.cons (.var 8) .nil))) (.tup (.cons (.var 8) (.cons (.var 7) .nil)))) .nil)))
 .nil) .nil)
 .nil)
abbrev c26_b1 : S := (.seq (.for_ (.nm 8) (.itr (.slc (.var 3) (.bin .Add (.var 6) (.lit (.int (1)))) (.lit .non))) c26_b0)
 .nil)
abbrev c26 : S := (.seq (.asg (.nm 2) (.bi .list (.cons (.call 25 (.cons (.var 0) (.cons (.lst (.cons (.lit (.str "a")) (.cons (.lit (.str "city")) (.cons (.lit (.str "item")) (.cons (.lit (.str "lot")) (.cons (.lit (.str "shop")) (.cons (.lit (.str "user")) (.cons (.lit (.str "zzzzzzzz")) .nil)))))))) .nil))) .nil)))
 (.seq (.asg (.tp [3, 4, 5]) (.tup (.cons (.bi .sorted (.cons (.lc (.bi .str (.cons (.var 7) .nil)) (.nm 7) (.itr (.slc (.var 2) (.lit .non) (.bin .Add (.lit (.int (1))) (.call 21 (.cons (.var 0) (.cons (.var 1) .nil)))))) .nil [7]) .nil)) (.cons (.cel (.lst .nil)) (.cons (.call 21 (.cons (.var 0) (.cons (.lit (.int (3))) .nil))) .nil)))))
 (.seq (.for_ (.tp [6, 7]) (.enum (.cons (.var 3) .nil)) c26_b1)
 (.seq (.ret (.tup (.cons (.bi .tuple (.cons (.var 3) .nil)) (.cons (.bi .tuple (.cons (.var 4) .nil)) .nil))))
 .nil))))
/--  _law_told -/
abbrev c27_b0 : S := (.seq (.sub (.var 1) (.var 5) (.bin .Add (.idx (.var 1) (.var 5)) (.lc (.var 8) (.nm 8) (.itr (.idx (.var 1) (.var 6))) (.tru (.cmp .NotIn (.var 8) (.idx (.var 1) (.var 5)))) [8])))
 .nil)
abbrev c27_b1 : S := (.seq (.for_ (.nm 6) (.itr (.bi .list (.cons (.idx (.var 1) (.var 5)) .nil))) c27_b0)
 .nil)
abbrev c27_b2 : S := (.seq (.for_ (.nm 5) (.itr (.var 3)) c27_b1)
 .nil)
abbrev c27 : S := (.seq (.asg (.tp [3, 4]) (.var 0))
 (.seq (.asg (.nm 1) (.cel (.bi .dict (.cons (.lc (.tup (.cons (.var 5) (.cons (.lc (.idx (.var 7) (.lit (.int (1)))) (.nm 7) (.itr (.var 4)) (.tru (.cmp .Eq (.idx (.var 7) (.lit (.int (0)))) (.var 5))) [7]) .nil))) (.nm 5) (.itr (.var 3)) .nil [5]) .nil))))
 (.seq (.for_ (.nm 2) (.rng (.cons (.bi .len (.cons (.var 3) .nil)) .nil)) c27_b2)
 (.seq (.ret (.bi .dict (.cons (.lc (.tup (.cons (.var 5) (.cons (.bi .tuple (.cons (.lc (.var 6) (.nm 6) (.itr (.var 3)) (.tru (.cmp .In (.var 6) (.idx (.var 1) (.var 5)))) [6]) .nil)) .nil))) (.nm 5) (.itr (.var 3)) .nil [5]) .nil)))
 .nil))))
/--  _law_wide -/
abbrev c28_b0 : S := (.seq (.asg (.nm 4) (.bin .Add (.var 4) (.bi .list (.cons (.idx (.var 3) (.var 2)) .nil))))
 .nil)
abbrev c28 : S := (.seq (.ife (.tru (.cmp .In (.lit (.str "#")) (.var 1))) (.seq (.ret (.tup (.cons (.lit (.str "#")) .nil)))
 .nil) .nil)
 (.seq (.asg (.tp [3, 4]) (.tup (.cons (.call 27 (.cons (.var 0) .nil)) (.cons (.bi .list (.cons (.var 1) .nil)) .nil))))
 (.seq (.for_ (.nm 2) (.itr (.var 1)) c28_b0)
 (.seq (.ret (.bi .tuple (.cons (.lc (.var 2) (.nm 2) (.itr (.idx (.var 0) (.lit (.int (0))))) (.tru (.cmp .In (.var 2) (.var 4))) [2]) .nil)))
 .nil))))
/--  _law_rising -/
abbrev c29_b0 : S := (.seq (.asg (.nm 3) (.bi .len (.cons (.lc (.lit (.int (1))) (.nm 4) (.itr (.var 1)) (.tru (.cmp .LtE (.var 4) (.var 2))) [4]) .nil)))
 (.seq (.asg (.nm 1) (.bin .Add (.bin .Add (.slc (.var 1) (.lit .non) (.var 3)) (.lst (.cons (.var 2) .nil))) (.slc (.var 1) (.var 3) (.lit .non))))
 .nil))
abbrev c29 : S := (.seq (.asg (.nm 1) (.lst .nil))
 (.seq (.for_ (.nm 2) (.itr (.var 0)) c29_b0)
 (.seq (.ret (.var 1))
 .nil)))
/--  _law_sets -/
abbrev c30_b0 : S := (.seq (.asg (.nm 4) (.bin .Add (.var 4) (.call 29 (.cons (.lc (.var 5) (.nm 5) (.itr (.var 3)) (.and (.tru (.cmp .Eq (.bi .len (.cons (.var 5) .nil)) (.var 2))) (.tru (.cmp .Eq (.call 28 (.cons (.var 0) (.cons (.var 5) .nil))) (.var 5)))) [5]) .nil))))
 .nil)
abbrev c30_b1 : S := (.seq (.asg (.nm 3) (.bin .Add (.var 3) (.lc (.bin .Add (.var 5) (.tup (.cons (.var 1) .nil))) (.nm 5) (.itr (.var 3)) .nil [5])))
 .nil)
abbrev c30 : S := (.seq (.asg (.tp [3, 4]) (.tup (.cons (.lst (.cons (.tup .nil) .nil)) (.cons (.lst .nil) .nil))))
 (.seq (.for_ (.nm 1) (.itr (.idx (.var 0) (.lit (.int (0))))) c30_b1)
 (.seq (.for_ (.nm 2) (.rng (.cons (.bin .Add (.bi .len (.cons (.idx (.var 0) (.lit (.int (0)))) .nil)) (.lit (.int (1)))) .nil)) c30_b0)
 (.seq (.ret (.bin .Add (.var 4) (.lst (.cons (.tup (.cons (.lit (.str "#")) .nil)) .nil))))
 .nil))))
/--  _law_in -/
abbrev c31 : S := (.seq (.ret (.or (.cmp .Eq (.var 1) (.tup (.cons (.lit (.str "#")) .nil))) (.cmp .Eq (.lc (.var 2) (.nm 2) (.itr (.var 0)) (.tru (.cmp .NotIn (.var 2) (.var 1))) [2]) (.lst .nil))))
 .nil)
/--  _law_top -/
abbrev c32_b0 : S := (.seq (.ife (.or (.tru (.cmp .Eq (.var 2) (.lit (.str "#")))) (.tru (.cmp .Eq (.lc (.var 5) (.nm 5) (.itr (.var 1)) (.tru (.cmp .In (.var 2) (.idx (.var 3) (.var 5)))) [5]) (.lst .nil)))) (.seq (.ex (.mt "append" (some .append) (.var 4) (.cons (.var 2) .nil)))
 .nil) .nil)
 .nil)
abbrev c32 : S := (.seq (.asg (.tp [3, 4]) (.tup (.cons (.call 27 (.cons (.var 0) .nil)) (.cons (.cel (.lst .nil)) .nil))))
 (.seq (.for_ (.nm 2) (.itr (.var 1)) c32_b0)
 (.seq (.ret (.bi .tuple (.cons (.var 4) .nil)))
 .nil)))
/--  _law_by_hand_right -/
abbrev c33 : S := (.seq (.asg (.nm 0) (.make 0 4 (.cons (.tup (.cons (.lit (.str "city")) (.cons (.lit (.str "land")) (.cons (.lit (.str "shop")) (.cons (.lit (.str "user")) .nil))))) (.cons (.tup (.cons (.tup (.cons (.lit (.str "shop")) (.cons (.lit (.str "city")) .nil))) (.cons (.tup (.cons (.lit (.str "city")) (.cons (.lit (.str "land")) .nil))) .nil))) .nil))))
 (.seq (.asg (.tp [4, 5]) (.tup (.cons (.tup (.cons (.lit (.str "land")) (.cons (.lit (.str "user")) .nil))) (.cons (.tup (.cons (.lit (.str "city")) (.cons (.lit (.str "land")) (.cons (.lit (.str "shop")) .nil)))) .nil))))
 (.seq (.asg (.nm 1) (.cel (.lst (.cons (.call 15 (.cons (.var 4) (.cons (.var 5) .nil))) (.cons (.call 15 (.cons (.tup (.cons (.lit (.str "land")) .nil)) (.cons (.var 5) .nil))) (.cons (.call 15 (.cons (.var 5) (.cons (.tup (.cons (.lit (.str "#")) .nil)) .nil))) (.cons (.call 15 (.cons (.tup (.cons (.lit (.str "#")) .nil)) (.cons (.var 5) .nil))) .nil)))))))
 (.seq (.asg (.nm 1) (.cel (.bin .Add (.var 1) (.lst (.cons (.call 15 (.cons (.tup (.cons (.lit (.str "#")) .nil)) (.cons (.tup (.cons (.lit (.str "#")) .nil)) .nil))) (.cons (.call 15 (.cons (.tup .nil) (.cons (.tup .nil) .nil))) (.cons (.call 15 (.cons (.tup .nil) (.cons (.tup (.cons (.lit (.str "#")) .nil)) .nil))) (.cons (.call 15 (.cons (.lst (.cons (.lit (.str "land")) .nil)) (.cons (.lst (.cons (.lit (.str "city")) (.cons (.lit (.str "land")) .nil))) .nil))) .nil))))))))
 (.seq (.asg (.nm 2) (.lst (.cons (.lit (.bl false)) (.cons (.lit (.bl true)) (.cons (.lit (.bl true)) (.cons (.lit (.bl false)) (.cons (.lit (.bl true)) (.cons (.lit (.bl true)) (.cons (.lit (.bl true)) (.cons (.lit (.bl true)) .nil))))))))))
 (.seq (.asg (.nm 1) (.cel (.bin .Add (.var 1) (.lst (.cons (.call 16 (.cons (.var 4) (.cons (.var 5) .nil))) (.cons (.call 17 (.cons (.var 4) (.cons (.var 5) .nil))) (.cons (.call 16 (.cons (.var 4) (.cons (.tup (.cons (.lit (.str "#")) .nil)) .nil))) (.cons (.call 17 (.cons (.tup (.cons (.lit (.str "#")) .nil)) (.cons (.var 4) .nil))) (.cons (.call 16 (.cons (.tup .nil) (.cons (.tup .nil) .nil))) .nil)))))))))
 (.seq (.asg (.nm 2) (.bin .Add (.var 2) (.lst (.cons (.tup (.cons (.lit (.str "city")) (.cons (.lit (.str "land")) (.cons (.lit (.str "shop")) (.cons (.lit (.str "user")) .nil))))) (.cons (.tup (.cons (.lit (.str "land")) .nil)) (.cons (.tup (.cons (.lit (.str "#")) .nil)) (.cons (.var 4) (.cons (.tup .nil) .nil))))))))
 (.seq (.asg (.nm 1) (.cel (.bin .Add (.var 1) (.lst (.cons (.call 17 (.cons (.var 4) (.cons (.lst (.cons (.lit (.str "#")) .nil)) .nil))) (.cons (.call 17 (.cons (.tup (.cons (.lit (.str "#")) .nil)) (.cons (.tup (.cons (.lit (.str "#")) .nil)) .nil))) (.cons (.call 16 (.cons (.lst (.cons (.lit (.str "user")) .nil)) (.cons (.lst (.cons (.lit (.str "land")) .nil)) .nil))) .nil)))))))
 (.seq (.ex (.mt "append" (some .append) (.var 1) (.cons (.call 17 (.cons (.lst (.cons (.lit (.str "land")) .nil)) (.cons (.lst (.cons (.lit (.str "land")) (.cons (.lit (.str "user")) .nil))) .nil))) .nil)))
 (.seq (.asg (.nm 2) (.bin .Add (.var 2) (.lst (.cons (.var 4) (.cons (.tup (.cons (.lit (.str "#")) .nil)) (.cons (.var 4) (.cons (.tup (.cons (.lit (.str "land")) .nil)) .nil)))))))
 (.seq (.asg (.nm 1) (.cel (.bin .Add (.var 1) (.lst (.cons (.call 19 (.cons (.var 0) (.cons (.var 5) .nil))) (.cons (.call 19 (.cons (.var 0) (.cons (.tup .nil) .nil))) (.cons (.call 19 (.cons (.var 0) (.cons (.lst (.cons (.lit (.str "#")) .nil)) .nil))) (.cons (.call 19 (.cons (.var 0) (.cons (.tup (.cons (.lit (.str "city")) (.cons (.lit (.str "land")) (.cons (.lit (.str "user")) .nil)))) .nil))) .nil))))))))
 (.seq (.asg (.nm 2) (.bin .Add (.var 2) (.lst (.cons (.tup (.cons (.lit (.str "shop")) .nil)) (.cons (.tup .nil) (.cons (.tup (.cons (.lit (.str "#")) .nil)) (.cons (.tup (.cons (.lit (.str "city")) (.cons (.lit (.str "user")) .nil))) .nil)))))))
 (.seq (.asg (.nm 1) (.cel (.bin .Add (.var 1) (.lst (.cons (.call 18 (.cons (.var 0) (.cons (.tup (.cons (.lit (.str "city")) (.cons (.lit (.str "land")) .nil))) .nil))) (.cons (.call 18 (.cons (.var 0) (.cons (.tup .nil) .nil))) (.cons (.bi .len (.cons (.call 18 (.cons (.var 0) (.cons (.tup (.cons (.lit (.str "#")) .nil)) .nil))) .nil)) .nil)))))))
 (.seq (.asg (.nm 2) (.bin .Add (.var 2) (.lst (.cons (.lst (.cons (.tup .nil) (.cons (.tup (.cons (.lit (.str "land")) .nil)) (.cons (.tup (.cons (.lit (.str "city")) (.cons (.lit (.str "land")) .nil))) .nil)))) (.cons (.lst (.cons (.tup .nil) .nil)) (.cons (.lit (.int (9))) .nil))))))
 (.seq (.asg (.nm 3) (.cel (.call 18 (.cons (.var 0) (.cons (.tup (.cons (.lit (.str "city")) (.cons (.lit (.str "land")) .nil))) .nil)))))
 (.seq (.ex (.mt "reverse" (some .reverse) (.var 3) .nil))
 (.seq (.ex (.mt "append" (some .append) (.var 3) (.cons (.lit (.str "more")) .nil)))
 (.seq (.asg (.nm 1) (.cel (.bin .Add (.var 1) (.lst (.cons (.call 18 (.cons (.var 0) (.cons (.tup (.cons (.lit (.str "city")) (.cons (.lit (.str "land")) .nil))) .nil))) (.cons (.call 15 (.cons (.tup (.cons (.lit (.str "us")) .nil)) (.cons (.tup (.cons (.lit (.str "user")) (.cons (.lit (.str "users")) .nil))) .nil))) .nil))))))
 (.seq (.ex (.mt "append" (some .append) (.var 1) (.cons (.call 17 (.cons (.tup (.cons (.lit (.str "user")) .nil)) (.cons (.tup (.cons (.lit (.str "us")) (.cons (.lit (.str "users")) .nil))) .nil))) .nil)))
 (.seq (.frz 1) (.seq (.ret (.call 23 (.cons (.var 1) (.cons (.bin .Add (.var 2) (.lst (.cons (.lst (.cons (.tup .nil) (.cons (.tup (.cons (.lit (.str "land")) .nil)) (.cons (.tup (.cons (.lit (.str "city")) (.cons (.lit (.str "land")) .nil))) .nil)))) (.cons (.lit (.bl false)) (.cons (.tup .nil) .nil))))) .nil))))
 .nil)))))))))))))))))))))
/--  _law_right -/
abbrev c34_b0 : S := (.seq (.asg (.nm 9) (.bi .tuple (.cons (.lc (.var 11) (.nm 11) (.itr (.idx (.var 2) (.lit (.int (0))))) (.tru (.cmp .In (.var 11) (.bin .Add (.var 3) (.var 8)))) [11]) .nil)))
 (.seq (.ife (.tru (.cmp .In (.lit (.str "#")) (.bin .Add (.var 3) (.var 8)))) (.seq (.asg (.nm 9) (.tup (.cons (.lit (.str "#")) .nil)))
 .nil) .nil)
 (.seq (.asg (.nm 10) (.ite (.tru (.cmp .NotEq (.var 3) (.tup (.cons (.lit (.str "#")) .nil)))) (.bi .tuple (.cons (.lc (.var 11) (.nm 11) (.itr (.var 3)) (.tru (.cmp .In (.var 11) (.var 8))) [11]) .nil)) (.var 8)))
 (.seq (.ife (.tru (.cmp .Eq (.var 8) (.tup (.cons (.lit (.str "#")) .nil)))) (.seq (.asg (.nm 10) (.var 3))
 .nil) .nil)
 (.seq (.asg (.nm 7) (.cel (.lst (.cons (.callK 15 0 ["one", "other"] (.cons (.var 3) (.cons (.var 8) .nil))) (.cons (.callK 16 0 ["one", "other"] (.cons (.var 3) (.cons (.var 8) .nil))) .nil)))))
 (.seq (.ex (.mt "append" (some .append) (.var 7) (.cons (.callK 17 0 ["one", "other"] (.cons (.var 3) (.cons (.var 8) .nil))) .nil)))
 (.seq (.frz 7) (.seq (.ife (.nt (.tru (.call 23 (.cons (.var 7) (.cons (.lst (.cons (.call 31 (.cons (.var 3) (.cons (.var 8) .nil))) (.cons (.var 9) (.cons (.var 10) .nil)))) .nil))))) (.seq (.ret (.lit (.bl false)))
 .nil) .nil)
 .nil))))))))
abbrev c34_b1 : S := (.seq (.asg (.nm 6) (.lc (.var 11) (.nm 11) (.itr (.var 5)) (.tru (.call 31 (.cons (.var 11) (.cons (.var 3) .nil)))) [11]))
 (.seq (.asg (.nm 7) (.cel (.lst (.cons (.cel (.call 18 (.cons (.var 4) (.cons (.var 3) .nil)))) (.cons (.callK 18 0 ["keyset", "keys"] (.cons (.call 24 (.cons (.var 3) .nil)) (.cons (.var 4) .nil))) .nil)))))
 (.seq (.ex (.mt "append" (some .append) (.var 7) (.cons (.callK 19 0 ["keyset", "keys"] (.cons (.var 3) (.cons (.var 4) .nil))) .nil)))
 (.seq (.frz 7) (.seq (.ife (.nt (.tru (.call 23 (.cons (.var 7) (.cons (.lst (.cons (.var 6) (.cons (.var 6) (.cons (.call 32 (.cons (.var 2) (.cons (.var 3) .nil))) .nil)))) .nil))))) (.seq (.ret (.lit (.bl false)))
 .nil) .nil)
 (.seq (.ex (.mt "append" (some .append) (.idx (.var 7) (.lit (.int (0)))) (.cons (.tup .nil) .nil)))
 (.seq (.ife (.nt (.tru (.call 23 (.cons (.call 18 (.cons (.var 4) (.cons (.var 3) .nil))) (.cons (.var 6) .nil))))) (.seq (.ret (.lit (.bl false)))
 .nil) .nil)
 (.seq (.for_ (.nm 8) (.itr (.var 5)) c34_b0)
 .nil))))))))
abbrev c34_b2 : S := (.seq (.asg (.nm 2) (.call 26 (.cons (.var 0) (.cons (.lit (.int (4))) .nil))))
 (.seq (.asg (.tp [4, 5]) (.tup (.cons (.make 0 4 (.cons (.idx (.var 2) (.lit (.int (0)))) (.cons (.idx (.var 2) (.lit (.int (1)))) .nil))) (.cons (.call 30 (.cons (.var 2) .nil)) .nil))))
 (.seq (.for_ (.nm 3) (.itr (.var 5)) c34_b1)
 .nil)))
abbrev c34 : S := (.seq (.ife (.nt (.tru (.call 33 .nil))) (.seq (.ret (.lit (.bl false)))
 .nil) .nil)
 (.seq (.for_ (.nm 1) (.rng (.cons (.lit (.int (4))) .nil)) c34_b2)
 (.seq (.ret (.lit (.bl true)))
 .nil)))
/--  law -/
abbrev c35 : S := (.seq (.asg (.nm 1) (.call 22 (.cons (.var 0) (.cons (.lit (.int (3))) .nil))))
 (.seq (.ret (.bi .all (.cons (.lc (.call 34 (.cons (.cel (.call 20 (.cons (.var 1) (.cons (.var 2) .nil)))) .nil)) (.nm 2) (.rng (.cons (.bi .len (.cons (.var 1) .nil)) .nil)) .nil [2]) .nil)))
 .nil))
theorem e0 : cmpSs 60 (tb.ct d0) (defBody d0.st) = c0 := by kernel_rfl
theorem e1 : cmpSs 60 (tb.ct d1) (defBody d1.st) = c1 := by kernel_rfl
theorem e2 : cmpSs 60 (tb.ct d2) (defBody d2.st) = c2 := by kernel_rfl
theorem e3 : cmpSs 60 (tb.ct d3) (defBody d3.st) = c3 := by kernel_rfl
theorem e4 : cmpSs 60 (tb.ct d4) (defBody d4.st) = c4 := by kernel_rfl
theorem e5 : cmpSs 60 (tb.ct d5) (defBody d5.st) = c5 := by kernel_rfl
theorem e6 : cmpSs 60 (tb.ct d6) (defBody d6.st) = c6 := by kernel_rfl
theorem e7 : cmpSs 60 (tb.ct d7) (defBody d7.st) = c7 := by kernel_rfl
theorem e8 : cmpSs 60 (tb.ct d8) (defBody d8.st) = c8 := by kernel_rfl
theorem e9 : cmpSs 60 (tb.ct d9) (defBody d9.st) = c9 := by kernel_rfl
theorem e10 : cmpSs 60 (tb.ct d10) (defBody d10.st) = c10 := by kernel_rfl
theorem e11 : cmpSs 60 (tb.ct d11) (defBody d11.st) = c11 := by kernel_rfl
theorem e12 : cmpSs 60 (tb.ct d12) (defBody d12.st) = c12 := by kernel_rfl
theorem e13 : cmpSs 60 (tb.ct d13) (defBody d13.st) = c13 := by kernel_rfl
theorem e14 : cmpSs 60 (tb.ct d14) (defBody d14.st) = c14 := by kernel_rfl
theorem e15 : cmpSs 60 (tb.ct d15) (defBody d15.st) = c15 := by kernel_rfl
theorem e16 : cmpSs 60 (tb.ct d16) (defBody d16.st) = c16 := by kernel_rfl
theorem e17 : cmpSs 60 (tb.ct d17) (defBody d17.st) = c17 := by kernel_rfl
theorem e18 : cmpSs 60 (tb.ct d18) (defBody d18.st) = c18 := by kernel_rfl
theorem e19 : cmpSs 60 (tb.ct d19) (defBody d19.st) = c19 := by kernel_rfl
theorem e20 : cmpSs 60 (tb.ct d20) (defBody d20.st) = c20 := by kernel_rfl
theorem e21 : cmpSs 60 (tb.ct d21) (defBody d21.st) = c21 := by kernel_rfl
theorem e22 : cmpSs 60 (tb.ct d22) (defBody d22.st) = c22 := by kernel_rfl
theorem e23 : cmpSs 60 (tb.ct d23) (defBody d23.st) = c23 := by kernel_rfl
theorem e24 : cmpSs 60 (tb.ct d24) (defBody d24.st) = c24 := by kernel_rfl
theorem e25 : cmpSs 60 (tb.ct d25) (defBody d25.st) = c25 := by kernel_rfl
theorem e26 : cmpSs 60 (tb.ct d26) (defBody d26.st) = c26 := by kernel_rfl
theorem e27 : cmpSs 60 (tb.ct d27) (defBody d27.st) = c27 := by kernel_rfl
theorem e28 : cmpSs 60 (tb.ct d28) (defBody d28.st) = c28 := by kernel_rfl
theorem e29 : cmpSs 60 (tb.ct d29) (defBody d29.st) = c29 := by kernel_rfl
theorem e30 : cmpSs 60 (tb.ct d30) (defBody d30.st) = c30 := by kernel_rfl
theorem e31 : cmpSs 60 (tb.ct d31) (defBody d31.st) = c31 := by kernel_rfl
theorem e32 : cmpSs 60 (tb.ct d32) (defBody d32.st) = c32 := by kernel_rfl
theorem e33 : cmpSs 60 (tb.ct d33) (defBody d33.st) = c33 := by kernel_rfl
theorem e34 : cmpSs 60 (tb.ct d34) (defBody d34.st) = c34 := by kernel_rfl
theorem e35 : cmpSs 60 (tb.ct d35) (defBody d35.st) = c35 := by kernel_rfl
def f0 : Fn := ⟨2, 1, c0⟩
def f1 : Fn := ⟨2, 1, c1⟩
def f2 : Fn := ⟨5, 2, c2⟩
def f3 : Fn := ⟨9, 2, c3⟩
def f4 : Fn := ⟨9, 3, c4⟩
def f5 : Fn := ⟨1, 1, c5⟩
def f6 : Fn := ⟨3, 1, c6⟩
def f7 : Fn := ⟨4, 1, c7⟩
def f8 : Fn := ⟨1, 1, c8⟩
def f9 : Fn := ⟨2, 2, c9⟩
def f10 : Fn := ⟨4, 3, c10⟩
def f11 : Fn := ⟨5, 2, c11⟩
def f12 : Fn := ⟨2, 2, c12⟩
def f13 : Fn := ⟨1, 1, c13⟩
def f14 : Fn := ⟨2, 2, c14⟩
def f15 : Fn := ⟨3, 2, c15⟩
def f16 : Fn := ⟨2, 2, c16⟩
def f17 : Fn := ⟨3, 2, c17⟩
def f18 : Fn := ⟨3, 2, c18⟩
def f19 : Fn := ⟨4, 2, c19⟩
def f20 : Fn := ⟨3, 2, c20⟩
def f21 : Fn := ⟨6, 2, c21⟩
def f22 : Fn := ⟨6, 2, c22⟩
def f23 : Fn := ⟨4, 2, c23⟩
def f24 : Fn := ⟨2, 1, c24⟩
def f25 : Fn := ⟨5, 2, c25⟩
def f26 : Fn := ⟨9, 2, c26⟩
def f27 : Fn := ⟨9, 1, c27⟩
def f28 : Fn := ⟨5, 2, c28⟩
def f29 : Fn := ⟨5, 1, c29⟩
def f30 : Fn := ⟨6, 1, c30⟩
def f31 : Fn := ⟨3, 2, c31⟩
def f32 : Fn := ⟨6, 2, c32⟩
def f33 : Fn := ⟨6, 0, c33⟩
def f34 : Fn := ⟨12, 1, c34⟩
def f35 : Fn := ⟨3, 1, c35⟩
def fnsC (i : Nat) : Option Fn := [f0, f1, f2, f3, f4, f5, f6, f7, f8, f9, f10, f11, f12, f13, f14, f15, f16, f17, f18, f19, f20, f21, f22, f23, f24, f25, f26, f27, f28, f29, f30, f31, f32, f33, f34, f35][i]?
theorem fns_eq : tb.fns = fnsC := by
  funext i
  show ([d0, d1, d2, d3, d4, d5, d6, d7, d8, d9, d10, d11, d12, d13, d14, d15, d16, d17, d18, d19, d20, d21, d22, d23, d24, d25, d26, d27, d28, d29, d30, d31, d32, d33, d34, d35][i]?).map _ = [f0, f1, f2, f3, f4, f5, f6, f7, f8, f9, f10, f11, f12, f13, f14, f15, f16, f17, f18, f19, f20, f21, f22, f23, f24, f25, f26, f27, f28, f29, f30, f31, f32, f33, f34, f35][i]?
  rw [← List.getElem?_map]
  simp only [List.map_cons, List.map_nil, e0, e1, e2, e3, e4, e5, e6, e7, e8, e9, e10, e11, e12, e13, e14, e15, e16, e17, e18, e19, e20, e21, e22, e23, e24, e25, e26, e27, e28, e29, e30, e31, e32, e33, e34, e35]
  rfl
def lawI : Nat := 35
def loose0 : List Str := ["NoName", "BadLine", "Ringed", "LETTERS", "MOST_LETTERS", "NUMBER", "RECORD", "TELLS", "FEED", "BLANK", "is_name", "words_of", "reached", "all_closed", "Keys", "within", "joint", "common", "below", "tops", "_law_box", "_law_take", "_law_cells", "_law_same", "_law_lists", "_law_mixed", "_law_book", "_law_told", "_law_wide", "_law_rising"]
def loose1 : List Str := ["_law_sets", "_law_in", "_law_top", "_law_by_hand_right", "_law_right"]
def loose : List Str := loose0 ++ loose1
abbrev Rw : PySem.W.OpenRow := PySem.W.OpenLaw.row PySem.Challenge.rw_surershares_k03_two_keysets
def ob (s : PySem.W.SharedT) : Tb.AlS := tb.obs 6 (HandSHeadRun.getT s)
theorem ob_eq (s : PySem.W.SharedT) : ob s = (tb.hook 6).obs s.abs := Tb.obs_eq (HandSHeadRun.getT_eq s)
end K03
end
section
set_option linter.all false
set_option maxRecDepth 100000
set_option maxHeartbeats 0
namespace K03
open PySem PySem.W PySem.Calls PyProof.Rows L2 Sv
theorem runH (w : World) : HandSHeadRun.RunEq Rw (PySem.W.view Rw.prog [38]) (tb.hook 6) ob 3000 loose w := by
  intro os
  kernel_rfl
theorem holds_of (hlaw : ∀ ns : List Int, ns.length ≤ 63 → run tb.G tb.fns 20 lawI [.scr ns] [] = .ok (.val (.bl true)) []) : PySem.Challenge.rw_surershares_k03_two_keysets.Holds := by
  w_on; o_law
  refine HandSHeadRun.head_any (r := Rw) (q := PySem.W.view Rw.prog [38]) (H := tb.hook 6) (ob := ob) (M := 3000) (loose := loose) (d := HandSHeadRun.topDef Rw.prog 38) (kwd := []) ob_eq
    (by kernel_rfl) (fun s => by kernel_rfl) runH (by kernel_rfl) (by kernel_rfl) (by kernel_rfl) (by rfl) (by first | assumption | decide +kernel) (by decide +kernel) ⟨rfl, rfl, rfl, rfl, rfl, by decide +kernel⟩ ?hw ?hc
  case hw => w_witness2
  case hc =>
    exact walk_sv (tb := tb) (kk := 20) (i := lawI) (x := "_law_script") (by rfl) (by decide) (by kernel_rfl) ⟨rfl, by decide, by decide⟩ wf binds scopes kws (by decide) (by kernel_rfl) (by kernel_rfl) (by kernel_rfl) (by kernel_rfl) hlaw
end K03
end
section
set_option linter.all false
set_option maxRecDepth 100000
set_option maxHeartbeats 0
namespace K03
open PySem L2 Sv
/-! facts -/
theorem u0 (k : Nat) (a0 : T) (st : Stor) : Sv.run tb.G fnsC (k + 1) 0 [a0] st = outC st.length (evS ⟨tb.G, Sv.run tb.G fnsC k⟩ c0 [some a0, none] st) := runB_out _ _ _ _
theorem u1 (k : Nat) (a0 : T) (st : Stor) : Sv.run tb.G fnsC (k + 1) 1 [a0] st = outC st.length (evS ⟨tb.G, Sv.run tb.G fnsC k⟩ c1 [some a0, none] st) := runB_out _ _ _ _
theorem u2 (k : Nat) (a0 a1 : T) (st : Stor) : Sv.run tb.G fnsC (k + 1) 2 [a0, a1] st = outC st.length (evS ⟨tb.G, Sv.run tb.G fnsC k⟩ c2 [some a0, some a1, none, none, none] st) := runB_out _ _ _ _
theorem u3 (k : Nat) (a0 a1 : T) (st : Stor) : Sv.run tb.G fnsC (k + 1) 3 [a0, a1] st = outC st.length (evS ⟨tb.G, Sv.run tb.G fnsC k⟩ c3 [some a0, some a1, none, none, none, none, none, none, none] st) := runB_out _ _ _ _
theorem u4 (k : Nat) (a0 a1 a2 : T) (st : Stor) : Sv.run tb.G fnsC (k + 1) 4 [a0, a1, a2] st = outC st.length (evS ⟨tb.G, Sv.run tb.G fnsC k⟩ c4 [some a0, some a1, some a2, none, none, none, none, none, none] st) := runB_out _ _ _ _
theorem u5 (k : Nat) (a0 : T) (st : Stor) : Sv.run tb.G fnsC (k + 1) 5 [a0] st = outC st.length (evS ⟨tb.G, Sv.run tb.G fnsC k⟩ c5 [some a0] st) := runB_out _ _ _ _
theorem u6 (k : Nat) (a0 : T) (st : Stor) : Sv.run tb.G fnsC (k + 1) 6 [a0] st = outC st.length (evS ⟨tb.G, Sv.run tb.G fnsC k⟩ c6 [some a0, none, none] st) := runB_out _ _ _ _
theorem u7 (k : Nat) (a0 : T) (st : Stor) : Sv.run tb.G fnsC (k + 1) 7 [a0] st = outC st.length (evS ⟨tb.G, Sv.run tb.G fnsC k⟩ c7 [some a0, none, none, none] st) := runB_out _ _ _ _
theorem u8 (k : Nat) (a0 : T) (st : Stor) : Sv.run tb.G fnsC (k + 1) 8 [a0] st = outC st.length (evS ⟨tb.G, Sv.run tb.G fnsC k⟩ c8 [some a0] st) := runB_out _ _ _ _
theorem u9 (k : Nat) (a0 a1 : T) (st : Stor) : Sv.run tb.G fnsC (k + 1) 9 [a0, a1] st = outC st.length (evS ⟨tb.G, Sv.run tb.G fnsC k⟩ c9 [some a0, some a1] st) := runB_out _ _ _ _
theorem u10 (k : Nat) (a0 a1 a2 : T) (st : Stor) : Sv.run tb.G fnsC (k + 1) 10 [a0, a1, a2] st = outC st.length (evS ⟨tb.G, Sv.run tb.G fnsC k⟩ c10 [some a0, some a1, some a2, none] st) := runB_out _ _ _ _
theorem u11 (k : Nat) (a0 a1 : T) (st : Stor) : Sv.run tb.G fnsC (k + 1) 11 [a0, a1] st = outC st.length (evS ⟨tb.G, Sv.run tb.G fnsC k⟩ c11 [some a0, some a1, none, none, none] st) := runB_out _ _ _ _
theorem u12 (k : Nat) (a0 a1 : T) (st : Stor) : Sv.run tb.G fnsC (k + 1) 12 [a0, a1] st = outC st.length (evS ⟨tb.G, Sv.run tb.G fnsC k⟩ c12 [some a0, some a1] st) := runB_out _ _ _ _
theorem u13 (k : Nat) (a0 : T) (st : Stor) : Sv.run tb.G fnsC (k + 1) 13 [a0] st = outC st.length (evS ⟨tb.G, Sv.run tb.G fnsC k⟩ c13 [some a0] st) := runB_out _ _ _ _
theorem u14 (k : Nat) (a0 a1 : T) (st : Stor) : Sv.run tb.G fnsC (k + 1) 14 [a0, a1] st = outC st.length (evS ⟨tb.G, Sv.run tb.G fnsC k⟩ c14 [some a0, some a1] st) := runB_out _ _ _ _
theorem u15 (k : Nat) (a0 a1 : T) (st : Stor) : Sv.run tb.G fnsC (k + 1) 15 [a0, a1] st = outC st.length (evS ⟨tb.G, Sv.run tb.G fnsC k⟩ c15 [some a0, some a1, none] st) := runB_out _ _ _ _
theorem u16 (k : Nat) (a0 a1 : T) (st : Stor) : Sv.run tb.G fnsC (k + 1) 16 [a0, a1] st = outC st.length (evS ⟨tb.G, Sv.run tb.G fnsC k⟩ c16 [some a0, some a1] st) := runB_out _ _ _ _
theorem u17 (k : Nat) (a0 a1 : T) (st : Stor) : Sv.run tb.G fnsC (k + 1) 17 [a0, a1] st = outC st.length (evS ⟨tb.G, Sv.run tb.G fnsC k⟩ c17 [some a0, some a1, none] st) := runB_out _ _ _ _
theorem u18 (k : Nat) (a0 a1 : T) (st : Stor) : Sv.run tb.G fnsC (k + 1) 18 [a0, a1] st = outC st.length (evS ⟨tb.G, Sv.run tb.G fnsC k⟩ c18 [some a0, some a1, none] st) := runB_out _ _ _ _
theorem u19 (k : Nat) (a0 a1 : T) (st : Stor) : Sv.run tb.G fnsC (k + 1) 19 [a0, a1] st = outC st.length (evS ⟨tb.G, Sv.run tb.G fnsC k⟩ c19 [some a0, some a1, none, none] st) := runB_out _ _ _ _
theorem u20 (k : Nat) (a0 a1 : T) (st : Stor) : Sv.run tb.G fnsC (k + 1) 20 [a0, a1] st = outC st.length (evS ⟨tb.G, Sv.run tb.G fnsC k⟩ c20 [some a0, some a1, none] st) := runB_out _ _ _ _
theorem u21 (k : Nat) (a0 a1 : T) (st : Stor) : Sv.run tb.G fnsC (k + 1) 21 [a0, a1] st = outC st.length (evS ⟨tb.G, Sv.run tb.G fnsC k⟩ c21 [some a0, some a1, none, none, none, none] st) := runB_out _ _ _ _
theorem u22 (k : Nat) (a0 a1 : T) (st : Stor) : Sv.run tb.G fnsC (k + 1) 22 [a0, a1] st = outC st.length (evS ⟨tb.G, Sv.run tb.G fnsC k⟩ c22 [some a0, some a1, none, none, none, none] st) := runB_out _ _ _ _
theorem u23 (k : Nat) (a0 a1 : T) (st : Stor) : Sv.run tb.G fnsC (k + 1) 23 [a0, a1] st = outC st.length (evS ⟨tb.G, Sv.run tb.G fnsC k⟩ c23 [some a0, some a1, none, none] st) := runB_out _ _ _ _
theorem u24 (k : Nat) (a0 : T) (st : Stor) : Sv.run tb.G fnsC (k + 1) 24 [a0] st = outC st.length (evS ⟨tb.G, Sv.run tb.G fnsC k⟩ c24 [some a0, none] st) := runB_out _ _ _ _
theorem u25 (k : Nat) (a0 a1 : T) (st : Stor) : Sv.run tb.G fnsC (k + 1) 25 [a0, a1] st = outC st.length (evS ⟨tb.G, Sv.run tb.G fnsC k⟩ c25 [some a0, some a1, none, none, none] st) := runB_out _ _ _ _
theorem u26 (k : Nat) (a0 a1 : T) (st : Stor) : Sv.run tb.G fnsC (k + 1) 26 [a0, a1] st = outC st.length (evS ⟨tb.G, Sv.run tb.G fnsC k⟩ c26 [some a0, some a1, none, none, none, none, none, none, none] st) := runB_out _ _ _ _
theorem u27 (k : Nat) (a0 : T) (st : Stor) : Sv.run tb.G fnsC (k + 1) 27 [a0] st = outC st.length (evS ⟨tb.G, Sv.run tb.G fnsC k⟩ c27 [some a0, none, none, none, none, none, none, none, none] st) := runB_out _ _ _ _
theorem u28 (k : Nat) (a0 a1 : T) (st : Stor) : Sv.run tb.G fnsC (k + 1) 28 [a0, a1] st = outC st.length (evS ⟨tb.G, Sv.run tb.G fnsC k⟩ c28 [some a0, some a1, none, none, none] st) := runB_out _ _ _ _
theorem u29 (k : Nat) (a0 : T) (st : Stor) : Sv.run tb.G fnsC (k + 1) 29 [a0] st = outC st.length (evS ⟨tb.G, Sv.run tb.G fnsC k⟩ c29 [some a0, none, none, none, none] st) := runB_out _ _ _ _
theorem u30 (k : Nat) (a0 : T) (st : Stor) : Sv.run tb.G fnsC (k + 1) 30 [a0] st = outC st.length (evS ⟨tb.G, Sv.run tb.G fnsC k⟩ c30 [some a0, none, none, none, none, none] st) := runB_out _ _ _ _
theorem u31 (k : Nat) (a0 a1 : T) (st : Stor) : Sv.run tb.G fnsC (k + 1) 31 [a0, a1] st = outC st.length (evS ⟨tb.G, Sv.run tb.G fnsC k⟩ c31 [some a0, some a1, none] st) := runB_out _ _ _ _
theorem u32 (k : Nat) (a0 a1 : T) (st : Stor) : Sv.run tb.G fnsC (k + 1) 32 [a0, a1] st = outC st.length (evS ⟨tb.G, Sv.run tb.G fnsC k⟩ c32 [some a0, some a1, none, none, none, none] st) := runB_out _ _ _ _
theorem u33 (k : Nat) (st : Stor) : Sv.run tb.G fnsC (k + 1) 33 [] st = outC st.length (evS ⟨tb.G, Sv.run tb.G fnsC k⟩ c33 [none, none, none, none, none, none] st) := runB_out _ _ _ _
theorem u34 (k : Nat) (a0 : T) (st : Stor) : Sv.run tb.G fnsC (k + 1) 34 [a0] st = outC st.length (evS ⟨tb.G, Sv.run tb.G fnsC k⟩ c34 [some a0, none, none, none, none, none, none, none, none, none, none, none] st) := runB_out _ _ _ _
theorem u35 (k : Nat) (a0 : T) (st : Stor) : Sv.run tb.G fnsC (k + 1) 35 [a0] st = outC st.length (evS ⟨tb.G, Sv.run tb.G fnsC k⟩ c35 [some a0, none, none] st) := runB_out _ _ _ _
theorem g_LETTERS : tb.G.glo "LETTERS" = some (.str "abcdefghijklmnopqrstuvwxyz") := by kernel_rfl
theorem g_MOST_LETTERS : tb.G.glo "MOST_LETTERS" = some (.int (8)) := by kernel_rfl
theorem g_NUMBER : tb.G.glo "NUMBER" = some (.str "#") := by kernel_rfl
theorem g_RECORD : tb.G.glo "RECORD" = some (tS [("#" : Str)]) := by kernel_rfl
theorem g_TELLS : tb.G.glo "TELLS" = some (.str "tells") := by kernel_rfl
theorem g_FEED : tb.G.glo "FEED" = some (.str "\n") := by kernel_rfl
theorem g_BLANK : tb.G.glo "BLANK" = some (.str " ") := by kernel_rfl
theorem m_0_told : tb.G.meth 0 "told" = some 9 := by kernel_rfl
theorem m_0_tells : tb.G.meth 0 "tells" = some 10 := by kernel_rfl
theorem m_0_closed : tb.G.meth 0 "closed" = some 11 := by kernel_rfl
theorem m_0___contains__ : tb.G.meth 0 "__contains__" = some 12 := by kernel_rfl
theorem m_0___len__ : tb.G.meth 0 "__len__" = some 13 := by kernel_rfl
theorem m_0___eq__ : tb.G.meth 0 "__eq__" = some 14 := by kernel_rfl
theorem p_0_names : tb.G.prop 0 "names" = some 5 := by kernel_rfl
theorem p_0_pairs : tb.G.prop 0 "pairs" = some 6 := by kernel_rfl
theorem p_0_text : tb.G.prop 0 "text" = some 7 := by kernel_rfl
theorem p_0_keysets : tb.G.prop 0 "keysets" = some 8 := by kernel_rfl
theorem pn_0_own_names : tb.G.prop 0 "own_names" = none := by kernel_rfl
theorem fl_0_own_names : tb.G.fld 0 "own_names" = true := by kernel_rfl
theorem pn_0_own_told : tb.G.prop 0 "own_told" = none := by kernel_rfl
theorem fl_0_own_told : tb.G.fld 0 "own_told" = true := by kernel_rfl
theorem pn_0_own_keysets : tb.G.prop 0 "own_keysets" = none := by kernel_rfl
theorem fl_0_own_keysets : tb.G.fld 0 "own_keysets" = true := by kernel_rfl
theorem kwf0 : tb.G.kw 18 0 ["keyset", "keys"] = some ([1, 0], []) := by kernel_rfl
theorem kwf1 : tb.G.kw 19 0 ["keyset", "keys"] = some ([1, 0], []) := by kernel_rfl
theorem kwf2 : tb.G.kw 15 0 ["one", "other"] = some ([0, 1], []) := by kernel_rfl
theorem kwf3 : tb.G.kw 16 0 ["one", "other"] = some ([0, 1], []) := by kernel_rfl
theorem kwf4 : tb.G.kw 17 0 ["one", "other"] = some ([0, 1], []) := by kernel_rfl

end K03
end
section
set_option linter.all false
set_option maxRecDepth 100000
set_option maxHeartbeats 4000000
namespace K03
open PySem L2 Sv
theorem kf_own_names {a b c : T} : getF [("own_names", a), ("own_told", b), ("own_keysets", c)] "own_names" = some a := by kernel_rfl
theorem kf_own_told {a b c : T} : getF [("own_names", a), ("own_told", b), ("own_keysets", c)] "own_told" = some b := by kernel_rfl
theorem kf_own_keysets {a b c : T} : getF [("own_names", a), ("own_told", b), ("own_keysets", c)] "own_keysets" = some c := by kernel_rfl
local macro_rules
  | `(tactic| contradiction) => `(tactic| first
    | ((with_reducible apply gd_fz); first | with_reducible exact fz_val _ | with_reducible exact fz_newL _ | with_reducible exact fz_newD _ | with_reducible exact fz_newI _ _)
    | ((with_reducible apply gd_E); first
      | ((with_reducible apply e_var); rfl) | with_reducible exact e_lit | with_reducible apply e_cmp | with_reducible apply e_call | with_reducible apply e_bi | with_reducible apply e_lc | with_reducible apply e_idx | with_reducible apply e_attr | with_reducible apply e_mt
      | with_reducible apply e_tup | with_reducible apply e_lst | with_reducible apply e_bin | with_reducible apply e_ite | with_reducible apply e_nt | with_reducible apply e_andB | with_reducible apply e_orB | with_reducible apply e_neg | with_reducible apply e_slc | with_reducible apply e_isi | with_reducible apply e_make | with_reducible apply e_lc2 | with_reducible apply e_dc | ((with_reducible apply e_celN); (· repeat contradiction); (· (simp only [List.length_cons, List.length_nil, Nat.zero_add, Nat.reduceAdd]; rfl)); (· (simp only [List.nil_append, List.cons_append]; rfl)))
      | ((with_reducible apply e_callK); (· repeat contradiction); (· first | with_reducible exact kwf0 | with_reducible exact kwf1 | with_reducible exact kwf2 | with_reducible exact kwf3 | with_reducible exact kwf4); (· rfl); (· rfl))
      | with_reducible exact e_glo g_LETTERS
      | with_reducible exact e_glo g_MOST_LETTERS
      | with_reducible exact e_glo g_NUMBER
      | with_reducible exact e_glo g_RECORD
      | with_reducible exact e_glo g_TELLS
      | with_reducible exact e_glo g_FEED
      | with_reducible exact e_glo g_BLANK
      )
    | ((with_reducible apply gd_A); first | with_reducible exact a_nil | with_reducible apply a_cons | with_reducible apply a_star)
    | ((with_reducible apply gd_T); first | with_reducible apply t_tru | with_reducible exact t_nil | with_reducible apply t_nt | with_reducible apply t_or | with_reducible apply t_and)
    | ((with_reducible apply gd_I); first | with_reducible apply i_itr | with_reducible apply i_rngN | with_reducible apply i_enum | with_reducible apply i_zipL | with_reducible apply i_zipT)
    | ((with_reducible apply gd_S); first
      | with_reducible apply s_seq | with_reducible exact s_nil | with_reducible apply s_ret | with_reducible apply s_ife | with_reducible apply s_ex | with_reducible apply s_for | with_reducible apply s_whl | ((with_reducible apply s_augA); (· rfl))
      | with_reducible apply s_asg)
    | ((with_reducible apply gd_asg); (simp only [asgT, setAll, wipeT, List.set_cons_zero, List.set_cons_succ]; rfl))
    | ((with_reducible apply gd_k); first | with_reducible exact k_rt | with_reducible apply k_nx)
    | with_reducible apply fn_out | with_reducible apply o_rt | with_reducible apply o_nx | with_reducible exact leave_eq | with_reducible apply leave0' | with_reducible apply leave_new0 | ((with_reducible apply leave_cell0); rfl)
    | ((with_reducible apply gd_if); first | ((with_reducible apply ite_t); (· first | assumption | with_reducible rfl | (simp [*]; done))) | ((with_reducible apply ite_f); (· first | assumption | with_reducible rfl | (simp [*]; done))))
    | ((with_reducible apply gd_cmp); first | with_reducible apply c_eq | with_reducible apply c_ne | with_reducible apply c_in | with_reducible apply c_ni | with_reducible exact c_lt | with_reducible exact c_le | with_reducible exact c_gt | with_reducible exact c_ge)
    | ((with_reducible apply gd_eq); first | with_reducible exact eq_tS _ _ _ | with_reducible exact eq_str _ _ _ | with_reducible exact eq_int _ _ _ | with_reducible exact eq_bl _ _ _ | with_reducible exact eq_lTS _ _ _ | with_reducible exact eq_tTS _ _ _ | with_reducible exact eq_lS _ _ _)
    | ((with_reducible apply gd_in); first | with_reducible exact in_tS | with_reducible exact in_lS | with_reducible exact in_lTS | with_reducible exact in_tTS | ((with_reducible apply in_cS); rfl))
    | with_reducible exact tr_bl
    | ((with_reducible apply gd_bi); first
      | with_reducible exact b_tupT | with_reducible exact b_tupL | with_reducible exact b_allM | with_reducible exact b_allF2 | with_reducible exact b_anyM | with_reducible exact b_lenT | with_reducible exact b_lenL | ((with_reducible apply b_lenC); rfl) | ((with_reducible apply b_tupC); rfl) | with_reducible exact b_strS | with_reducible apply b_strN | with_reducible exact b_int | with_reducible exact b_intB | with_reducible exact b_abs | with_reducible apply b_list | with_reducible apply b_dict
      | ((with_reducible apply b_sset); (· first | contradiction | (simp only [seqOf, List.append_nil, ← List.map_append]; rfl) | (simp only [seqOf, List.append_nil, ← List.map_append, ← List.map_flatMap]; rfl)); (· first | omega | (simp only [List.length_append, List.length_map]; omega)))
      | ((with_reducible apply b_sort); (· rfl); (· first | omega | (simp only [List.length_append, List.length_map]; omega))))
    | ((with_reducible apply gd_src); first | with_reducible exact sr_T | with_reducible exact sr_L | ((with_reducible apply sr_C); rfl) | with_reducible exact sr_D)
    | ((with_reducible apply gd_seq); first | with_reducible exact sq_T | with_reducible exact sq_L | ((with_reducible apply sq_C); rfl))
    | ((with_reducible apply gd_lc); first
      | ((with_reducible apply lcC_map (turn := turnL _ _ _ C.nil _ _) (τ := tS)); (· rfl); intro _ _) | ((with_reducible apply lcC_filter (τ := tS)); (· rfl); intro _ _)
      | ((with_reducible apply lc_map (turn := turnL _ _ _ C.nil _ _) (τ := T.str)); intro _ _) | ((with_reducible apply lc_filter (τ := T.str)); intro _ _) | ((with_reducible apply lc_map (turn := turnL _ _ _ C.nil _ _) (τ := tS)); intro _ _) | ((with_reducible apply lc_filter (τ := tS)); intro _ _))
    | ((with_reducible apply gd_turn); first
      | ((with_reducible apply turn_all); (· (simp only [asgT, setAll, wipeT, List.set_cons_zero, List.set_cons_succ]; rfl))) | ((with_reducible apply turn_if); (· (simp only [asgT, setAll, wipeT, List.set_cons_zero, List.set_cons_succ]; rfl))))
    | ((with_reducible apply gd_attr); first
      | with_reducible exact attr_fld pn_0_own_names kf_own_names fl_0_own_names
      | with_reducible exact attr_fld pn_0_own_told kf_own_told fl_0_own_told
      | with_reducible exact attr_fld pn_0_own_keysets kf_own_keysets fl_0_own_keysets
      | with_reducible apply attr_prop p_0_names
      | with_reducible apply attr_prop p_0_pairs
      | with_reducible apply attr_prop p_0_text
      | with_reducible apply attr_prop p_0_keysets
      )
    | with_reducible exact ix_dic (getD_map (by first | assumption | solve_by_elim))
    | ((with_reducible apply gd_call); first | with_reducible apply call_nil | with_reducible apply call_pure)
    | ((with_reducible apply gd_pure); first | with_reducible exact pure_tS _ | with_reducible exact pure_lS _ | with_reducible exact pure_lTS _ | with_reducible exact pure_tTS _ | with_reducible exact pure_tapp | with_reducible rfl)
    | with_reducible apply pr_val
    | ((with_reducible apply gd_dc); first | ((with_reducible apply dc_run (τ := T.str)); intro _ _) | ((with_reducible apply dc_run (τ := tS)); intro _ _))
    | ((with_reducible apply gd_turnD); ((with_reducible apply turnD_ok); (· (simp only [asgT, setAll, wipeT, List.set_cons_zero, List.set_cons_succ]; rfl))))
    | with_reducible exact ko_str | with_reducible exact recv_join | with_reducible apply meth_str
    | with_reducible apply mt_jn
    | ((with_reducible apply mt_join); (· (simp only [seqOf, List.append_nil, ← List.map_cons, ← List.map_append]; rfl)))
    | ((with_reducible apply ix_cdic); (· rfl); (· first | with_reducible exact getD_map (by first | assumption | solve_by_elim) | assumption))
    | ((with_reducible apply gd_bin); first | with_reducible apply bi_addL | with_reducible apply bi_addT | with_reducible exact bi_add | with_reducible exact bi_sub)
    | with_reducible apply ix_dic | ((with_reducible apply ix_cel); rfl) | with_reducible apply ix_lst | with_reducible apply ix_tup
    | with_reducible apply meth_cell
    | ((with_reducible apply recv_ext); rfl) | ((with_reducible apply recv_app); rfl) | ((with_reducible apply recv_pop); rfl)
    | ((with_reducible apply mt_ext); (· rfl); (· rfl)) | ((with_reducible apply mt_app); (· rfl))
    | ((with_reducible apply gd_lc2); ((with_reducible apply lc2_run (τ := T.str)); intro _ _ _ _))
    | ((with_reducible apply gd_lcA); first | ((with_reducible apply lcA_map (turn := turnL _ _ _ C.nil _ _) (τ := T.str)); intro _ _) | ((rw [List.append_nil, ← List.map_cons]); (with_reducible apply lcA_map (turn := turnL _ _ _ C.nil _ _) (τ := T.str)); intro _ _))
    | ((with_reducible apply gd_turn2); ((with_reducible apply turn2_ok); (· (simp only [asgT, setAll, wipeT, List.set_cons_zero, List.set_cons_succ]; rfl))))
    | ((with_reducible apply gd_all); (simp only [List.all_cons, List.all_nil, Bool.and_true, Bool.and_eq_true]; (repeat' constructor) <;> contradiction))
    | (intro (_ : _ = true))
    | (intro (_ : Str) (_ : _ ∈ _))
    | (refine (?_ : (_ : Nat) < _); omega)
    | (refine (?_ : (_ : Nat) ≤ _); first | omega | (simp only [List.length_map, List.length_append, List.length_cons, List.length_nil]; omega) | ((try simp only [List.length_map, List.length_append, List.length_cons, List.length_nil]); grind [Ks.tl, Ks.nl, Ks.kl, Ks.kk]))
    | assumption
    | solve_by_elim)
theorem within_ok (k : Nat) (a b : List Str) (st : Stor) (ha : a.length ≤ 1000) : Sv.run tb.G fnsC (k + 1) 15 [tS a, tS b] st = .ok (.val (.bl (wi a b))) st := by
  rw [u15]
  by_cases hb : b = [("#" : Str)]
  · apply ev_end
    · repeat contradiction
    · simp [wi, hb]
    · rfl
  · apply ev_end
    · repeat contradiction
    · simp [wi, hb]
    · rfl
theorem joint_ok (k : Nat) (a b : List Str) (st : Stor) (ha : a.length + b.length < 60) : Sv.run tb.G fnsC (k + 1) 16 [tS a, tS b] st = .ok (.val (tS (jo a b))) st := by
  rw [u16]
  by_cases h : a = [("#" : Str)] ∨ b = [("#" : Str)]
  · apply ev_end
    · repeat contradiction
    · simp [jo, h]
    · rfl
  · obtain ⟨h1, h2⟩ := not_or.mp h
    apply ev_end
    · repeat contradiction
    · simp [jo, h]
    · rfl
theorem common_ok (k : Nat) (a b : List Str) (st : Stor) (ha : a.length + b.length < 60) : Sv.run tb.G fnsC (k + 1) 17 [tS a, tS b] st = .ok (.val (tS (co a b))) st := by
  rw [u17]
  by_cases h1 : a = [("#" : Str)]
  · apply ev_end
    · repeat contradiction
    · simp [co, h1]
    · rfl
  · by_cases h2 : b = [("#" : Str)]
    · apply ev_end
      · repeat contradiction
      · simp [co, h1, h2]
      · rfl
    · apply ev_end
      · repeat contradiction
      · simp [co, h1, h2]
      · rfl
theorem kn_told {a b c : T} : getF [("own_names", a), ("own_told", b), ("own_keysets", c)] "told" = none := by kernel_rfl
theorem kn_tells {a b c : T} : getF [("own_names", a), ("own_told", b), ("own_keysets", c)] "tells" = none := by kernel_rfl
theorem kn_closed {a b c : T} : getF [("own_names", a), ("own_told", b), ("own_keysets", c)] "closed" = none := by kernel_rfl
theorem names_ok (k : Nat) (K : Ks) (st : Stor) : Sv.run tb.G fnsC (k + 1) 5 [keT K] st = .ok (.val (tS K.names)) st := by
  rw [u5]
  apply ev_end
  · repeat contradiction
  · rfl
  · rfl
theorem keysets_ok (k : Nat) (K : Ks) (st : Stor) : Sv.run tb.G fnsC (k + 1) 8 [keT K] st = .ok (.val (.tup (K.ks.map tS))) st := by
  rw [u8]
  apply ev_end
  · repeat contradiction
  · rfl
  · rfl
theorem told_ok (k : Nat) (K : Ks) (n : Str) (hn : n ∈ K.names) (st : Stor) : Sv.run tb.G fnsC (k + 1) 9 [keT K, .str n] st = .ok (.val (tS (K.tld n))) st := by
  rw [u9]
  apply ev_end
  · repeat contradiction
  · rfl
  · rfl
local macro_rules
  | `(tactic| contradiction) => `(tactic| first
    | ((with_reducible apply gd_run); first | with_reducible apply told_ok | with_reducible apply names_ok | with_reducible apply keysets_ok | with_reducible apply within_ok)
    | ((with_reducible apply gd_recv); first | with_reducible exact recv_ins kn_told m_0_told | with_reducible exact recv_ins kn_tells m_0_tells | with_reducible exact recv_ins kn_closed m_0_closed)
    | ((with_reducible apply gd_meth); first | with_reducible apply meth_ins kn_told m_0_told | with_reducible apply meth_ins kn_tells m_0_tells | with_reducible apply meth_ins kn_closed m_0_closed)
    | with_reducible exact pure_keT _)
theorem tells_ok (k : Nat) (K : Ks) (n m : Str) (hn : n ∈ K.names) (hm : m ∈ K.names) (st : Stor) : Sv.run tb.G fnsC (k + 2) 10 [keT K, .str n, .str m] st = .ok (.val (.bl (decide (m ∈ K.tld n)))) st := by
  rw [u10]
  apply ev_end
  · repeat contradiction
  · rfl
  · rfl
theorem below_ok (k : Nat) (K : Ks) (l : List Str) (st : Stor) : Sv.run tb.G fnsC (k + 2) 18 [keT K, tS l] st = .ok (.new (.lst ((bl K l).map tS))) st := by
  rw [u18]
  apply ev_end
  · repeat contradiction
  · rfl
  · rfl
local macro_rules
  | `(tactic| contradiction) => `(tactic| ((with_reducible apply gd_run); first | with_reducible apply tells_ok | with_reducible apply below_ok | with_reducible apply joint_ok | with_reducible apply common_ok))
theorem tops_ok (k : Nat) (K : Ks) (l : List Str) (st : Stor) (hl : ∀ n ∈ l, l ≠ rcd → n ∈ K.names) (hk : l.length ≤ 1000) : Sv.run tb.G fnsC (k + 3) 19 [keT K, tS l] st = .ok (.val (tS (tp K l))) st := by
  rw [u19]
  by_cases h : l = [("#" : Str)]
  · apply ev_end
    · repeat contradiction
    · simp [tp, h]
    · rfl
  · have hl' : ∀ n ∈ l, n ∈ K.names := fun n hn => hl n hn h
    apply ev_end
    · repeat contradiction
    · simp [tp, h]
    · rfl
theorem closed_okT (k : Nat) (K : Ks) (l : List Str) (st : Stor) (hl : ∀ n ∈ l, n = "#" ∨ n ∈ K.names) (hk : l.length ≤ 1000) (hf : (l.flatMap fun n => n :: K.tld n).length < 64) : Sv.run tb.G fnsC (k + 1) 11 [keT K, tS l] st = .ok (.val (tS (cd K l))) st := by
  rw [u11]
  by_cases h : ("#" : Str) ∈ l
  · apply ev_end
    · repeat contradiction
      refine for_pass (τ := T.str) (fun o => [some (keT K), some (tS l), o, none, none]) none rfl fun n hn o => ?_
      · refine body_ok (by simp only [asgT, List.set_cons_zero, List.set_cons_succ]; rfl) ?_
        rcases hl n hn with hh | hh
        all_goals repeat contradiction
      repeat contradiction
    · simp [cd, h]
    · rfl
  · have hl' : ∀ n ∈ l, n ∈ K.names := fun n hn => (hl n hn).resolve_left fun z => h (z ▸ hn)
    apply ev_end
    · repeat contradiction
      refine for_pass (τ := T.str) (fun o => [some (keT K), some (tS l), o, none, none]) none rfl fun n hn o => ?_
      · refine body_ok (by simp only [asgT, List.set_cons_zero, List.set_cons_succ]; rfl) ?_
        rcases hl n hn with hh | hh
        all_goals repeat contradiction
      repeat contradiction
    · simp [cd, h]
    · rfl
theorem closed_okL (k : Nat) (K : Ks) (l : List Str) (st : Stor) (hl : ∀ n ∈ l, n = "#" ∨ n ∈ K.names) (hk : l.length ≤ 1000) (hf : (l.flatMap fun n => n :: K.tld n).length < 64) : Sv.run tb.G fnsC (k + 1) 11 [keT K, lS l] st = .ok (.val (tS (cd K l))) st := by
  rw [u11]
  by_cases h : ("#" : Str) ∈ l
  · apply ev_end
    · repeat contradiction
      refine for_pass (τ := T.str) (fun o => [some (keT K), some (lS l), o, none, none]) none rfl fun n hn o => ?_
      · refine body_ok (by simp only [asgT, List.set_cons_zero, List.set_cons_succ]; rfl) ?_
        rcases hl n hn with hh | hh
        all_goals repeat contradiction
      repeat contradiction
    · simp [cd, h]
    · rfl
  · have hl' : ∀ n ∈ l, n ∈ K.names := fun n hn => (hl n hn).resolve_left fun z => h (z ▸ hn)
    apply ev_end
    · repeat contradiction
      refine for_pass (τ := T.str) (fun o => [some (keT K), some (lS l), o, none, none]) none rfl fun n hn o => ?_
      · refine body_ok (by simp only [asgT, List.set_cons_zero, List.set_cons_succ]; rfl) ?_
        rcases hl n hn with hh | hh
        all_goals repeat contradiction
      repeat contradiction
    · simp [cd, h]
    · rfl
end K03
end
section
set_option linter.all false
set_option maxRecDepth 100000
set_option maxHeartbeats 4000000
namespace K03
open PySem L2 Sv

local macro_rules
  | `(tactic| contradiction) => `(tactic| first
    | ((with_reducible apply gd_fz); first | with_reducible exact fz_val _ | with_reducible exact fz_newL _ | with_reducible exact fz_newD _ | with_reducible exact fz_newI _ _)
    | ((with_reducible apply gd_E); first
      | ((with_reducible apply e_var); rfl) | with_reducible exact e_lit | with_reducible apply e_cmp | with_reducible apply e_call | with_reducible apply e_bi | with_reducible apply e_lc | with_reducible apply e_idx | with_reducible apply e_attr | with_reducible apply e_mt
      | with_reducible apply e_tup | with_reducible apply e_lst | with_reducible apply e_bin | with_reducible apply e_ite | with_reducible apply e_nt | with_reducible apply e_andB | with_reducible apply e_orB | with_reducible apply e_neg | with_reducible apply e_slc | with_reducible apply e_isi | with_reducible apply e_make | with_reducible apply e_lc2 | with_reducible apply e_dc | ((with_reducible apply e_celN); (· repeat contradiction); (· (simp only [List.length_cons, List.length_nil, Nat.zero_add, Nat.reduceAdd]; rfl)); (· (simp only [List.nil_append, List.cons_append]; rfl)))
      | ((with_reducible apply e_callK); (· repeat contradiction); (· first | with_reducible exact kwf0 | with_reducible exact kwf1 | with_reducible exact kwf2 | with_reducible exact kwf3 | with_reducible exact kwf4); (· rfl); (· rfl))
      | with_reducible exact e_glo g_LETTERS
      | with_reducible exact e_glo g_MOST_LETTERS
      | with_reducible exact e_glo g_NUMBER
      | with_reducible exact e_glo g_RECORD
      | with_reducible exact e_glo g_TELLS
      | with_reducible exact e_glo g_FEED
      | with_reducible exact e_glo g_BLANK
      )
    | ((with_reducible apply gd_A); first | with_reducible exact a_nil | with_reducible apply a_cons | with_reducible apply a_star)
    | ((with_reducible apply gd_T); first | with_reducible apply t_tru | with_reducible exact t_nil | with_reducible apply t_nt | with_reducible apply t_or | with_reducible apply t_and)
    | ((with_reducible apply gd_I); first | with_reducible apply i_itr | with_reducible apply i_rngN | with_reducible apply i_enum | with_reducible apply i_zipL | with_reducible apply i_zipT)
    | ((with_reducible apply gd_S); first
      | with_reducible apply s_seq | with_reducible exact s_nil | with_reducible apply s_ret | with_reducible apply s_ife | with_reducible apply s_ex | with_reducible apply s_for | with_reducible apply s_whl | ((with_reducible apply s_augA); (· rfl))
      | with_reducible apply s_asg)
    | ((with_reducible apply gd_asg); (simp only [asgT, setAll, wipeT, List.set_cons_zero, List.set_cons_succ]; rfl))
    | ((with_reducible apply gd_k); first | with_reducible exact k_rt | with_reducible apply k_nx)
    | with_reducible apply fn_out | with_reducible apply o_rt | with_reducible apply o_nx | with_reducible exact leave_eq | with_reducible apply leave0' | with_reducible apply leave_new0 | ((with_reducible apply leave_cell0); rfl)
    | ((with_reducible apply gd_if); first | ((with_reducible apply ite_t); (· first | assumption | with_reducible rfl | (simp [*]; done))) | ((with_reducible apply ite_f); (· first | assumption | with_reducible rfl | (simp [*]; done))))
    | ((with_reducible apply gd_cmp); first | with_reducible apply c_eq | with_reducible apply c_ne | with_reducible apply c_in | with_reducible apply c_ni | with_reducible exact c_lt | with_reducible exact c_le | with_reducible exact c_gt | with_reducible exact c_ge)
    | ((with_reducible apply gd_eq); first | with_reducible exact eq_tS _ _ _ | with_reducible exact eq_str _ _ _ | with_reducible exact eq_int _ _ _ | with_reducible exact eq_bl _ _ _ | with_reducible exact eq_lTS _ _ _ | with_reducible exact eq_tTS _ _ _ | with_reducible exact eq_lS _ _ _)
    | ((with_reducible apply gd_in); first | with_reducible exact in_tS | with_reducible exact in_lS | with_reducible exact in_lTS | with_reducible exact in_tTS | ((with_reducible apply in_cS); rfl))
    | with_reducible exact tr_bl
    | ((with_reducible apply gd_bi); first
      | with_reducible exact b_tupT | with_reducible exact b_tupL | with_reducible exact b_allM | with_reducible exact b_allF2 | with_reducible exact b_anyM | with_reducible exact b_lenT | with_reducible exact b_lenL | ((with_reducible apply b_lenC); rfl) | ((with_reducible apply b_tupC); rfl) | with_reducible exact b_strS | with_reducible apply b_strN | with_reducible exact b_int | with_reducible exact b_intB | with_reducible exact b_abs | with_reducible apply b_list | with_reducible apply b_dict
      | ((with_reducible apply b_sset); (· first | contradiction | (simp only [seqOf, List.append_nil, ← List.map_append]; rfl) | (simp only [seqOf, List.append_nil, ← List.map_append, ← List.map_flatMap]; rfl)); (· first | omega | (simp only [List.length_append, List.length_map]; omega)))
      | ((with_reducible apply b_sort); (· rfl); (· first | omega | (simp only [List.length_append, List.length_map]; omega))))
    | ((with_reducible apply gd_src); first | with_reducible exact sr_T | with_reducible exact sr_L | ((with_reducible apply sr_C); rfl) | with_reducible exact sr_D)
    | ((with_reducible apply gd_seq); first | with_reducible exact sq_T | with_reducible exact sq_L | ((with_reducible apply sq_C); rfl))
    | ((with_reducible apply gd_lc); first
      | ((with_reducible apply lcC_map (turn := turnL _ _ _ C.nil _ _) (τ := tS)); (· rfl); intro _ _) | ((with_reducible apply lcC_filter (τ := tS)); (· rfl); intro _ _)
      | ((with_reducible apply lc_map (turn := turnL _ _ _ C.nil _ _) (τ := T.str)); intro _ _) | ((with_reducible apply lc_filter (τ := T.str)); intro _ _) | ((with_reducible apply lc_map (turn := turnL _ _ _ C.nil _ _) (τ := tS)); intro _ _) | ((with_reducible apply lc_filter (τ := tS)); intro _ _))
    | ((with_reducible apply gd_turn); first
      | ((with_reducible apply turn_all); (· (simp only [asgT, setAll, wipeT, List.set_cons_zero, List.set_cons_succ]; rfl))) | ((with_reducible apply turn_if); (· (simp only [asgT, setAll, wipeT, List.set_cons_zero, List.set_cons_succ]; rfl))))
    | ((with_reducible apply gd_attr); first
      | with_reducible exact attr_fld pn_0_own_names kf_own_names fl_0_own_names
      | with_reducible exact attr_fld pn_0_own_told kf_own_told fl_0_own_told
      | with_reducible exact attr_fld pn_0_own_keysets kf_own_keysets fl_0_own_keysets
      | with_reducible apply attr_prop p_0_names
      | with_reducible apply attr_prop p_0_pairs
      | with_reducible apply attr_prop p_0_text
      | with_reducible apply attr_prop p_0_keysets
      )
    | with_reducible exact ix_dic (getD_map (by first | assumption | solve_by_elim))
    | ((with_reducible apply gd_call); first | with_reducible apply call_nil | with_reducible apply call_pure)
    | ((with_reducible apply gd_pure); first | with_reducible exact pure_tS _ | with_reducible exact pure_lS _ | with_reducible exact pure_lTS _ | with_reducible exact pure_tTS _ | with_reducible exact pure_tapp | with_reducible rfl)
    | with_reducible apply pr_val
    | ((with_reducible apply gd_dc); first | ((with_reducible apply dc_run (τ := T.str)); intro _ _) | ((with_reducible apply dc_run (τ := tS)); intro _ _))
    | ((with_reducible apply gd_turnD); ((with_reducible apply turnD_ok); (· (simp only [asgT, setAll, wipeT, List.set_cons_zero, List.set_cons_succ]; rfl))))
    | with_reducible exact ko_str | with_reducible exact recv_join | with_reducible apply meth_str
    | with_reducible apply mt_jn
    | ((with_reducible apply mt_join); (· (simp only [seqOf, List.append_nil, ← List.map_cons, ← List.map_append]; rfl)))
    | ((with_reducible apply ix_cdic); (· rfl); (· first | with_reducible exact getD_map (by first | assumption | solve_by_elim) | assumption))
    | ((with_reducible apply gd_bin); first | with_reducible apply bi_addL | with_reducible apply bi_addT | with_reducible exact bi_add | with_reducible exact bi_sub)
    | with_reducible apply ix_dic | ((with_reducible apply ix_cel); rfl) | with_reducible apply ix_lst | with_reducible apply ix_tup
    | with_reducible apply meth_cell
    | ((with_reducible apply recv_ext); rfl) | ((with_reducible apply recv_app); rfl) | ((with_reducible apply recv_pop); rfl)
    | ((with_reducible apply mt_ext); (· rfl); (· rfl)) | ((with_reducible apply mt_app); (· rfl))
    | ((with_reducible apply gd_lc2); ((with_reducible apply lc2_run (τ := T.str)); intro _ _ _ _))
    | ((with_reducible apply gd_lcA); first | ((with_reducible apply lcA_map (turn := turnL _ _ _ C.nil _ _) (τ := T.str)); intro _ _) | ((rw [List.append_nil, ← List.map_cons]); (with_reducible apply lcA_map (turn := turnL _ _ _ C.nil _ _) (τ := T.str)); intro _ _))
    | ((with_reducible apply gd_turn2); ((with_reducible apply turn2_ok); (· (simp only [asgT, setAll, wipeT, List.set_cons_zero, List.set_cons_succ]; rfl))))
    | ((with_reducible apply gd_all); (simp only [List.all_cons, List.all_nil, Bool.and_true, Bool.and_eq_true]; (repeat' constructor) <;> contradiction))
    | (intro (_ : _ = true))
    | (intro (_ : Str) (_ : _ ∈ _))
    | (refine (?_ : (_ : Nat) < _); omega)
    | (refine (?_ : (_ : Nat) ≤ _); first | omega | (simp only [List.length_map, List.length_append, List.length_cons, List.length_nil]; omega) | ((try simp only [List.length_map, List.length_append, List.length_cons, List.length_nil]); grind [Ks.tl, Ks.nl, Ks.kl, Ks.kk]))
    | assumption
    | solve_by_elim)
local macro_rules
  | `(tactic| contradiction) => `(tactic| first
    | ((with_reducible apply gd_run); first | with_reducible apply told_ok | with_reducible apply names_ok | with_reducible apply keysets_ok | with_reducible apply within_ok | with_reducible apply tells_ok | with_reducible apply below_ok | with_reducible apply joint_ok | with_reducible apply common_ok | with_reducible apply tops_ok | with_reducible apply closed_okT | with_reducible apply closed_okL)
    | ((with_reducible apply gd_recv); first | with_reducible exact recv_ins kn_told m_0_told | with_reducible exact recv_ins kn_tells m_0_tells | with_reducible exact recv_ins kn_closed m_0_closed)
    | ((with_reducible apply gd_meth); first | with_reducible apply meth_ins kn_told m_0_told | with_reducible apply meth_ins kn_tells m_0_tells | with_reducible apply meth_ins kn_closed m_0_closed)
    | with_reducible exact pure_keT _)
theorem reached_ok (k : Nat) (names : List Str) (D : Str → List Str) (n : Str) (hn : n ∈ names) (hD : ∀ x, ∀ z ∈ D x, z ∈ names) (hnd : ∀ x, (D x).Nodup) (hlen : names.length ≤ 16) :
    ∃ f : List Str, (∀ x, x ∈ f ↔ Reach D n x) ∧ Sv.run tb.G fnsC (k + 1) 2 [dirT names D, .str n] [] = .ok (.val (tS (sortS (dedupS f)))) [] := by
  rw [u2]
  have hw := while_run (σ := List Str × Nat)
    (test := fun sl st => evT ⟨tb.G, Sv.run tb.G fnsC k⟩ (.tru (.cmp .Lt (.var 3) (.bi .len (.cons (.var 2) .nil)))) sl st)
    (body := fun sl st => evS ⟨tb.G, Sv.run tb.G fnsC k⟩ (.seq (.ex (.mt "extend" (some .extend) (.var 2) (.cons (.lc (.var 4) (.nm 4) (.itr (.idx (.var 0) (.idx (.var 2) (.var 3)))) (.tru (.cmp .NotIn (.var 4) (.var 2))) [4]) .nil))) (.seq (.aug 3 .Add (.lit (.int (1)))) .nil)) sl st)
    (fun s => [some (dirT names D), some (.str n), some (.cell 0), some (.int (s.2 : Int)), none]) (fun s => [.lst (s.1.map .str)]) (fun s => decide ((s.2 : Int) < (s.1.length : Int))) (fun s => (bfsF D s.1 ((s.1[s.2]?).getD ""), s.2 + 1))
    (fun s => BfsI D names n s.1 s.2) (fun s => names.length - s.2)
    (fun s hs => ?_) (fun s hs hc => ?_) 100000 (D n, 0) ⟨fun x hx => hx, fun x hx => .one hx, fun j hj => absurd hj (by omega), hnd n, hD n, Nat.zero_le _⟩ (by show names.length - 0 < 100000; omega)
  · obtain ⟨s, hs, hc, hw⟩ := hw
    have hl : s.2 = s.1.length := by
      have h1 := hs.le
      have h2 : ¬ ((s.2 : Int) < (s.1.length : Int)) := of_decide_eq_false hc
      omega
    have hs' : BfsI D names n s.1 s.1.length := hl ▸ hs
    refine ⟨s.1, hs'.done, ?_⟩
    have hsl : s.1.length < 64 := by have := hs.len; omega
    apply ev_end
    · repeat contradiction
    · rfl
    · rfl
  · apply ev_end
    · repeat contradiction
    · simp
    · rfl
  · have hi : s.2 < s.1.length := by have := of_decide_eq_true hc; omega
    have hy : s.1[s.2]? = some s.1[s.2] := List.getElem?_eq_getElem hi
    have hyn : s.1[s.2] ∈ names := hs.sub _ (List.getElem_mem hi)
    have hat : atI (s.1.map T.str) (s.2 : Int) = some (.str s.1[s.2]) := atI_nat (by rw [List.getElem?_map, hy]; rfl)
    have hg : getD (names.map fun n => ((Sum.inr n : Key), lS (D n))) (Sum.inr s.1[s.2]) = some (lS (D s.1[s.2])) := getD_map (f := fun n => lS (D n)) hyn
    have hl1 := hs.len
    have hl2 : (D s.1[s.2]).length ≤ names.length := (hnd _).length_le_of_subset (hD _)
    refine ⟨?_, ?_, ?_⟩
    · apply ev_end
      · repeat contradiction
      · simp
      · simp [bfsF, hy]
    · show BfsI D names n (bfsF D s.1 ((s.1[s.2]?).getD "")) (s.2 + 1)
      rw [hy]
      exact hs.next hy hD hnd
    · show names.length - (s.2 + 1) < names.length - s.2
      omega
end K03
end
section
set_option linter.all false
set_option maxRecDepth 100000
set_option maxHeartbeats 4000000
namespace K03
open PySem L2 Sv

local macro_rules
  | `(tactic| contradiction) => `(tactic| first
    | ((with_reducible apply gd_fz); first | with_reducible exact fz_val _ | with_reducible exact fz_newL _ | with_reducible exact fz_newD _ | with_reducible exact fz_newI _ _)
    | ((with_reducible apply gd_E); first
      | ((with_reducible apply e_var); rfl) | with_reducible exact e_lit | with_reducible apply e_cmp | with_reducible apply e_call | with_reducible apply e_bi | with_reducible apply e_lc | with_reducible apply e_idx | with_reducible apply e_attr | with_reducible apply e_mt
      | with_reducible apply e_tup | with_reducible apply e_lst | with_reducible apply e_bin | with_reducible apply e_ite | with_reducible apply e_nt | with_reducible apply e_andB | with_reducible apply e_orB | with_reducible apply e_neg | with_reducible apply e_slc | with_reducible apply e_isi | with_reducible apply e_make | with_reducible apply e_lc2 | with_reducible apply e_dc | ((with_reducible apply e_celN); (· repeat contradiction); (· (simp only [List.length_cons, List.length_nil, Nat.zero_add, Nat.reduceAdd]; rfl)); (· (simp only [List.nil_append, List.cons_append]; rfl)))
      | ((with_reducible apply e_callK); (· repeat contradiction); (· first | with_reducible exact kwf0 | with_reducible exact kwf1 | with_reducible exact kwf2 | with_reducible exact kwf3 | with_reducible exact kwf4); (· rfl); (· rfl))
      | with_reducible exact e_glo g_LETTERS
      | with_reducible exact e_glo g_MOST_LETTERS
      | with_reducible exact e_glo g_NUMBER
      | with_reducible exact e_glo g_RECORD
      | with_reducible exact e_glo g_TELLS
      | with_reducible exact e_glo g_FEED
      | with_reducible exact e_glo g_BLANK
      )
    | ((with_reducible apply gd_A); first | with_reducible exact a_nil | with_reducible apply a_cons | with_reducible apply a_star)
    | ((with_reducible apply gd_T); first | with_reducible apply t_tru | with_reducible exact t_nil | with_reducible apply t_nt | with_reducible apply t_or | with_reducible apply t_and)
    | ((with_reducible apply gd_I); first | with_reducible apply i_itr | with_reducible apply i_rngN | with_reducible apply i_enum | with_reducible apply i_zipL | with_reducible apply i_zipT)
    | ((with_reducible apply gd_S); first
      | with_reducible apply s_seq | with_reducible exact s_nil | with_reducible apply s_ret | with_reducible apply s_ife | with_reducible apply s_ex | with_reducible apply s_for | with_reducible apply s_whl | ((with_reducible apply s_augA); (· rfl))
      | with_reducible apply s_asg)
    | ((with_reducible apply gd_asg); (simp only [asgT, setAll, wipeT, List.set_cons_zero, List.set_cons_succ]; rfl))
    | ((with_reducible apply gd_k); first | with_reducible exact k_rt | with_reducible apply k_nx)
    | with_reducible apply fn_out | with_reducible apply o_rt | with_reducible apply o_nx | with_reducible exact leave_eq | with_reducible apply leave0' | with_reducible apply leave_new0 | ((with_reducible apply leave_cell0); rfl)
    | ((with_reducible apply gd_if); first | ((with_reducible apply ite_t); (· first | assumption | with_reducible rfl | (simp [*]; done))) | ((with_reducible apply ite_f); (· first | assumption | with_reducible rfl | (simp [*]; done))))
    | ((with_reducible apply gd_cmp); first | with_reducible apply c_eq | with_reducible apply c_ne | with_reducible apply c_in | with_reducible apply c_ni | with_reducible exact c_lt | with_reducible exact c_le | with_reducible exact c_gt | with_reducible exact c_ge)
    | ((with_reducible apply gd_eq); first | with_reducible exact eq_tS _ _ _ | with_reducible exact eq_str _ _ _ | with_reducible exact eq_int _ _ _ | with_reducible exact eq_bl _ _ _ | with_reducible exact eq_lTS _ _ _ | with_reducible exact eq_tTS _ _ _ | with_reducible exact eq_lS _ _ _)
    | ((with_reducible apply gd_in); first | with_reducible exact in_tS | with_reducible exact in_lS | with_reducible exact in_lTS | with_reducible exact in_tTS | ((with_reducible apply in_cS); rfl))
    | with_reducible exact tr_bl
    | ((with_reducible apply gd_bi); first
      | with_reducible exact b_tupT | with_reducible exact b_tupL | with_reducible exact b_allM | with_reducible exact b_allF2 | with_reducible exact b_anyM | with_reducible exact b_lenT | with_reducible exact b_lenL | ((with_reducible apply b_lenC); rfl) | ((with_reducible apply b_tupC); rfl) | with_reducible exact b_strS | with_reducible apply b_strN | with_reducible exact b_int | with_reducible exact b_intB | with_reducible exact b_abs | with_reducible apply b_list | with_reducible apply b_dict
      | ((with_reducible apply b_sset); (· first | contradiction | (simp only [seqOf, List.append_nil, ← List.map_append]; rfl) | (simp only [seqOf, List.append_nil, ← List.map_append, ← List.map_flatMap]; rfl)); (· first | omega | (simp only [List.length_append, List.length_map]; omega)))
      | ((with_reducible apply b_sort); (· rfl); (· first | omega | (simp only [List.length_append, List.length_map]; omega))))
    | ((with_reducible apply gd_src); first | with_reducible exact sr_T | with_reducible exact sr_L | ((with_reducible apply sr_C); rfl) | with_reducible exact sr_D)
    | ((with_reducible apply gd_seq); first | with_reducible exact sq_T | with_reducible exact sq_L | ((with_reducible apply sq_C); rfl))
    | ((with_reducible apply gd_lc); first
      | ((with_reducible apply lcC_map (turn := turnL _ _ _ C.nil _ _) (τ := tS)); (· rfl); intro _ _) | ((with_reducible apply lcC_filter (τ := tS)); (· rfl); intro _ _)
      | ((with_reducible apply lc_map (turn := turnL _ _ _ C.nil _ _) (τ := T.str)); intro _ _) | ((with_reducible apply lc_filter (τ := T.str)); intro _ _) | ((with_reducible apply lc_map (turn := turnL _ _ _ C.nil _ _) (τ := tS)); intro _ _) | ((with_reducible apply lc_filter (τ := tS)); intro _ _))
    | ((with_reducible apply gd_turn); first
      | ((with_reducible apply turn_all); (· (simp only [asgT, setAll, wipeT, List.set_cons_zero, List.set_cons_succ]; rfl))) | ((with_reducible apply turn_if); (· (simp only [asgT, setAll, wipeT, List.set_cons_zero, List.set_cons_succ]; rfl))))
    | ((with_reducible apply gd_attr); first
      | with_reducible exact attr_fld pn_0_own_names kf_own_names fl_0_own_names
      | with_reducible exact attr_fld pn_0_own_told kf_own_told fl_0_own_told
      | with_reducible exact attr_fld pn_0_own_keysets kf_own_keysets fl_0_own_keysets
      | with_reducible apply attr_prop p_0_names
      | with_reducible apply attr_prop p_0_pairs
      | with_reducible apply attr_prop p_0_text
      | with_reducible apply attr_prop p_0_keysets
      )
    | with_reducible exact ix_dic (getD_map (by first | assumption | solve_by_elim))
    | ((with_reducible apply gd_call); first | with_reducible apply call_nil | with_reducible apply call_pure)
    | ((with_reducible apply gd_pure); first | with_reducible exact pure_tS _ | with_reducible exact pure_lS _ | with_reducible exact pure_lTS _ | with_reducible exact pure_tTS _ | with_reducible exact pure_tapp | with_reducible rfl)
    | with_reducible apply pr_val
    | ((with_reducible apply gd_dc); first | ((with_reducible apply dc_run (τ := T.str)); intro _ _) | ((with_reducible apply dc_run (τ := tS)); intro _ _))
    | ((with_reducible apply gd_turnD); ((with_reducible apply turnD_ok); (· (simp only [asgT, setAll, wipeT, List.set_cons_zero, List.set_cons_succ]; rfl))))
    | with_reducible exact ko_str | with_reducible exact recv_join | with_reducible apply meth_str
    | with_reducible apply mt_jn
    | ((with_reducible apply mt_join); (· (simp only [seqOf, List.append_nil, ← List.map_cons, ← List.map_append]; rfl)))
    | ((with_reducible apply ix_cdic); (· rfl); (· first | with_reducible exact getD_map (by first | assumption | solve_by_elim) | assumption))
    | ((with_reducible apply gd_bin); first | with_reducible apply bi_addL | with_reducible apply bi_addT | with_reducible exact bi_add | with_reducible exact bi_sub)
    | with_reducible apply ix_dic | ((with_reducible apply ix_cel); rfl) | with_reducible apply ix_lst | with_reducible apply ix_tup
    | with_reducible apply meth_cell
    | ((with_reducible apply recv_ext); rfl) | ((with_reducible apply recv_app); rfl) | ((with_reducible apply recv_pop); rfl)
    | ((with_reducible apply mt_ext); (· rfl); (· rfl)) | ((with_reducible apply mt_app); (· rfl))
    | ((with_reducible apply gd_lc2); ((with_reducible apply lc2_run (τ := T.str)); intro _ _ _ _))
    | ((with_reducible apply gd_lcA); first | ((with_reducible apply lcA_map (turn := turnL _ _ _ C.nil _ _) (τ := T.str)); intro _ _) | ((rw [List.append_nil, ← List.map_cons]); (with_reducible apply lcA_map (turn := turnL _ _ _ C.nil _ _) (τ := T.str)); intro _ _))
    | ((with_reducible apply gd_turn2); ((with_reducible apply turn2_ok); (· (simp only [asgT, setAll, wipeT, List.set_cons_zero, List.set_cons_succ]; rfl))))
    | ((with_reducible apply gd_all); (simp only [List.all_cons, List.all_nil, Bool.and_true, Bool.and_eq_true]; (repeat' constructor) <;> contradiction))
    | (intro (_ : _ = true))
    | (intro (_ : Str) (_ : _ ∈ _))
    | (refine (?_ : (_ : Nat) < _); omega)
    | (refine (?_ : (_ : Nat) ≤ _); first | omega | (simp only [List.length_map, List.length_append, List.length_cons, List.length_nil]; omega) | ((try simp only [List.length_map, List.length_append, List.length_cons, List.length_nil]); grind [Ks.tl, Ks.nl, Ks.kl, Ks.kk]))
    | assumption
    | solve_by_elim)
local macro_rules
  | `(tactic| contradiction) => `(tactic| first
    | ((with_reducible apply gd_run); first | with_reducible apply told_ok | with_reducible apply names_ok | with_reducible apply keysets_ok | with_reducible apply within_ok | with_reducible apply tells_ok | with_reducible apply below_ok | with_reducible apply joint_ok | with_reducible apply common_ok | with_reducible apply tops_ok | with_reducible apply closed_okT | with_reducible apply closed_okL)
    | ((with_reducible apply gd_recv); first | with_reducible exact recv_ins kn_told m_0_told | with_reducible exact recv_ins kn_tells m_0_tells | with_reducible exact recv_ins kn_closed m_0_closed)
    | ((with_reducible apply gd_meth); first | with_reducible apply meth_ins kn_told m_0_told | with_reducible apply meth_ins kn_tells m_0_tells | with_reducible apply meth_ins kn_closed m_0_closed)
    | with_reducible exact pure_keT _)
local macro_rules
  | `(tactic| contradiction) => `(tactic| ((with_reducible apply gd_run); first | assumption | solve_by_elim))
theorem fold_fst (names : List Str) : ∀ (f : List (List Str)) (o : Option T), ∃ o', names.foldl (fun (s : List (List Str) × Option T) n => (s.1 ++ s.1.map (· ++ [n]), some (.str n))) (f, o) = (names.foldl (fun f n => f ++ f.map (· ++ [n])) f, o') := by
  induction names with
  | nil => exact fun f o => ⟨o, rfl⟩
  | cons n l ih => exact fun f o => ih _ _
theorem all_closed_ok (k : Nat) (names : List Str) (tld : Str → List Str) (hn : names.length ≤ 5) (ht : ∀ n, (tld n).length ≤ 16)
    (hjl : ∀ a ∈ subs names, ((decS (a.length : Int) :: a).map Str.length).sum + (" " : Str).length * (decS (a.length : Int) :: a).length ≤ 16777216)
    (g : Str → List Str) (hg : ∀ a ∈ (subs names).filter (clsd tld), g (jn a) = a) (hj : (((subs names).filter (clsd tld)).map fun a => (Sum.inr (jn a) : Key)).Nodup) :
    Sv.run tb.G fnsC (k + 1) 3 [tS names, .dic (names.map fun n => ((Sum.inr n : Key), tS (tld n)))] [] = .ok (.val (.tup (((sortS (((subs names).filter (clsd tld)).map jn)).map g ++ [rcd]).map tS))) [] := by
  rw [u3]
  obtain ⟨o, ho⟩ := fold_fst names [[]] none
  have hsub : ∀ a ∈ subs names, ∀ x ∈ a, x ∈ names := fun a ha x hx => ((mem_subs _ _).mp ha).subset hx
  have hsub2 : ∀ a ∈ subs names, a.length ≤ 5 := fun a ha => Nat.le_trans ((mem_subs _ _).mp ha).length_le hn
  have hsl := subs_lt hn
  have hin : ∀ a ∈ (subs names).filter (clsd tld), a ∈ subs names := fun a ha => (List.mem_filter.mp ha).1
  have hin2 : ∀ a ∈ (subs names).filter (clsd tld), a.length ≤ 5 := fun a ha => hsub2 a (hin a ha)
  have hcl : ((subs names).filter (clsd tld)).length < 64 := by
    have := List.length_filter_le (clsd tld) (subs names)
    omega
  have hsrt : (sortS (((subs names).filter (clsd tld)).map jn)).length < 64 := by rw [(sortS_perm _).length_eq, List.length_map]; exact hcl
  have hjl' : ∀ a ∈ (subs names).filter (clsd tld), ((decS (a.length : Int) :: a).map Str.length).sum + (" " : Str).length * (decS (a.length : Int) :: a).length ≤ 16777216 := fun a ha => hjl a (hin a ha)
  have hget : ∀ x ∈ sortS (((subs names).filter (clsd tld)).map jn), getD (((subs names).filter (clsd tld)).map fun a => ((Sum.inr (jn a) : Key), tS a)) (Sum.inr x) = some (tS (g x)) := fun x hx =>
    getD_fst (f := jn) (v := tS) hg ((sortS_perm _).mem_iff.mp hx)
  apply ev_end
  · repeat contradiction
    refine for_foldR (τ := T.str) (σ := List (List Str) × Option T) (fun s => [some (tS names), some (.dic (names.map fun n => ((Sum.inr n : Key), tS (tld n)))), some (.cell 0), s.2, none, none, none, none, none]) (fun s => [.lst (s.1.map tS)])
      (fun s n => (s.1 ++ s.1.map (· ++ [n]), some (.str n))) ([[]], none) (subs names, o) ho rfl rfl fun d a e q => ?_
    · obtain ⟨o1, ho1⟩ := fold_fst d [[]] none
      have hd5 : d.length ≤ 5 := by have := congrArg List.length q; simp at this; omega
      have hd := subs_lt hd5
      have hd2 : ∀ a ∈ subs d, a.length ≤ 5 := fun a ha => Nat.le_trans ((mem_subs _ _).mp ha).length_le hd5
      rw [ho1]
      show bodyF _ _ _ _ [_, _, _, o1, _, _, _, _, _] [.lst ((subs d).map tS)] = _
      refine body_ok (by simp only [asgT, List.set_cons_zero, List.set_cons_succ]; rfl) ?_
      apply ev_end
      · repeat contradiction
      · rfl
      · show [Cell.lst _] = [Cell.lst ((subs d ++ (subs d).map (· ++ [a])).map tS)]
        simp [List.map_append, List.map_map]
    repeat contradiction
  · simp [List.map_append, List.map_map]
  · rfl
end K03
end
section
set_option linter.all false
set_option maxRecDepth 100000
set_option maxHeartbeats 4000000
namespace K03
open PySem L2 Sv

local macro_rules
  | `(tactic| contradiction) => `(tactic| first
    | ((with_reducible apply gd_fz); first | with_reducible exact fz_val _ | with_reducible exact fz_newL _ | with_reducible exact fz_newD _ | with_reducible exact fz_newI _ _)
    | ((with_reducible apply gd_E); first
      | ((with_reducible apply e_var); rfl) | with_reducible exact e_lit | with_reducible apply e_cmp | with_reducible apply e_call | with_reducible apply e_bi | with_reducible apply e_lc | with_reducible apply e_idx | with_reducible apply e_attr | with_reducible apply e_mt
      | with_reducible apply e_tup | with_reducible apply e_lst | with_reducible apply e_bin | with_reducible apply e_ite | with_reducible apply e_nt | with_reducible apply e_andB | with_reducible apply e_orB | with_reducible apply e_neg | with_reducible apply e_slc | with_reducible apply e_isi | with_reducible apply e_make | with_reducible apply e_lc2 | with_reducible apply e_dc | ((with_reducible apply e_celN); (· repeat contradiction); (· (simp only [List.length_cons, List.length_nil, Nat.zero_add, Nat.reduceAdd]; rfl)); (· (simp only [List.nil_append, List.cons_append]; rfl)))
      | ((with_reducible apply e_callK); (· repeat contradiction); (· first | with_reducible exact kwf0 | with_reducible exact kwf1 | with_reducible exact kwf2 | with_reducible exact kwf3 | with_reducible exact kwf4); (· rfl); (· rfl))
      | with_reducible exact e_glo g_LETTERS
      | with_reducible exact e_glo g_MOST_LETTERS
      | with_reducible exact e_glo g_NUMBER
      | with_reducible exact e_glo g_RECORD
      | with_reducible exact e_glo g_TELLS
      | with_reducible exact e_glo g_FEED
      | with_reducible exact e_glo g_BLANK
      )
    | ((with_reducible apply gd_A); first | with_reducible exact a_nil | with_reducible apply a_cons | with_reducible apply a_star)
    | ((with_reducible apply gd_T); first | with_reducible apply t_tru | with_reducible exact t_nil | with_reducible apply t_nt | with_reducible apply t_or | with_reducible apply t_and)
    | ((with_reducible apply gd_I); first | with_reducible apply i_itr | with_reducible apply i_rngN | with_reducible apply i_enum | with_reducible apply i_zipL | with_reducible apply i_zipT)
    | ((with_reducible apply gd_S); first
      | with_reducible apply s_seq | with_reducible exact s_nil | with_reducible apply s_ret | with_reducible apply s_ife | with_reducible apply s_ex | with_reducible apply s_for | with_reducible apply s_whl | ((with_reducible apply s_augA); (· rfl))
      | with_reducible apply s_asg)
    | ((with_reducible apply gd_asg); (simp only [asgT, setAll, wipeT, List.set_cons_zero, List.set_cons_succ]; rfl))
    | ((with_reducible apply gd_k); first | with_reducible exact k_rt | with_reducible apply k_nx)
    | with_reducible apply fn_out | with_reducible apply o_rt | with_reducible apply o_nx | with_reducible exact leave_eq | with_reducible apply leave0' | with_reducible apply leave_new0 | ((with_reducible apply leave_cell0); rfl)
    | ((with_reducible apply gd_if); first | ((with_reducible apply ite_t); (· first | assumption | with_reducible rfl | (simp [*]; done))) | ((with_reducible apply ite_f); (· first | assumption | with_reducible rfl | (simp [*]; done))))
    | ((with_reducible apply gd_cmp); first | with_reducible apply c_eq | with_reducible apply c_ne | with_reducible apply c_in | with_reducible apply c_ni | with_reducible exact c_lt | with_reducible exact c_le | with_reducible exact c_gt | with_reducible exact c_ge)
    | ((with_reducible apply gd_eq); first | with_reducible exact eq_tS _ _ _ | with_reducible exact eq_str _ _ _ | with_reducible exact eq_int _ _ _ | with_reducible exact eq_bl _ _ _ | with_reducible exact eq_lTS _ _ _ | with_reducible exact eq_tTS _ _ _ | with_reducible exact eq_lS _ _ _)
    | ((with_reducible apply gd_in); first | with_reducible exact in_tS | with_reducible exact in_lS | with_reducible exact in_lTS | with_reducible exact in_tTS | ((with_reducible apply in_cS); rfl))
    | with_reducible exact tr_bl
    | ((with_reducible apply gd_bi); first
      | with_reducible exact b_tupT | with_reducible exact b_tupL | with_reducible exact b_allM | with_reducible exact b_allF2 | with_reducible exact b_anyM | with_reducible exact b_lenT | with_reducible exact b_lenL | ((with_reducible apply b_lenC); rfl) | ((with_reducible apply b_tupC); rfl) | with_reducible exact b_strS | with_reducible apply b_strN | with_reducible exact b_int | with_reducible exact b_intB | with_reducible exact b_abs | with_reducible apply b_list | with_reducible apply b_dict
      | ((with_reducible apply b_sset); (· first | contradiction | (simp only [seqOf, List.append_nil, ← List.map_append]; rfl) | (simp only [seqOf, List.append_nil, ← List.map_append, ← List.map_flatMap]; rfl)); (· first | omega | (simp only [List.length_append, List.length_map]; omega)))
      | ((with_reducible apply b_sort); (· rfl); (· first | omega | (simp only [List.length_append, List.length_map]; omega))))
    | ((with_reducible apply gd_src); first | with_reducible exact sr_T | with_reducible exact sr_L | ((with_reducible apply sr_C); rfl) | with_reducible exact sr_D)
    | ((with_reducible apply gd_seq); first | with_reducible exact sq_T | with_reducible exact sq_L | ((with_reducible apply sq_C); rfl))
    | ((with_reducible apply gd_lc); first
      | ((with_reducible apply lcC_map (turn := turnL _ _ _ C.nil _ _) (τ := tS)); (· rfl); intro _ _) | ((with_reducible apply lcC_filter (τ := tS)); (· rfl); intro _ _)
      | ((with_reducible apply lc_map (turn := turnL _ _ _ C.nil _ _) (τ := T.str)); intro _ _) | ((with_reducible apply lc_filter (τ := T.str)); intro _ _) | ((with_reducible apply lc_map (turn := turnL _ _ _ C.nil _ _) (τ := tS)); intro _ _) | ((with_reducible apply lc_filter (τ := tS)); intro _ _))
    | ((with_reducible apply gd_turn); first
      | ((with_reducible apply turn_all); (· (simp only [asgT, setAll, wipeT, List.set_cons_zero, List.set_cons_succ]; rfl))) | ((with_reducible apply turn_if); (· (simp only [asgT, setAll, wipeT, List.set_cons_zero, List.set_cons_succ]; rfl))))
    | ((with_reducible apply gd_attr); first
      | with_reducible exact attr_fld pn_0_own_names kf_own_names fl_0_own_names
      | with_reducible exact attr_fld pn_0_own_told kf_own_told fl_0_own_told
      | with_reducible exact attr_fld pn_0_own_keysets kf_own_keysets fl_0_own_keysets
      | with_reducible apply attr_prop p_0_names
      | with_reducible apply attr_prop p_0_pairs
      | with_reducible apply attr_prop p_0_text
      | with_reducible apply attr_prop p_0_keysets
      )
    | with_reducible exact ix_dic (getD_map (by first | assumption | solve_by_elim))
    | ((with_reducible apply gd_call); first | with_reducible apply call_nil | with_reducible apply call_pure)
    | ((with_reducible apply gd_pure); first | with_reducible exact pure_tS _ | with_reducible exact pure_lS _ | with_reducible exact pure_lTS _ | with_reducible exact pure_tTS _ | with_reducible exact pure_tapp | with_reducible rfl)
    | with_reducible apply pr_val
    | ((with_reducible apply gd_dc); first | ((with_reducible apply dc_run (τ := T.str)); intro _ _) | ((with_reducible apply dc_run (τ := tS)); intro _ _))
    | ((with_reducible apply gd_turnD); ((with_reducible apply turnD_ok); (· (simp only [asgT, setAll, wipeT, List.set_cons_zero, List.set_cons_succ]; rfl))))
    | with_reducible exact ko_str | with_reducible exact recv_join | with_reducible apply meth_str
    | with_reducible apply mt_jn
    | ((with_reducible apply mt_join); (· (simp only [seqOf, List.append_nil, ← List.map_cons, ← List.map_append]; rfl)))
    | ((with_reducible apply ix_cdic); (· rfl); (· first | with_reducible exact getD_map (by first | assumption | solve_by_elim) | assumption))
    | ((with_reducible apply gd_bin); first | with_reducible apply bi_addL | with_reducible apply bi_addT | with_reducible exact bi_add | with_reducible exact bi_sub)
    | with_reducible apply ix_dic | ((with_reducible apply ix_cel); rfl) | with_reducible apply ix_lst | with_reducible apply ix_tup
    | with_reducible apply meth_cell
    | ((with_reducible apply recv_ext); rfl) | ((with_reducible apply recv_app); rfl) | ((with_reducible apply recv_pop); rfl)
    | ((with_reducible apply mt_ext); (· rfl); (· rfl)) | ((with_reducible apply mt_app); (· rfl))
    | ((with_reducible apply gd_lc2); ((with_reducible apply lc2_run (τ := T.str)); intro _ _ _ _))
    | ((with_reducible apply gd_lcA); first | ((with_reducible apply lcA_map (turn := turnL _ _ _ C.nil _ _) (τ := T.str)); intro _ _) | ((rw [List.append_nil, ← List.map_cons]); (with_reducible apply lcA_map (turn := turnL _ _ _ C.nil _ _) (τ := T.str)); intro _ _))
    | ((with_reducible apply gd_turn2); ((with_reducible apply turn2_ok); (· (simp only [asgT, setAll, wipeT, List.set_cons_zero, List.set_cons_succ]; rfl))))
    | ((with_reducible apply gd_all); (simp only [List.all_cons, List.all_nil, Bool.and_true, Bool.and_eq_true]; (repeat' constructor) <;> contradiction))
    | (intro (_ : _ = true))
    | (intro (_ : Str) (_ : _ ∈ _))
    | (refine (?_ : (_ : Nat) < _); omega)
    | (refine (?_ : (_ : Nat) ≤ _); first | omega | (simp only [List.length_map, List.length_append, List.length_cons, List.length_nil]; omega) | ((try simp only [List.length_map, List.length_append, List.length_cons, List.length_nil]); grind [Ks.tl, Ks.nl, Ks.kl, Ks.kk]))
    | assumption
    | solve_by_elim)
local macro_rules
  | `(tactic| contradiction) => `(tactic| first
    | ((with_reducible apply gd_run); first | with_reducible apply told_ok | with_reducible apply names_ok | with_reducible apply keysets_ok | with_reducible apply within_ok | with_reducible apply tells_ok | with_reducible apply below_ok | with_reducible apply joint_ok | with_reducible apply common_ok | with_reducible apply tops_ok | with_reducible apply closed_okT | with_reducible apply closed_okL)
    | ((with_reducible apply gd_recv); first | with_reducible exact recv_ins kn_told m_0_told | with_reducible exact recv_ins kn_tells m_0_tells | with_reducible exact recv_ins kn_closed m_0_closed)
    | ((with_reducible apply gd_meth); first | with_reducible apply meth_ins kn_told m_0_told | with_reducible apply meth_ins kn_tells m_0_tells | with_reducible apply meth_ins kn_closed m_0_closed)
    | with_reducible exact pure_keT _)
theorem kp1_own_names {a : T} : getF [("own_names", a)] "own_names" = some a := by kernel_rfl
theorem kp2_own_names {a b : T} : getF [("own_names", a), ("own_told", b)] "own_names" = some a := by kernel_rfl
theorem kp2_own_told {a b : T} : getF [("own_names", a), ("own_told", b)] "own_told" = some b := by kernel_rfl
theorem pf1 {v : T} : putFT "own_names" v [] = [(("own_names" : Str), v)] := by kernel_rfl
theorem pf2 {a v : T} : putFT "own_told" v [(("own_names" : Str), a)] = [(("own_names" : Str), a), (("own_told" : Str), v)] := by kernel_rfl
theorem pf3 {a b v : T} : putFT "own_keysets" v [(("own_names" : Str), a), (("own_told" : Str), b)] = [(("own_names" : Str), a), (("own_told" : Str), b), (("own_keysets" : Str), v)] := by kernel_rfl
local macro_rules
  | `(tactic| contradiction) => `(tactic| first
    | ((with_reducible apply b_ssetN); (· contradiction); (· omega); (· assumption))
    | ((with_reducible apply s_fldR); (· repeat contradiction); (· contradiction); (· contradiction); (· rfl); (· (simp only [List.length_cons, List.length_nil]; decide)); (· first | with_reducible exact fl_0_own_names | with_reducible exact fl_0_own_told | with_reducible exact fl_0_own_keysets); (· first | with_reducible exact pf1 | with_reducible exact pf2 | with_reducible exact pf3); (· (simp only [List.set_cons_zero]; rfl)))
    | ((with_reducible apply gd_attr); first | with_reducible exact attr_cfld rfl pn_0_own_names kp1_own_names fl_0_own_names | with_reducible exact attr_cfld rfl pn_0_own_names kp2_own_names fl_0_own_names | with_reducible exact attr_cfld rfl pn_0_own_told kp2_own_told fl_0_own_told)
    | ((with_reducible apply lc_filter (τ := pT)); intro _ _)
    | with_reducible exact pure_dirT' _ _ | with_reducible exact pure_told _ _
    | ((with_reducible apply gd_run); first | assumption | solve_by_elim))
theorem init_ok (k : Nat) (names : List Str) (pairs : List (Str × Str)) (tld : Str → List Str) (ks : List (List Str)) (hn : names.length ≤ 5) (hso : sortS (dedupS names) = names) (hnd : names.Nodup) (hpl : pairs.length ≤ 1000) (hp : ∀ p ∈ pairs, p.1 ∈ names ∧ p.2 ∈ names)
    (hr : ∀ n ∈ names, Sv.run tb.G fnsC (k + 1) 2 [dirT' names pairs, .str n] [] = .ok (.val (tS (tld n))) []) (hring : (names.filter fun n => decide (n ∈ tld n)) = [])
    (hac : Sv.run tb.G fnsC (k + 1) 3 [tS names, .dic (names.map fun n => ((Sum.inr n : Key), tS (tld n)))] [] = .ok (.val (.tup (ks.map tS))) []) :
    Sv.run tb.G fnsC (k + 2) 4 [.cell 0, tS names, .tup (pairs.map pT)] [.ins 0 []] = .ok (.val .non) [.ins 0 [("own_names", tS names), ("own_told", .dic (names.map fun n => ((Sum.inr n : Key), tS (tld n)))), ("own_keysets", .tup (ks.map tS))]] := by
  rw [u4]
  have hkn : (names.map fun n => (Sum.inr n : Key)).Nodup := by
    rw [List.Nodup, List.pairwise_map]
    exact hnd.imp fun h z => h (Sum.inr.inj z)
  apply ev_end
  · repeat contradiction
    refine for_foldR (τ := pT) (σ := Option T × Option T) (fun s => [some (.cell 0), some (tS names), some (.tup (pairs.map pT)), s.1, none, none, s.2, none, none]) (fun s => [.ins 0 []])
      (fun s p => (some (pT p), some (.str p.2))) (none, none) _ rfl rfl rfl fun d p e q => ?_
    · have hpm := hp p (by rw [q]; simp)
      obtain ⟨h1, h2⟩ := hpm
      refine body_ok (by simp only [asgT, List.set_cons_zero, List.set_cons_succ]; rfl) ?_
      apply ev_end
      · repeat contradiction
        refine for_pass (τ := T.str) (l := [p.1, p.2]) (fun o => [some (.cell 0), some (tS names), some (.tup (pairs.map pT)), some (pT p), none, none, o, none, none]) _ rfl fun n hn o => ?_
        · have hnn : n ∈ names := by
            simp only [List.mem_cons, List.not_mem_nil, or_false] at hn
            rcases hn with rfl | rfl
            · exact h1
            · exact h2
          refine body_ok (by simp only [asgT, List.set_cons_zero, List.set_cons_succ]; rfl) ?_
          repeat contradiction
        repeat contradiction
      · rfl
      · rfl
    repeat contradiction
  · rfl
  · rfl
end K03
end
section
set_option linter.all false
set_option maxRecDepth 100000
set_option maxHeartbeats 4000000
namespace K03
open PySem L2 Sv

local macro_rules
  | `(tactic| contradiction) => `(tactic| first
    | ((with_reducible apply gd_fz); first | with_reducible exact fz_val _ | with_reducible exact fz_newL _ | with_reducible exact fz_newD _ | with_reducible exact fz_newI _ _)
    | ((with_reducible apply gd_E); first
      | ((with_reducible apply e_var); rfl) | with_reducible exact e_lit | with_reducible apply e_cmp | with_reducible apply e_call | with_reducible apply e_bi | with_reducible apply e_lc | with_reducible apply e_idx | with_reducible apply e_attr | with_reducible apply e_mt
      | with_reducible apply e_tup | with_reducible apply e_lst | with_reducible apply e_bin | with_reducible apply e_ite | with_reducible apply e_nt | with_reducible apply e_andB | with_reducible apply e_orB | with_reducible apply e_neg | with_reducible apply e_slc | with_reducible apply e_isi | with_reducible apply e_make | with_reducible apply e_lc2 | with_reducible apply e_dc | ((with_reducible apply e_celN); (· repeat contradiction); (· (simp only [List.length_cons, List.length_nil, Nat.zero_add, Nat.reduceAdd]; rfl)); (· (simp only [List.nil_append, List.cons_append]; rfl)))
      | ((with_reducible apply e_callK); (· repeat contradiction); (· first | with_reducible exact kwf0 | with_reducible exact kwf1 | with_reducible exact kwf2 | with_reducible exact kwf3 | with_reducible exact kwf4); (· rfl); (· rfl))
      | with_reducible exact e_glo g_LETTERS
      | with_reducible exact e_glo g_MOST_LETTERS
      | with_reducible exact e_glo g_NUMBER
      | with_reducible exact e_glo g_RECORD
      | with_reducible exact e_glo g_TELLS
      | with_reducible exact e_glo g_FEED
      | with_reducible exact e_glo g_BLANK
      )
    | ((with_reducible apply gd_A); first | with_reducible exact a_nil | with_reducible apply a_cons | with_reducible apply a_star)
    | ((with_reducible apply gd_T); first | with_reducible apply t_tru | with_reducible exact t_nil | with_reducible apply t_nt | with_reducible apply t_or | with_reducible apply t_and)
    | ((with_reducible apply gd_I); first | with_reducible apply i_itr | with_reducible apply i_rngN | with_reducible apply i_enum | with_reducible apply i_zipL | with_reducible apply i_zipT)
    | ((with_reducible apply gd_S); first
      | with_reducible apply s_seq | with_reducible exact s_nil | with_reducible apply s_ret | with_reducible apply s_ife | with_reducible apply s_ex | with_reducible apply s_for | with_reducible apply s_whl | ((with_reducible apply s_augA); (· rfl))
      | with_reducible apply s_asg)
    | ((with_reducible apply gd_asg); (simp only [asgT, setAll, wipeT, List.set_cons_zero, List.set_cons_succ]; rfl))
    | ((with_reducible apply gd_k); first | with_reducible exact k_rt | with_reducible apply k_nx)
    | with_reducible apply fn_out | with_reducible apply o_rt | with_reducible apply o_nx | with_reducible exact leave_eq | with_reducible apply leave0' | with_reducible apply leave_new0 | ((with_reducible apply leave_cell0); rfl)
    | ((with_reducible apply gd_if); first | ((with_reducible apply ite_t); (· first | assumption | with_reducible rfl | (simp [*]; done))) | ((with_reducible apply ite_f); (· first | assumption | with_reducible rfl | (simp [*]; done))))
    | ((with_reducible apply gd_cmp); first | with_reducible apply c_eq | with_reducible apply c_ne | with_reducible apply c_in | with_reducible apply c_ni | with_reducible exact c_lt | with_reducible exact c_le | with_reducible exact c_gt | with_reducible exact c_ge)
    | ((with_reducible apply gd_eq); first | with_reducible exact eq_tS _ _ _ | with_reducible exact eq_str _ _ _ | with_reducible exact eq_int _ _ _ | with_reducible exact eq_bl _ _ _ | with_reducible exact eq_lTS _ _ _ | with_reducible exact eq_tTS _ _ _ | with_reducible exact eq_lS _ _ _)
    | ((with_reducible apply gd_in); first | with_reducible exact in_tS | with_reducible exact in_lS | with_reducible exact in_lTS | with_reducible exact in_tTS | ((with_reducible apply in_cS); rfl))
    | with_reducible exact tr_bl
    | ((with_reducible apply gd_bi); first
      | with_reducible exact b_tupT | with_reducible exact b_tupL | with_reducible exact b_allM | with_reducible exact b_allF2 | with_reducible exact b_anyM | with_reducible exact b_lenT | with_reducible exact b_lenL | ((with_reducible apply b_lenC); rfl) | ((with_reducible apply b_tupC); rfl) | with_reducible exact b_strS | with_reducible apply b_strN | with_reducible exact b_int | with_reducible exact b_intB | with_reducible exact b_abs | with_reducible apply b_list | with_reducible apply b_dict
      | ((with_reducible apply b_sset); (· first | contradiction | (simp only [seqOf, List.append_nil, ← List.map_append]; rfl) | (simp only [seqOf, List.append_nil, ← List.map_append, ← List.map_flatMap]; rfl)); (· first | omega | (simp only [List.length_append, List.length_map]; omega)))
      | ((with_reducible apply b_sort); (· rfl); (· first | omega | (simp only [List.length_append, List.length_map]; omega))))
    | ((with_reducible apply gd_src); first | with_reducible exact sr_T | with_reducible exact sr_L | ((with_reducible apply sr_C); rfl) | with_reducible exact sr_D)
    | ((with_reducible apply gd_seq); first | with_reducible exact sq_T | with_reducible exact sq_L | ((with_reducible apply sq_C); rfl))
    | ((with_reducible apply gd_lc); first
      | ((with_reducible apply lcC_map (turn := turnL _ _ _ C.nil _ _) (τ := tS)); (· rfl); intro _ _) | ((with_reducible apply lcC_filter (τ := tS)); (· rfl); intro _ _)
      | ((with_reducible apply lc_map (turn := turnL _ _ _ C.nil _ _) (τ := T.str)); intro _ _) | ((with_reducible apply lc_filter (τ := T.str)); intro _ _) | ((with_reducible apply lc_map (turn := turnL _ _ _ C.nil _ _) (τ := tS)); intro _ _) | ((with_reducible apply lc_filter (τ := tS)); intro _ _))
    | ((with_reducible apply gd_turn); first
      | ((with_reducible apply turn_all); (· (simp only [asgT, setAll, wipeT, List.set_cons_zero, List.set_cons_succ]; rfl))) | ((with_reducible apply turn_if); (· (simp only [asgT, setAll, wipeT, List.set_cons_zero, List.set_cons_succ]; rfl))))
    | ((with_reducible apply gd_attr); first
      | with_reducible exact attr_fld pn_0_own_names kf_own_names fl_0_own_names
      | with_reducible exact attr_fld pn_0_own_told kf_own_told fl_0_own_told
      | with_reducible exact attr_fld pn_0_own_keysets kf_own_keysets fl_0_own_keysets
      | with_reducible apply attr_prop p_0_names
      | with_reducible apply attr_prop p_0_pairs
      | with_reducible apply attr_prop p_0_text
      | with_reducible apply attr_prop p_0_keysets
      )
    | with_reducible exact ix_dic (getD_map (by first | assumption | solve_by_elim))
    | ((with_reducible apply gd_call); first | with_reducible apply call_nil | with_reducible apply call_pure)
    | ((with_reducible apply gd_pure); first | with_reducible exact pure_tS _ | with_reducible exact pure_lS _ | with_reducible exact pure_lTS _ | with_reducible exact pure_tTS _ | with_reducible exact pure_tapp | with_reducible rfl)
    | with_reducible apply pr_val
    | ((with_reducible apply gd_dc); first | ((with_reducible apply dc_run (τ := T.str)); intro _ _) | ((with_reducible apply dc_run (τ := tS)); intro _ _))
    | ((with_reducible apply gd_turnD); ((with_reducible apply turnD_ok); (· (simp only [asgT, setAll, wipeT, List.set_cons_zero, List.set_cons_succ]; rfl))))
    | with_reducible exact ko_str | with_reducible exact recv_join | with_reducible apply meth_str
    | with_reducible apply mt_jn
    | ((with_reducible apply mt_join); (· (simp only [seqOf, List.append_nil, ← List.map_cons, ← List.map_append]; rfl)))
    | ((with_reducible apply ix_cdic); (· rfl); (· first | with_reducible exact getD_map (by first | assumption | solve_by_elim) | assumption))
    | ((with_reducible apply gd_bin); first | with_reducible apply bi_addL | with_reducible apply bi_addT | with_reducible exact bi_add | with_reducible exact bi_sub)
    | with_reducible apply ix_dic | ((with_reducible apply ix_cel); rfl) | with_reducible apply ix_lst | with_reducible apply ix_tup
    | with_reducible apply meth_cell
    | ((with_reducible apply recv_ext); rfl) | ((with_reducible apply recv_app); rfl) | ((with_reducible apply recv_pop); rfl)
    | ((with_reducible apply mt_ext); (· rfl); (· rfl)) | ((with_reducible apply mt_app); (· rfl))
    | ((with_reducible apply gd_lc2); ((with_reducible apply lc2_run (τ := T.str)); intro _ _ _ _))
    | ((with_reducible apply gd_lcA); first | ((with_reducible apply lcA_map (turn := turnL _ _ _ C.nil _ _) (τ := T.str)); intro _ _) | ((rw [List.append_nil, ← List.map_cons]); (with_reducible apply lcA_map (turn := turnL _ _ _ C.nil _ _) (τ := T.str)); intro _ _))
    | ((with_reducible apply gd_turn2); ((with_reducible apply turn2_ok); (· (simp only [asgT, setAll, wipeT, List.set_cons_zero, List.set_cons_succ]; rfl))))
    | ((with_reducible apply gd_all); (simp only [List.all_cons, List.all_nil, Bool.and_true, Bool.and_eq_true]; (repeat' constructor) <;> contradiction))
    | (intro (_ : _ = true))
    | (intro (_ : Str) (_ : _ ∈ _))
    | (refine (?_ : (_ : Nat) < _); omega)
    | (refine (?_ : (_ : Nat) ≤ _); first | omega | (simp only [List.length_map, List.length_append, List.length_cons, List.length_nil]; omega) | ((try simp only [List.length_map, List.length_append, List.length_cons, List.length_nil]); grind [Ks.tl, Ks.nl, Ks.kl, Ks.kk]))
    | assumption
    | solve_by_elim)
theorem join_small {names : List Str} {pairs : List (Str × Str)} (h : Bk names pairs) (a : List Str) (ha : a ∈ subs names) : ((decS (a.length : Int) :: a).map Str.length).sum + (" " : Str).length * (decS (a.length : Int) :: a).length ≤ 16777216 := by
  have s := (mem_subs _ _).mp ha
  have hl := s.length_le
  have h4 := h.len
  have e1 : (decS (a.length : Int)).length = 1 := by
    show (decS (a.length : Int)).cps.size = 1
    rw [← Array.length_toList, digs1 (by omega)]
    rfl
  have e2 : (" " : Str).length = 1 := by decide +kernel
  have e3 : (a.map Str.length).sum ≤ a.length * 8 := sum_le fun n hn => (h.nm n (s.subset hn)).2
  simp only [List.map_cons, List.sum_cons, List.length_cons, e1, e2]
  omega
theorem keys_make (k : Nat) {names : List Str} {pairs : List (Str × Str)} (h : Bk names pairs) (st : Stor) :
    makeC (Sv.run tb.G fnsC (k + 2) 4) 0 [tS names, .tup (pairs.map pT)] st = .ok (.new (.ins 0 [("own_names", tS names), ("own_told", tldT (mkK h)), ("own_keysets", .tup ((mkK h).ks.map tS))])) st := by
  have h4 := h.len
  refine make_ok (d := 0) (fs := [("own_names", tS names), ("own_told", tldT (mkK h)), ("own_keysets", .tup ((mkK h).ks.map tS))]) ?_ (init_ok k names pairs (tldB names pairs) (mkK h).ks (by omega) h.asc.sset h.asc.nodup (by have := h.pl; omega) h.pin (fun n hn => ?_) ?_ ?_) ?_
  · simp only [List.all_cons, List.all_nil, pure_tS, pure_prs, Bool.and_self]
  · obtain ⟨f, hf, hr⟩ := reached_ok k names (dirD pairs) n hn h.dsub h.dnd (by omega)
    rw [dirT_eq, hr]
    congr 3
    congr 1
    exact asc_ext (asc_sort f) (h.tasc n) fun x => by rw [mem_sset, hf, mem_tldB h]
  · rw [List.filter_eq_nil_iff]
    intro n _
    have := h.irr n
    simp [this]
  · exact all_closed_ok k names (tldB names pairs) (by omega) (fun n => by have := Bk.tlen (names := names) (pairs := pairs) n; omega) (join_small h) (gB names) (fun a ha => gB_jn h (List.mem_filter.mp ha).1) (by
      have := clB_nd h
      rw [List.Nodup, List.pairwise_map] at this ⊢
      exact this.imp fun hne e => hne (Sum.inr.inj e))
  · simp only [List.all_cons, List.all_nil, pure_tS, pure_told, pure_tTS, Bool.and_self]
end K03
end
section
set_option linter.all false
set_option maxRecDepth 100000
set_option maxHeartbeats 4000000
namespace K03
open PySem L2 Sv

local macro_rules
  | `(tactic| contradiction) => `(tactic| first
    | ((with_reducible apply gd_fz); first | with_reducible exact fz_val _ | with_reducible exact fz_newL _ | with_reducible exact fz_newD _ | with_reducible exact fz_newI _ _)
    | ((with_reducible apply gd_E); first
      | ((with_reducible apply e_var); rfl) | with_reducible exact e_lit | with_reducible apply e_cmp | with_reducible apply e_call | with_reducible apply e_bi | with_reducible apply e_lc | with_reducible apply e_idx | with_reducible apply e_attr | with_reducible apply e_mt
      | with_reducible apply e_tup | with_reducible apply e_lst | with_reducible apply e_bin | with_reducible apply e_ite | with_reducible apply e_nt | with_reducible apply e_andB | with_reducible apply e_orB | with_reducible apply e_neg | with_reducible apply e_slc | with_reducible apply e_isi | with_reducible apply e_make | with_reducible apply e_lc2 | with_reducible apply e_dc | ((with_reducible apply e_celN); (· repeat contradiction); (· (simp only [List.length_cons, List.length_nil, Nat.zero_add, Nat.reduceAdd]; rfl)); (· (simp only [List.nil_append, List.cons_append]; rfl)))
      | ((with_reducible apply e_callK); (· repeat contradiction); (· first | with_reducible exact kwf0 | with_reducible exact kwf1 | with_reducible exact kwf2 | with_reducible exact kwf3 | with_reducible exact kwf4); (· rfl); (· rfl))
      | with_reducible exact e_glo g_LETTERS
      | with_reducible exact e_glo g_MOST_LETTERS
      | with_reducible exact e_glo g_NUMBER
      | with_reducible exact e_glo g_RECORD
      | with_reducible exact e_glo g_TELLS
      | with_reducible exact e_glo g_FEED
      | with_reducible exact e_glo g_BLANK
      )
    | ((with_reducible apply gd_A); first | with_reducible exact a_nil | with_reducible apply a_cons | with_reducible apply a_star)
    | ((with_reducible apply gd_T); first | with_reducible apply t_tru | with_reducible exact t_nil | with_reducible apply t_nt | with_reducible apply t_or | with_reducible apply t_and)
    | ((with_reducible apply gd_I); first | with_reducible apply i_itr | with_reducible apply i_rngN | with_reducible apply i_enum | with_reducible apply i_zipL | with_reducible apply i_zipT)
    | ((with_reducible apply gd_S); first
      | with_reducible apply s_seq | with_reducible exact s_nil | with_reducible apply s_ret | with_reducible apply s_ife | with_reducible apply s_ex | with_reducible apply s_for | with_reducible apply s_whl | ((with_reducible apply s_augA); (· rfl))
      | with_reducible apply s_asg)
    | ((with_reducible apply gd_asg); (simp only [asgT, setAll, wipeT, List.set_cons_zero, List.set_cons_succ]; rfl))
    | ((with_reducible apply gd_k); first | with_reducible exact k_rt | with_reducible apply k_nx)
    | with_reducible apply fn_out | with_reducible apply o_rt | with_reducible apply o_nx | with_reducible exact leave_eq | with_reducible apply leave0' | with_reducible apply leave_new0 | ((with_reducible apply leave_cell0); rfl)
    | ((with_reducible apply gd_if); first | ((with_reducible apply ite_t); (· first | assumption | with_reducible rfl | (simp [*]; done))) | ((with_reducible apply ite_f); (· first | assumption | with_reducible rfl | (simp [*]; done))))
    | ((with_reducible apply gd_cmp); first | with_reducible apply c_eq | with_reducible apply c_ne | with_reducible apply c_in | with_reducible apply c_ni | with_reducible exact c_lt | with_reducible exact c_le | with_reducible exact c_gt | with_reducible exact c_ge)
    | ((with_reducible apply gd_eq); first | with_reducible exact eq_tS _ _ _ | with_reducible exact eq_str _ _ _ | with_reducible exact eq_int _ _ _ | with_reducible exact eq_bl _ _ _ | with_reducible exact eq_lTS _ _ _ | with_reducible exact eq_tTS _ _ _ | with_reducible exact eq_lS _ _ _)
    | ((with_reducible apply gd_in); first | with_reducible exact in_tS | with_reducible exact in_lS | with_reducible exact in_lTS | with_reducible exact in_tTS | ((with_reducible apply in_cS); rfl))
    | with_reducible exact tr_bl
    | ((with_reducible apply gd_bi); first
      | with_reducible exact b_tupT | with_reducible exact b_tupL | with_reducible exact b_allM | with_reducible exact b_allF2 | with_reducible exact b_anyM | with_reducible exact b_lenT | with_reducible exact b_lenL | ((with_reducible apply b_lenC); rfl) | ((with_reducible apply b_tupC); rfl) | with_reducible exact b_strS | with_reducible apply b_strN | with_reducible exact b_int | with_reducible exact b_intB | with_reducible exact b_abs | with_reducible apply b_list | with_reducible apply b_dict
      | ((with_reducible apply b_sset); (· first | contradiction | (simp only [seqOf, List.append_nil, ← List.map_append]; rfl) | (simp only [seqOf, List.append_nil, ← List.map_append, ← List.map_flatMap]; rfl)); (· first | omega | (simp only [List.length_append, List.length_map]; omega)))
      | ((with_reducible apply b_sort); (· rfl); (· first | omega | (simp only [List.length_append, List.length_map]; omega))))
    | ((with_reducible apply gd_src); first | with_reducible exact sr_T | with_reducible exact sr_L | ((with_reducible apply sr_C); rfl) | with_reducible exact sr_D)
    | ((with_reducible apply gd_seq); first | with_reducible exact sq_T | with_reducible exact sq_L | ((with_reducible apply sq_C); rfl))
    | ((with_reducible apply gd_lc); first
      | ((with_reducible apply lcC_map (turn := turnL _ _ _ C.nil _ _) (τ := tS)); (· rfl); intro _ _) | ((with_reducible apply lcC_filter (τ := tS)); (· rfl); intro _ _)
      | ((with_reducible apply lc_map (turn := turnL _ _ _ C.nil _ _) (τ := T.str)); intro _ _) | ((with_reducible apply lc_filter (τ := T.str)); intro _ _) | ((with_reducible apply lc_map (turn := turnL _ _ _ C.nil _ _) (τ := tS)); intro _ _) | ((with_reducible apply lc_filter (τ := tS)); intro _ _))
    | ((with_reducible apply gd_turn); first
      | ((with_reducible apply turn_all); (· (simp only [asgT, setAll, wipeT, List.set_cons_zero, List.set_cons_succ]; rfl))) | ((with_reducible apply turn_if); (· (simp only [asgT, setAll, wipeT, List.set_cons_zero, List.set_cons_succ]; rfl))))
    | ((with_reducible apply gd_attr); first
      | with_reducible exact attr_fld pn_0_own_names kf_own_names fl_0_own_names
      | with_reducible exact attr_fld pn_0_own_told kf_own_told fl_0_own_told
      | with_reducible exact attr_fld pn_0_own_keysets kf_own_keysets fl_0_own_keysets
      | with_reducible apply attr_prop p_0_names
      | with_reducible apply attr_prop p_0_pairs
      | with_reducible apply attr_prop p_0_text
      | with_reducible apply attr_prop p_0_keysets
      )
    | with_reducible exact ix_dic (getD_map (by first | assumption | solve_by_elim))
    | ((with_reducible apply gd_call); first | with_reducible apply call_nil | with_reducible apply call_pure)
    | ((with_reducible apply gd_pure); first | with_reducible exact pure_tS _ | with_reducible exact pure_lS _ | with_reducible exact pure_lTS _ | with_reducible exact pure_tTS _ | with_reducible exact pure_tapp | with_reducible rfl)
    | with_reducible apply pr_val
    | ((with_reducible apply gd_dc); first | ((with_reducible apply dc_run (τ := T.str)); intro _ _) | ((with_reducible apply dc_run (τ := tS)); intro _ _))
    | ((with_reducible apply gd_turnD); ((with_reducible apply turnD_ok); (· (simp only [asgT, setAll, wipeT, List.set_cons_zero, List.set_cons_succ]; rfl))))
    | with_reducible exact ko_str | with_reducible exact recv_join | with_reducible apply meth_str
    | with_reducible apply mt_jn
    | ((with_reducible apply mt_join); (· (simp only [seqOf, List.append_nil, ← List.map_cons, ← List.map_append]; rfl)))
    | ((with_reducible apply ix_cdic); (· rfl); (· first | with_reducible exact getD_map (by first | assumption | solve_by_elim) | assumption))
    | ((with_reducible apply gd_bin); first | with_reducible apply bi_addL | with_reducible apply bi_addT | with_reducible exact bi_add | with_reducible exact bi_sub)
    | with_reducible apply ix_dic | ((with_reducible apply ix_cel); rfl) | with_reducible apply ix_lst | with_reducible apply ix_tup
    | with_reducible apply meth_cell
    | ((with_reducible apply recv_ext); rfl) | ((with_reducible apply recv_app); rfl) | ((with_reducible apply recv_pop); rfl)
    | ((with_reducible apply mt_ext); (· rfl); (· rfl)) | ((with_reducible apply mt_app); (· rfl))
    | ((with_reducible apply gd_lc2); ((with_reducible apply lc2_run (τ := T.str)); intro _ _ _ _))
    | ((with_reducible apply gd_lcA); first | ((with_reducible apply lcA_map (turn := turnL _ _ _ C.nil _ _) (τ := T.str)); intro _ _) | ((rw [List.append_nil, ← List.map_cons]); (with_reducible apply lcA_map (turn := turnL _ _ _ C.nil _ _) (τ := T.str)); intro _ _))
    | ((with_reducible apply gd_turn2); ((with_reducible apply turn2_ok); (· (simp only [asgT, setAll, wipeT, List.set_cons_zero, List.set_cons_succ]; rfl))))
    | ((with_reducible apply gd_all); (simp only [List.all_cons, List.all_nil, Bool.and_true, Bool.and_eq_true]; (repeat' constructor) <;> contradiction))
    | (intro (_ : _ = true))
    | (intro (_ : Str) (_ : _ ∈ _))
    | (refine (?_ : (_ : Nat) < _); omega)
    | (refine (?_ : (_ : Nat) ≤ _); first | omega | (simp only [List.length_map, List.length_append, List.length_cons, List.length_nil]; omega) | ((try simp only [List.length_map, List.length_append, List.length_cons, List.length_nil]); grind [Ks.tl, Ks.nl, Ks.kl, Ks.kk]))
    | assumption
    | solve_by_elim)
local macro_rules
  | `(tactic| contradiction) => `(tactic| first
    | ((with_reducible apply lc_filter (τ := pT)); intro _ _)
    | with_reducible exact ix_tup rfl
    | ((with_reducible apply gd_run); first | assumption | solve_by_elim))
abbrev bkT (names : List Str) (pairs : List (Str × Str)) : T := .tup [tS names, .tup (pairs.map pT)]
theorem told_row (k : Nat) {names : List Str} {pairs : List (Str × Str)} (h : Bk names pairs) (b : T) (o2 o6 : Option T) (own : Str) (ho : own ∈ names) (F : Str → List Str) (hF : TI names pairs F) :
    ∃ o6', forFix (bodyF ⟨tb.G, Sv.run tb.G fnsC k⟩ (.nm 6) c27_b0) ((F own).map .str) [some b, some (.cell 0), o2, some (tS names), some (.tup (pairs.map pT)), some (.str own), o6, none, none] [.dic (tabT names F)] =
      .ok (.nx, [some b, some (.cell 0), o2, some (tS names), some (.tup (pairs.map pT)), some (.str own), o6', none, none]) [.dic (tabT names (rowF F own))] := by
  have l4 := h.len
  obtain ⟨sl', st', hf, G, o, e1, e2, e3, hG⟩ := for_all (body := bodyF ⟨tb.G, Sv.run tb.G fnsC k⟩ (.nm 6) c27_b0) (τ := T.str)
    (fun d sl st => ∃ G o, G = d.foldl (fun F far => stepT F own far) F ∧ sl = [some b, some (.cell 0), o2, some (tS names), some (.tup (pairs.map pT)), some (.str own), o, none, none] ∧ st = [.dic (tabT names G)] ∧ TI names pairs G) (F own) []
    [some b, some (.cell 0), o2, some (tS names), some (.tup (pairs.map pT)), some (.str own), o6, none, none] [.dic (tabT names F)] ⟨F, o6, rfl, rfl, rfl, hF⟩ (by
    rintro d a e sl st q ⟨G, o, e1, e2, e3, hG⟩
    subst e2 e3
    have ha : a ∈ F own := by
      rw [List.nil_append] at q
      rw [q]; simp
    have har := hF.sound own a ha
    have han := (h.reach_in har).2
    have l1 := hG.len h own
    have l2 := hG.len h a
    refine ⟨[some b, some (.cell 0), o2, some (tS names), some (.tup (pairs.map pT)), some (.str own), some (.str a), none, none], [.dic (tabT names (stepT G own a))], .inl ?_, stepT G own a, some (.str a), ?_, rfl, rfl, hG.step har⟩
    · refine body_ok (by simp only [asgT, List.set_cons_zero, List.set_cons_succ]; rfl) ?_
      apply ev_end
      · contradiction
        apply s_subD (n := 0)
        · repeat contradiction
        · contradiction
        · repeat contradiction
        · repeat contradiction
        · contradiction
        · rfl
        · contradiction
        · rw [List.length_map]; omega
        repeat contradiction
      · rfl
      · rw [List.set_cons_zero, ← List.map_append]
        exact congrArg (fun z => [Cell.dic z]) (put_tab ho)
    · rw [List.foldl_append, ← e1]; rfl)
  subst e1 e2 e3
  exact ⟨o, hf⟩
theorem told_turn (k : Nat) {names : List Str} {pairs : List (Str × Str)} (h : Bk names pairs) (b : T) (o2 o5 o6 : Option T) (F : Str → List Str) (t : Nat) (hF : TI names pairs F) (hc : ∀ m x, RLe (dirD pairs) (t + 1) m x → x ∈ F m) :
    ∃ o5' o6', forFix (bodyF ⟨tb.G, Sv.run tb.G fnsC k⟩ (.nm 5) c27_b1) (names.map .str) [some b, some (.cell 0), o2, some (tS names), some (.tup (pairs.map pT)), o5, o6, none, none] [.dic (tabT names F)] =
      .ok (.nx, [some b, some (.cell 0), o2, some (tS names), some (.tup (pairs.map pT)), o5', o6', none, none]) [.dic (tabT names (names.foldl rowF F))] := by
  have l4 := h.len
  obtain ⟨sl', st', hf, G, o5', o6', e1, e2, e3, hG⟩ := for_all (body := bodyF ⟨tb.G, Sv.run tb.G fnsC k⟩ (.nm 5) c27_b1) (τ := T.str)
    (fun d sl st => ∃ G o o', G = d.foldl rowF F ∧ sl = [some b, some (.cell 0), o2, some (tS names), some (.tup (pairs.map pT)), o, o', none, none] ∧ st = [.dic (tabT names G)] ∧ TI names pairs G) names []
    [some b, some (.cell 0), o2, some (tS names), some (.tup (pairs.map pT)), o5, o6, none, none] [.dic (tabT names F)] ⟨F, o5, o6, rfl, rfl, rfl, hF⟩ (by
    rintro d a e sl st q ⟨G, o, o', e1, e2, e3, hG⟩
    subst e2 e3
    have ha : a ∈ names := by
      rw [List.nil_append] at q
      rw [q]; simp
    obtain ⟨o6', hr⟩ := told_row k h b o2 o' a ha G hG
    have hrow := (rowT (n := a) (G a) hG fun x hx => hG.sound a x hx).1
    refine ⟨[some b, some (.cell 0), o2, some (tS names), some (.tup (pairs.map pT)), some (.str a), o6', none, none], [.dic (tabT names (rowF G a))], .inl ?_, rowF G a, some (.str a), o6', ?_, rfl, rfl, hrow⟩
    · refine body_ok (by simp only [asgT, List.set_cons_zero, List.set_cons_succ]; rfl) ?_
      apply ev_end
      · repeat contradiction
      · rfl
      · rfl
    · rw [List.foldl_append, ← e1]; rfl)
  subst e1 e2 e3
  exact ⟨o5', o6', hf⟩
theorem told_law_ok (k : Nat) {names : List Str} {pairs : List (Str × Str)} (h : Bk names pairs) : Sv.run tb.G fnsC (k + 1) 27 [bkT names pairs] [] = .ok (.new (.dic (names.map fun n => ((Sum.inr n : Key), tS (tldB names pairs n))))) [] := by
  rw [u27]
  have l4 := h.len
  have lp := h.pl
  have hkn : (names.map fun n => (Sum.inr n : Key)).Nodup := by
    rw [List.Nodup, List.pairwise_map]
    exact h.asc.nodup.imp fun h z => h (Sum.inr.inj z)
  have h0 : TI names pairs (dirD pairs) := ⟨fun _ _ h => h, fun _ _ h => .one h, h.dnd⟩
  have hc0 : ∀ m x, RLe (dirD pairs) (0 + 1) m x → x ∈ dirD pairs m := fun m x r => by
    rcases r with r | ⟨y, _, r⟩
    · exact r
    · exact r.elim
  obtain ⟨sl', st', hf, o2, o5, o6, e2, e3⟩ := for_all (body := bodyF ⟨tb.G, Sv.run tb.G fnsC k⟩ (.nm 2) c27_b2) (τ := fun i : Nat => T.int ((i : Nat) : Int))
    (fun d sl st => ∃ o2 o5 o6, sl = [some (bkT names pairs), some (.cell 0), o2, some (tS names), some (.tup (pairs.map pT)), o5, o6, none, none] ∧ st = [.dic (tabT names ((List.range d.length).foldl (fun F _ => names.foldl rowF F) (dirD pairs)))]) (List.range names.length) []
    [some (bkT names pairs), some (.cell 0), none, some (tS names), some (.tup (pairs.map pT)), none, none, none, none] [.dic (tabT names (dirD pairs))] ⟨none, none, none, rfl, rfl⟩ (by
    rintro d a e sl st q ⟨o2, o5, o6, e2, e3⟩
    subst e2 e3
    obtain ⟨h1, h2⟩ := allT h d.length 0 h0 hc0
    obtain ⟨o5', o6', hr⟩ := told_turn k h (bkT names pairs) (some (.int (a : Int))) o5 o6 _ _ h1 h2
    refine ⟨[some (bkT names pairs), some (.cell 0), some (.int (a : Int)), some (tS names), some (.tup (pairs.map pT)), o5', o6', none, none], [.dic (tabT names ((List.range (d ++ [a]).length).foldl (fun F _ => names.foldl rowF F) (dirD pairs)))], .inl ?_, some (.int (a : Int)), o5', o6', rfl, rfl⟩
    refine body_ok (by simp only [asgT, List.set_cons_zero, List.set_cons_succ]; rfl) ?_
    apply ev_end
    · repeat contradiction
    · rfl
    · rw [List.length_append, List.length_cons, List.length_nil, Nat.zero_add, List.range_succ, List.foldl_append]
      rfl)
  rw [List.nil_append, List.length_range] at e3
  subst e2 e3
  have hlen := (tabF_ok h).1.len h
  apply ev_end
  · repeat contradiction
    · rw [List.length_map, dirTab_eq]
      exact hf
    repeat contradiction
    exact pc_told _ _
  · congr 2
    apply List.map_congr_left
    intro n _
    rw [← told_eq h]
    rfl
  · rfl
theorem wide_ok (k : Nat) {names : List Str} {pairs : List (Str × Str)} (h : Bk names pairs) (l : List Str) (hl : ∀ n ∈ l, n ∈ names) (hll : l.length ≤ 16) : Sv.run tb.G fnsC (k + 2) 28 [bkT names pairs, tS l] [] = .ok (.val (tS (cd (mkK h) l))) [] := by
  rw [u28]
  have hno : ¬ ("#" : Str) ∈ l := fun q => h.no (hl _ q)
  have ht := told_law_ok k h
  have l4 := h.len
  have htl : ∀ n, (tldB names pairs n).length ≤ 4 := fun n => Nat.le_trans (Bk.tlen n) l4
  obtain ⟨o, ho⟩ := fold_app (tldB names pairs) T.str l l none
  apply ev_end
  · repeat contradiction
    · refine for_foldR (τ := T.str) (σ := List Str × Option T) (fun s => [some (bkT names pairs), some (tS l), s.2, some (.dic (names.map fun n => ((Sum.inr n : Key), tS (tldB names pairs n)))), some (lS s.1)]) (fun _ => [])
        (fun s n => (s.1 ++ tldB names pairs n, some (.str n))) (l, none) (l ++ l.flatMap (tldB names pairs), o) ho rfl rfl fun d a e q => ?_
      obtain ⟨o1, ho1⟩ := fold_app (tldB names pairs) T.str d l none
      have ha : a ∈ names := hl a (by rw [q]; simp)
      have hd : d.length ≤ 16 := by have := congrArg List.length q; simp at this; omega
      have hfl := flat_len htl d
      have hta := htl a
      rw [ho1]
      show bodyF _ _ _ _ [_, _, o1, _, some (lS (l ++ d.flatMap (tldB names pairs)))] [] = _
      refine body_ok (by simp only [asgT, List.set_cons_zero, List.set_cons_succ]; rfl) ?_
      apply ev_end
      · repeat contradiction
      · simp [List.append_assoc]
      · rfl
    repeat contradiction
  · unfold cd
    rw [if_neg hno]
    congr 3
    refine asc_ext (h.asc.filter _) (asc_sort _) fun x => ?_
    rw [List.mem_filter, mem_sset, decide_eq_true_eq, List.mem_append, List.mem_flatMap, List.mem_flatMap]
    constructor
    · rintro ⟨_, q | ⟨n, hn, hx⟩⟩
      · exact ⟨x, q, List.mem_cons_self ..⟩
      · exact ⟨n, hn, List.mem_cons_of_mem _ hx⟩
    · rintro ⟨n, hn, hx⟩
      rcases List.mem_cons.mp hx with rfl | hx
      · exact ⟨hl _ hn, .inl hn⟩
      · exact ⟨(h.reach_in ((mem_tldB h).mp hx)).2, .inr ⟨n, hn, hx⟩⟩
  · rfl
end K03
end
section
set_option linter.all false
set_option maxRecDepth 100000
set_option maxHeartbeats 4000000
namespace K03
open PySem L2 Sv

local macro_rules
  | `(tactic| contradiction) => `(tactic| first
    | ((with_reducible apply gd_fz); first | with_reducible exact fz_val _ | with_reducible exact fz_newL _ | with_reducible exact fz_newD _ | with_reducible exact fz_newI _ _)
    | ((with_reducible apply gd_E); first
      | ((with_reducible apply e_var); rfl) | with_reducible exact e_lit | with_reducible apply e_cmp | with_reducible apply e_call | with_reducible apply e_bi | with_reducible apply e_lc | with_reducible apply e_idx | with_reducible apply e_attr | with_reducible apply e_mt
      | with_reducible apply e_tup | with_reducible apply e_lst | with_reducible apply e_bin | with_reducible apply e_ite | with_reducible apply e_nt | with_reducible apply e_andB | with_reducible apply e_orB | with_reducible apply e_neg | with_reducible apply e_slc | with_reducible apply e_isi | with_reducible apply e_make | with_reducible apply e_lc2 | with_reducible apply e_dc | ((with_reducible apply e_celN); (· repeat contradiction); (· (simp only [List.length_cons, List.length_nil, Nat.zero_add, Nat.reduceAdd]; rfl)); (· (simp only [List.nil_append, List.cons_append]; rfl)))
      | ((with_reducible apply e_callK); (· repeat contradiction); (· first | with_reducible exact kwf0 | with_reducible exact kwf1 | with_reducible exact kwf2 | with_reducible exact kwf3 | with_reducible exact kwf4); (· rfl); (· rfl))
      | with_reducible exact e_glo g_LETTERS
      | with_reducible exact e_glo g_MOST_LETTERS
      | with_reducible exact e_glo g_NUMBER
      | with_reducible exact e_glo g_RECORD
      | with_reducible exact e_glo g_TELLS
      | with_reducible exact e_glo g_FEED
      | with_reducible exact e_glo g_BLANK
      )
    | ((with_reducible apply gd_A); first | with_reducible exact a_nil | with_reducible apply a_cons | with_reducible apply a_star)
    | ((with_reducible apply gd_T); first | with_reducible apply t_tru | with_reducible exact t_nil | with_reducible apply t_nt | with_reducible apply t_or | with_reducible apply t_and)
    | ((with_reducible apply gd_I); first | with_reducible apply i_itr | with_reducible apply i_rngN | with_reducible apply i_enum | with_reducible apply i_zipL | with_reducible apply i_zipT)
    | ((with_reducible apply gd_S); first
      | with_reducible apply s_seq | with_reducible exact s_nil | with_reducible apply s_ret | with_reducible apply s_ife | with_reducible apply s_ex | with_reducible apply s_for | with_reducible apply s_whl | ((with_reducible apply s_augA); (· rfl))
      | with_reducible apply s_asg)
    | ((with_reducible apply gd_asg); (simp only [asgT, setAll, wipeT, List.set_cons_zero, List.set_cons_succ]; rfl))
    | ((with_reducible apply gd_k); first | with_reducible exact k_rt | with_reducible apply k_nx)
    | with_reducible apply fn_out | with_reducible apply o_rt | with_reducible apply o_nx | with_reducible exact leave_eq | with_reducible apply leave0' | with_reducible apply leave_new0 | ((with_reducible apply leave_cell0); rfl)
    | ((with_reducible apply gd_if); first | ((with_reducible apply ite_t); (· first | assumption | with_reducible rfl | (simp [*]; done))) | ((with_reducible apply ite_f); (· first | assumption | with_reducible rfl | (simp [*]; done))))
    | ((with_reducible apply gd_cmp); first | with_reducible apply c_eq | with_reducible apply c_ne | with_reducible apply c_in | with_reducible apply c_ni | with_reducible exact c_lt | with_reducible exact c_le | with_reducible exact c_gt | with_reducible exact c_ge)
    | ((with_reducible apply gd_eq); first | with_reducible exact eq_tS _ _ _ | with_reducible exact eq_str _ _ _ | with_reducible exact eq_int _ _ _ | with_reducible exact eq_bl _ _ _ | with_reducible exact eq_lTS _ _ _ | with_reducible exact eq_tTS _ _ _ | with_reducible exact eq_lS _ _ _)
    | ((with_reducible apply gd_in); first | with_reducible exact in_tS | with_reducible exact in_lS | with_reducible exact in_lTS | with_reducible exact in_tTS | ((with_reducible apply in_cS); rfl))
    | with_reducible exact tr_bl
    | ((with_reducible apply gd_bi); first
      | with_reducible exact b_tupT | with_reducible exact b_tupL | with_reducible exact b_allM | with_reducible exact b_allF2 | with_reducible exact b_anyM | with_reducible exact b_lenT | with_reducible exact b_lenL | ((with_reducible apply b_lenC); rfl) | ((with_reducible apply b_tupC); rfl) | with_reducible exact b_strS | with_reducible apply b_strN | with_reducible exact b_int | with_reducible exact b_intB | with_reducible exact b_abs | with_reducible apply b_list | with_reducible apply b_dict
      | ((with_reducible apply b_sset); (· first | contradiction | (simp only [seqOf, List.append_nil, ← List.map_append]; rfl) | (simp only [seqOf, List.append_nil, ← List.map_append, ← List.map_flatMap]; rfl)); (· first | omega | (simp only [List.length_append, List.length_map]; omega)))
      | ((with_reducible apply b_sort); (· rfl); (· first | omega | (simp only [List.length_append, List.length_map]; omega))))
    | ((with_reducible apply gd_src); first | with_reducible exact sr_T | with_reducible exact sr_L | ((with_reducible apply sr_C); rfl) | with_reducible exact sr_D)
    | ((with_reducible apply gd_seq); first | with_reducible exact sq_T | with_reducible exact sq_L | ((with_reducible apply sq_C); rfl))
    | ((with_reducible apply gd_lc); first
      | ((with_reducible apply lcC_map (turn := turnL _ _ _ C.nil _ _) (τ := tS)); (· rfl); intro _ _) | ((with_reducible apply lcC_filter (τ := tS)); (· rfl); intro _ _)
      | ((with_reducible apply lc_map (turn := turnL _ _ _ C.nil _ _) (τ := T.str)); intro _ _) | ((with_reducible apply lc_filter (τ := T.str)); intro _ _) | ((with_reducible apply lc_map (turn := turnL _ _ _ C.nil _ _) (τ := tS)); intro _ _) | ((with_reducible apply lc_filter (τ := tS)); intro _ _))
    | ((with_reducible apply gd_turn); first
      | ((with_reducible apply turn_all); (· (simp only [asgT, setAll, wipeT, List.set_cons_zero, List.set_cons_succ]; rfl))) | ((with_reducible apply turn_if); (· (simp only [asgT, setAll, wipeT, List.set_cons_zero, List.set_cons_succ]; rfl))))
    | ((with_reducible apply gd_attr); first
      | with_reducible exact attr_fld pn_0_own_names kf_own_names fl_0_own_names
      | with_reducible exact attr_fld pn_0_own_told kf_own_told fl_0_own_told
      | with_reducible exact attr_fld pn_0_own_keysets kf_own_keysets fl_0_own_keysets
      | with_reducible apply attr_prop p_0_names
      | with_reducible apply attr_prop p_0_pairs
      | with_reducible apply attr_prop p_0_text
      | with_reducible apply attr_prop p_0_keysets
      )
    | with_reducible exact ix_dic (getD_map (by first | assumption | solve_by_elim))
    | ((with_reducible apply gd_call); first | with_reducible apply call_nil | with_reducible apply call_pure)
    | ((with_reducible apply gd_pure); first | with_reducible exact pure_tS _ | with_reducible exact pure_lS _ | with_reducible exact pure_lTS _ | with_reducible exact pure_tTS _ | with_reducible exact pure_tapp | with_reducible rfl)
    | with_reducible apply pr_val
    | ((with_reducible apply gd_dc); first | ((with_reducible apply dc_run (τ := T.str)); intro _ _) | ((with_reducible apply dc_run (τ := tS)); intro _ _))
    | ((with_reducible apply gd_turnD); ((with_reducible apply turnD_ok); (· (simp only [asgT, setAll, wipeT, List.set_cons_zero, List.set_cons_succ]; rfl))))
    | with_reducible exact ko_str | with_reducible exact recv_join | with_reducible apply meth_str
    | with_reducible apply mt_jn
    | ((with_reducible apply mt_join); (· (simp only [seqOf, List.append_nil, ← List.map_cons, ← List.map_append]; rfl)))
    | ((with_reducible apply ix_cdic); (· rfl); (· first | with_reducible exact getD_map (by first | assumption | solve_by_elim) | assumption))
    | ((with_reducible apply gd_bin); first | with_reducible apply bi_addL | with_reducible apply bi_addT | with_reducible exact bi_add | with_reducible exact bi_sub)
    | with_reducible apply ix_dic | ((with_reducible apply ix_cel); rfl) | with_reducible apply ix_lst | with_reducible apply ix_tup
    | with_reducible apply meth_cell
    | ((with_reducible apply recv_ext); rfl) | ((with_reducible apply recv_app); rfl) | ((with_reducible apply recv_pop); rfl)
    | ((with_reducible apply mt_ext); (· rfl); (· rfl)) | ((with_reducible apply mt_app); (· rfl))
    | ((with_reducible apply gd_lc2); ((with_reducible apply lc2_run (τ := T.str)); intro _ _ _ _))
    | ((with_reducible apply gd_lcA); first | ((with_reducible apply lcA_map (turn := turnL _ _ _ C.nil _ _) (τ := T.str)); intro _ _) | ((rw [List.append_nil, ← List.map_cons]); (with_reducible apply lcA_map (turn := turnL _ _ _ C.nil _ _) (τ := T.str)); intro _ _))
    | ((with_reducible apply gd_turn2); ((with_reducible apply turn2_ok); (· (simp only [asgT, setAll, wipeT, List.set_cons_zero, List.set_cons_succ]; rfl))))
    | ((with_reducible apply gd_all); (simp only [List.all_cons, List.all_nil, Bool.and_true, Bool.and_eq_true]; (repeat' constructor) <;> contradiction))
    | (intro (_ : _ = true))
    | (intro (_ : Str) (_ : _ ∈ _))
    | (refine (?_ : (_ : Nat) < _); omega)
    | (refine (?_ : (_ : Nat) ≤ _); first | omega | (simp only [List.length_map, List.length_append, List.length_cons, List.length_nil]; omega) | ((try simp only [List.length_map, List.length_append, List.length_cons, List.length_nil]); grind [Ks.tl, Ks.nl, Ks.kl, Ks.kk]))
    | assumption
    | solve_by_elim)
local macro_rules
  | `(tactic| contradiction) => `(tactic| first
    | with_reducible exact le_tS
    | with_reducible exact pt_n
    | with_reducible exact pt_i
    | with_reducible apply slc_to
    | with_reducible apply slc_from)
theorem rising_ok (k : Nat) (rows : List (List Str)) (hr : rows.length ≤ 16) : Sv.run tb.G fnsC (k + 1) 29 [.lst (rows.map tS)] [] = .ok (.val (.lst ((risL rows).map tS))) [] := by
  rw [u29]
  obtain ⟨sl', st', hf, o2, o3, e2, e3⟩ := for_all (body := bodyF ⟨tb.G, Sv.run tb.G fnsC k⟩ (.nm 2) c29_b0) (τ := tS)
    (fun d sl st => ∃ o2 o3, sl = [some (.lst (rows.map tS)), some (.lst ((risL d).map tS)), o2, o3, none] ∧ st = []) rows []
    [some (.lst (rows.map tS)), some (.lst []), none, none, none] [] ⟨none, none, rfl, rfl⟩ (by
    rintro d a e sl st q ⟨o2, o3, e2, e3⟩
    subst e2 e3
    have hd : (risL d).length ≤ 16 := by
      rw [risL_len]
      have := congrArg List.length q; simp at this; omega
    have hfl := List.length_filter_le (fun b => !lexS a b) (risL d)
    refine ⟨[some (.lst (rows.map tS)), some (.lst ((risL (d ++ [a])).map tS)), some (tS a), some (.int ((((risL d).filter fun b => !lexS a b).length : Nat) : Int)), none], [], .inl ?_, _, _, rfl, rfl⟩
    refine body_ok (by simp only [asgT, List.set_cons_zero, List.set_cons_succ]; rfl) ?_
    apply ev_end
    · repeat contradiction
    · simp [risL, List.foldl_append, insK, List.map_take, List.map_drop]
    · rfl)
  rw [List.nil_append] at e2
  subst e2 e3
  apply ev_end
  · repeat contradiction
  · rfl
  · rfl
local macro_rules
  | `(tactic| contradiction) => `(tactic| first
    | with_reducible apply i_rngS
    | with_reducible exact ix_tup rfl
    | ((with_reducible apply gd_run); first | assumption | solve_by_elim))
theorem sets_ok (k : Nat) {names : List Str} {pairs : List (Str × Str)} (h : Bk names pairs) : Sv.run tb.G fnsC (k + 3) 30 [bkT names pairs] [] = .ok (.new (.lst ((mkK h).ks.map tS))) [] := by
  rw [u30]
  have l4 := h.len
  have hsl : (subs names).length ≤ 16 := by
    rw [subs_len]
    exact Nat.le_trans (Nat.pow_le_pow_right (by decide) l4) (by decide)
  have hw : ∀ l ∈ subs names, Sv.run tb.G fnsC (k + 2) 28 [bkT names pairs, tS l] [] = .ok (.val (tS (cd (mkK h) l))) [] := fun l hl =>
    wide_ok k h l (fun n hn => ((mem_subs _ _).mp hl).subset hn) (by have := ((mem_subs _ _).mp hl).length_le; omega)
  have hri : ∀ m : Nat, Sv.run tb.G fnsC (k + 2) 29 [.lst (((subs names).filter fun a => decide (((a.map T.str).length : Int) = (m : Int)) && decide (cd (mkK h) a = a)).map tS)] [] = .ok (.val (.lst ((risL (rowsM h m)).map tS))) [] := fun m => by
    simp only [List.length_map]
    rw [rowsM_int]
    exact rising_ok (k + 1) _ (Nat.le_trans (List.length_filter_le _ _) hsl)
  obtain ⟨o, ho⟩ := fold_subs names [[]] none
  obtain ⟨sl', st', hf, o2, e2, e3⟩ := for_all (body := bodyF ⟨tb.G, Sv.run tb.G fnsC (k + 2)⟩ (.nm 2) c30_b0) (τ := fun i : Nat => T.int ((i : Nat) : Int))
    (fun d sl st => ∃ o2, sl = [some (bkT names pairs), o, o2, some (.lst ((subs names).map tS)), some (.lst ((setsL h d.length).map tS)), none] ∧ st = []) (List.range (names.length + 1)) []
    [some (bkT names pairs), o, none, some (.lst ((subs names).map tS)), some (.lst []), none] [] ⟨none, rfl, rfl⟩ (by
    rintro d a e sl st q ⟨o2, e2, e3⟩
    subst e2 e3
    rw [List.nil_append] at q
    have qa := range_at q
    have qd : d.length < names.length + 1 := by have := congrArg List.length q; simp at this; omega
    have hs := setsL_len h d.length
    subst qa
    have hr2 : (risL (rowsM h d.length)).length ≤ 16 := by rw [risL_len]; exact Nat.le_trans (List.length_filter_le _ _) hsl
    refine ⟨[some (bkT names pairs), o, some (.int (d.length : Int)), some (.lst ((subs names).map tS)), some (.lst ((setsL h (d ++ [d.length]).length).map tS)), none], [], .inl ?_, _, rfl, rfl⟩
    refine body_ok (by simp only [asgT, List.set_cons_zero, List.set_cons_succ]; rfl) ?_
    apply ev_end
    · repeat contradiction
    · rw [List.length_append, List.length_cons, List.length_nil, Nat.zero_add, setsL_succ, List.map_append]
    · rfl)
  rw [List.nil_append, List.length_range] at e2
  subst e2 e3
  have hs := setsL_len h (names.length + 1)
  apply ev_end
  · repeat contradiction
    refine for_foldR (τ := T.str) (σ := List (List Str) × Option T) (fun s => [some (bkT names pairs), s.2, none, some (.lst (s.1.map tS)), some (.lst []), none]) (fun s => [])
      (fun s n => (s.1 ++ s.1.map (· ++ [n]), some (.str n))) ([[]], none) (subs names, o) ho rfl rfl fun d a e q => ?_
    · obtain ⟨o1, ho1⟩ := fold_subs d [[]] none
      have hd5 : d.length ≤ 5 := by have := congrArg List.length q; simp at this; omega
      have hd := subs_lt hd5
      have hd2 : ∀ a ∈ subs d, a.length ≤ 5 := fun a ha => Nat.le_trans ((mem_subs _ _).mp ha).length_le hd5
      rw [ho1]
      show bodyF _ _ _ _ [_, o1, _, some (.lst ((subs d).map tS)), _, _] [] = _
      refine body_ok (by simp only [asgT, List.set_cons_zero, List.set_cons_succ]; rfl) ?_
      apply ev_end
      · repeat contradiction
      · simp [List.map_append, List.map_map, subs]
      · rfl
    repeat contradiction
    · rw [List.length_map]; exact hf
    repeat contradiction
  · rw [← setsL_eq h, List.map_append]
    rfl
  · rfl
end K03
end
section
set_option linter.all false
set_option maxRecDepth 100000
set_option maxHeartbeats 4000000
namespace K03
open PySem L2 Sv

local macro_rules
  | `(tactic| contradiction) => `(tactic| first
    | ((with_reducible apply gd_fz); first | with_reducible exact fz_val _ | with_reducible exact fz_newL _ | with_reducible exact fz_newD _ | with_reducible exact fz_newI _ _)
    | ((with_reducible apply gd_E); first
      | ((with_reducible apply e_var); rfl) | with_reducible exact e_lit | with_reducible apply e_cmp | with_reducible apply e_call | with_reducible apply e_bi | with_reducible apply e_lc | with_reducible apply e_idx | with_reducible apply e_attr | with_reducible apply e_mt
      | with_reducible apply e_tup | with_reducible apply e_lst | with_reducible apply e_bin | with_reducible apply e_ite | with_reducible apply e_nt | with_reducible apply e_andB | with_reducible apply e_orB | with_reducible apply e_neg | with_reducible apply e_slc | with_reducible apply e_isi | with_reducible apply e_make | with_reducible apply e_lc2 | with_reducible apply e_dc | ((with_reducible apply e_celN); (· repeat contradiction); (· (simp only [List.length_cons, List.length_nil, Nat.zero_add, Nat.reduceAdd]; rfl)); (· (simp only [List.nil_append, List.cons_append]; rfl)))
      | ((with_reducible apply e_callK); (· repeat contradiction); (· first | with_reducible exact kwf0 | with_reducible exact kwf1 | with_reducible exact kwf2 | with_reducible exact kwf3 | with_reducible exact kwf4); (· rfl); (· rfl))
      | with_reducible exact e_glo g_LETTERS
      | with_reducible exact e_glo g_MOST_LETTERS
      | with_reducible exact e_glo g_NUMBER
      | with_reducible exact e_glo g_RECORD
      | with_reducible exact e_glo g_TELLS
      | with_reducible exact e_glo g_FEED
      | with_reducible exact e_glo g_BLANK
      )
    | ((with_reducible apply gd_A); first | with_reducible exact a_nil | with_reducible apply a_cons | with_reducible apply a_star)
    | ((with_reducible apply gd_T); first | with_reducible apply t_tru | with_reducible exact t_nil | with_reducible apply t_nt | with_reducible apply t_or | with_reducible apply t_and)
    | ((with_reducible apply gd_I); first | with_reducible apply i_itr | with_reducible apply i_rngN | with_reducible apply i_enum | with_reducible apply i_zipL | with_reducible apply i_zipT)
    | ((with_reducible apply gd_S); first
      | with_reducible apply s_seq | with_reducible exact s_nil | with_reducible apply s_ret | with_reducible apply s_ife | with_reducible apply s_ex | with_reducible apply s_for | with_reducible apply s_whl | ((with_reducible apply s_augA); (· rfl))
      | with_reducible apply s_asg)
    | ((with_reducible apply gd_asg); (simp only [asgT, setAll, wipeT, List.set_cons_zero, List.set_cons_succ]; rfl))
    | ((with_reducible apply gd_k); first | with_reducible exact k_rt | with_reducible apply k_nx)
    | with_reducible apply fn_out | with_reducible apply o_rt | with_reducible apply o_nx | with_reducible exact leave_eq | with_reducible apply leave0' | with_reducible apply leave_new0 | ((with_reducible apply leave_cell0); rfl)
    | ((with_reducible apply gd_if); first | ((with_reducible apply ite_t); (· first | assumption | with_reducible rfl | (simp [*]; done))) | ((with_reducible apply ite_f); (· first | assumption | with_reducible rfl | (simp [*]; done))))
    | ((with_reducible apply gd_cmp); first | with_reducible apply c_eq | with_reducible apply c_ne | with_reducible apply c_in | with_reducible apply c_ni | with_reducible exact c_lt | with_reducible exact c_le | with_reducible exact c_gt | with_reducible exact c_ge)
    | ((with_reducible apply gd_eq); first | with_reducible exact eq_tS _ _ _ | with_reducible exact eq_str _ _ _ | with_reducible exact eq_int _ _ _ | with_reducible exact eq_bl _ _ _ | with_reducible exact eq_lTS _ _ _ | with_reducible exact eq_tTS _ _ _ | with_reducible exact eq_lS _ _ _)
    | ((with_reducible apply gd_in); first | with_reducible exact in_tS | with_reducible exact in_lS | with_reducible exact in_lTS | with_reducible exact in_tTS | ((with_reducible apply in_cS); rfl))
    | with_reducible exact tr_bl
    | ((with_reducible apply gd_bi); first
      | with_reducible exact b_tupT | with_reducible exact b_tupL | with_reducible exact b_allM | with_reducible exact b_allF2 | with_reducible exact b_anyM | with_reducible exact b_lenT | with_reducible exact b_lenL | ((with_reducible apply b_lenC); rfl) | ((with_reducible apply b_tupC); rfl) | with_reducible exact b_strS | with_reducible apply b_strN | with_reducible exact b_int | with_reducible exact b_intB | with_reducible exact b_abs | with_reducible apply b_list | with_reducible apply b_dict
      | ((with_reducible apply b_sset); (· first | contradiction | (simp only [seqOf, List.append_nil, ← List.map_append]; rfl) | (simp only [seqOf, List.append_nil, ← List.map_append, ← List.map_flatMap]; rfl)); (· first | omega | (simp only [List.length_append, List.length_map]; omega)))
      | ((with_reducible apply b_sort); (· rfl); (· first | omega | (simp only [List.length_append, List.length_map]; omega))))
    | ((with_reducible apply gd_src); first | with_reducible exact sr_T | with_reducible exact sr_L | ((with_reducible apply sr_C); rfl) | with_reducible exact sr_D)
    | ((with_reducible apply gd_seq); first | with_reducible exact sq_T | with_reducible exact sq_L | ((with_reducible apply sq_C); rfl))
    | ((with_reducible apply gd_lc); first
      | ((with_reducible apply lcC_map (turn := turnL _ _ _ C.nil _ _) (τ := tS)); (· rfl); intro _ _) | ((with_reducible apply lcC_filter (τ := tS)); (· rfl); intro _ _)
      | ((with_reducible apply lc_map (turn := turnL _ _ _ C.nil _ _) (τ := T.str)); intro _ _) | ((with_reducible apply lc_filter (τ := T.str)); intro _ _) | ((with_reducible apply lc_map (turn := turnL _ _ _ C.nil _ _) (τ := tS)); intro _ _) | ((with_reducible apply lc_filter (τ := tS)); intro _ _))
    | ((with_reducible apply gd_turn); first
      | ((with_reducible apply turn_all); (· (simp only [asgT, setAll, wipeT, List.set_cons_zero, List.set_cons_succ]; rfl))) | ((with_reducible apply turn_if); (· (simp only [asgT, setAll, wipeT, List.set_cons_zero, List.set_cons_succ]; rfl))))
    | ((with_reducible apply gd_attr); first
      | with_reducible exact attr_fld pn_0_own_names kf_own_names fl_0_own_names
      | with_reducible exact attr_fld pn_0_own_told kf_own_told fl_0_own_told
      | with_reducible exact attr_fld pn_0_own_keysets kf_own_keysets fl_0_own_keysets
      | with_reducible apply attr_prop p_0_names
      | with_reducible apply attr_prop p_0_pairs
      | with_reducible apply attr_prop p_0_text
      | with_reducible apply attr_prop p_0_keysets
      )
    | with_reducible exact ix_dic (getD_map (by first | assumption | solve_by_elim))
    | ((with_reducible apply gd_call); first | with_reducible apply call_nil | with_reducible apply call_pure)
    | ((with_reducible apply gd_pure); first | with_reducible exact pure_tS _ | with_reducible exact pure_lS _ | with_reducible exact pure_lTS _ | with_reducible exact pure_tTS _ | with_reducible exact pure_tapp | with_reducible rfl)
    | with_reducible apply pr_val
    | ((with_reducible apply gd_dc); first | ((with_reducible apply dc_run (τ := T.str)); intro _ _) | ((with_reducible apply dc_run (τ := tS)); intro _ _))
    | ((with_reducible apply gd_turnD); ((with_reducible apply turnD_ok); (· (simp only [asgT, setAll, wipeT, List.set_cons_zero, List.set_cons_succ]; rfl))))
    | with_reducible exact ko_str | with_reducible exact recv_join | with_reducible apply meth_str
    | with_reducible apply mt_jn
    | ((with_reducible apply mt_join); (· (simp only [seqOf, List.append_nil, ← List.map_cons, ← List.map_append]; rfl)))
    | ((with_reducible apply ix_cdic); (· rfl); (· first | with_reducible exact getD_map (by first | assumption | solve_by_elim) | assumption))
    | ((with_reducible apply gd_bin); first | with_reducible apply bi_addL | with_reducible apply bi_addT | with_reducible exact bi_add | with_reducible exact bi_sub)
    | with_reducible apply ix_dic | ((with_reducible apply ix_cel); rfl) | with_reducible apply ix_lst | with_reducible apply ix_tup
    | with_reducible apply meth_cell
    | ((with_reducible apply recv_ext); rfl) | ((with_reducible apply recv_app); rfl) | ((with_reducible apply recv_pop); rfl)
    | ((with_reducible apply mt_ext); (· rfl); (· rfl)) | ((with_reducible apply mt_app); (· rfl))
    | ((with_reducible apply gd_lc2); ((with_reducible apply lc2_run (τ := T.str)); intro _ _ _ _))
    | ((with_reducible apply gd_lcA); first | ((with_reducible apply lcA_map (turn := turnL _ _ _ C.nil _ _) (τ := T.str)); intro _ _) | ((rw [List.append_nil, ← List.map_cons]); (with_reducible apply lcA_map (turn := turnL _ _ _ C.nil _ _) (τ := T.str)); intro _ _))
    | ((with_reducible apply gd_turn2); ((with_reducible apply turn2_ok); (· (simp only [asgT, setAll, wipeT, List.set_cons_zero, List.set_cons_succ]; rfl))))
    | ((with_reducible apply gd_all); (simp only [List.all_cons, List.all_nil, Bool.and_true, Bool.and_eq_true]; (repeat' constructor) <;> contradiction))
    | (intro (_ : _ = true))
    | (intro (_ : Str) (_ : _ ∈ _))
    | (refine (?_ : (_ : Nat) < _); omega)
    | (refine (?_ : (_ : Nat) ≤ _); first | omega | (simp only [List.length_map, List.length_append, List.length_cons, List.length_nil]; omega) | ((try simp only [List.length_map, List.length_append, List.length_cons, List.length_nil]); grind [Ks.tl, Ks.nl, Ks.kl, Ks.kk]))
    | assumption
    | solve_by_elim)
local macro_rules
  | `(tactic| contradiction) => `(tactic| first
    | ((with_reducible apply e_isi); (· repeat contradiction); (· repeat contradiction); (· rfl); (· (simp only [List.any_cons, List.any_nil, tyIs, Bool.or_false, Bool.false_or, Bool.or_true, Bool.true_or]; rfl)))
    | with_reducible exact is_str | with_reducible exact is_bl | with_reducible exact is_int | with_reducible exact is_non | with_reducible exact eq_non
    | ((with_reducible apply i_zipLv); (· rfl); (· rfl)) | ((with_reducible apply i_zipTv); (· rfl); (· rfl))
    | ((with_reducible apply gd_lc); ((with_reducible apply lc_map (α := T) (turn := turnL _ _ _ C.nil _ _) (τ := fun x => .tup [x, x]) (g := fun _ => .bl true)); intro _ _))
    | ((with_reducible apply gd_run); first | assumption | solve_by_elim))
theorem same_refl : ∀ (n : Nat) (t : T) (k : Nat), plT n t = true → Sv.run tb.G fnsC (k + n) 23 [t, t] [] = .ok (.val (.bl true)) []
  | 0, t, k, h => by cases h
  | n + 1, .non, k, h => by
    show Sv.run tb.G fnsC (k + n + 1) _ _ _ = _
    rw [u23]
    apply ev_end
    · repeat contradiction
    · simp
    · rfl
  | n + 1, .str s, k, h => by
    show Sv.run tb.G fnsC (k + n + 1) _ _ _ = _
    rw [u23]
    apply ev_end
    · repeat contradiction
    · simp
    · rfl
  | n + 1, .int s, k, h => by
    show Sv.run tb.G fnsC (k + n + 1) _ _ _ = _
    rw [u23]
    apply ev_end
    · repeat contradiction
    · simp
    · rfl
  | n + 1, .bl s, k, h => by
    show Sv.run tb.G fnsC (k + n + 1) _ _ _ = _
    rw [u23]
    apply ev_end
    · repeat contradiction
    · simp
    · rfl
  | n + 1, .lst xs, k, h => by
    show Sv.run tb.G fnsC (k + n + 1) _ _ _ = _
    have h' : (decide (xs.length ≤ 16777216) && xs.all (plT n)) = true := h
    rw [Bool.and_eq_true, decide_eq_true_eq, List.all_eq_true] at h'
    obtain ⟨h1, h2⟩ := h'
    have ih : ∀ x ∈ xs, Sv.run tb.G fnsC (k + n) 23 [x, x] [] = .ok (.val (.bl true)) [] := fun x hx => same_refl n x k (h2 x hx)
    rw [u23]
    apply ev_end
    · repeat contradiction
    · rw [same_all]
    · rfl
  | n + 1, .tup xs, k, h => by
    show Sv.run tb.G fnsC (k + n + 1) _ _ _ = _
    have h' : (decide (xs.length ≤ 16777216) && xs.all (plT n)) = true := h
    rw [Bool.and_eq_true, decide_eq_true_eq, List.all_eq_true] at h'
    obtain ⟨h1, h2⟩ := h'
    have ih : ∀ x ∈ xs, Sv.run tb.G fnsC (k + n) 23 [x, x] [] = .ok (.val (.bl true)) [] := fun x hx => same_refl n x k (h2 x hx)
    rw [u23]
    apply ev_end
    · repeat contradiction
    · rw [same_all]
    · rfl
  | n + 1, .dic _, k, h => by cases h
  | n + 1, .ins _ _, k, h => by cases h
  | n + 1, .scr _, k, h => by cases h
  | n + 1, .cell _, k, h => by cases h
end K03
end
section
set_option linter.all false
set_option maxRecDepth 100000
set_option maxHeartbeats 4000000
namespace K03
open PySem L2 Sv

local macro_rules
  | `(tactic| contradiction) => `(tactic| first
    | ((with_reducible apply gd_fz); first | with_reducible exact fz_val _ | with_reducible exact fz_newL _ | with_reducible exact fz_newD _ | with_reducible exact fz_newI _ _)
    | ((with_reducible apply gd_E); first
      | ((with_reducible apply e_var); rfl) | with_reducible exact e_lit | with_reducible apply e_cmp | with_reducible apply e_call | with_reducible apply e_bi | with_reducible apply e_lc | with_reducible apply e_idx | with_reducible apply e_attr | with_reducible apply e_mt
      | with_reducible apply e_tup | with_reducible apply e_lst | with_reducible apply e_bin | with_reducible apply e_ite | with_reducible apply e_nt | with_reducible apply e_andB | with_reducible apply e_orB | with_reducible apply e_neg | with_reducible apply e_slc | with_reducible apply e_isi | with_reducible apply e_make | with_reducible apply e_lc2 | with_reducible apply e_dc | ((with_reducible apply e_celN); (· repeat contradiction); (· (simp only [List.length_cons, List.length_nil, Nat.zero_add, Nat.reduceAdd]; rfl)); (· (simp only [List.nil_append, List.cons_append]; rfl)))
      | ((with_reducible apply e_callK); (· repeat contradiction); (· first | with_reducible exact kwf0 | with_reducible exact kwf1 | with_reducible exact kwf2 | with_reducible exact kwf3 | with_reducible exact kwf4); (· rfl); (· rfl))
      | with_reducible exact e_glo g_LETTERS
      | with_reducible exact e_glo g_MOST_LETTERS
      | with_reducible exact e_glo g_NUMBER
      | with_reducible exact e_glo g_RECORD
      | with_reducible exact e_glo g_TELLS
      | with_reducible exact e_glo g_FEED
      | with_reducible exact e_glo g_BLANK
      )
    | ((with_reducible apply gd_A); first | with_reducible exact a_nil | with_reducible apply a_cons | with_reducible apply a_star)
    | ((with_reducible apply gd_T); first | with_reducible apply t_tru | with_reducible exact t_nil | with_reducible apply t_nt | with_reducible apply t_or | with_reducible apply t_and)
    | ((with_reducible apply gd_I); first | with_reducible apply i_itr | with_reducible apply i_rngN | with_reducible apply i_enum | with_reducible apply i_zipL | with_reducible apply i_zipT)
    | ((with_reducible apply gd_S); first
      | with_reducible apply s_seq | with_reducible exact s_nil | with_reducible apply s_ret | with_reducible apply s_ife | with_reducible apply s_ex | with_reducible apply s_for | with_reducible apply s_whl | ((with_reducible apply s_augA); (· rfl))
      | with_reducible apply s_asg)
    | ((with_reducible apply gd_asg); (simp only [asgT, setAll, wipeT, List.set_cons_zero, List.set_cons_succ]; rfl))
    | ((with_reducible apply gd_k); first | with_reducible exact k_rt | with_reducible apply k_nx)
    | with_reducible apply fn_out | with_reducible apply o_rt | with_reducible apply o_nx | with_reducible exact leave_eq | with_reducible apply leave0' | with_reducible apply leave_new0 | ((with_reducible apply leave_cell0); rfl)
    | ((with_reducible apply gd_if); first | ((with_reducible apply ite_t); (· first | assumption | with_reducible rfl | (simp [*]; done))) | ((with_reducible apply ite_f); (· first | assumption | with_reducible rfl | (simp [*]; done))))
    | ((with_reducible apply gd_cmp); first | with_reducible apply c_eq | with_reducible apply c_ne | with_reducible apply c_in | with_reducible apply c_ni | with_reducible exact c_lt | with_reducible exact c_le | with_reducible exact c_gt | with_reducible exact c_ge)
    | ((with_reducible apply gd_eq); first | with_reducible exact eq_tS _ _ _ | with_reducible exact eq_str _ _ _ | with_reducible exact eq_int _ _ _ | with_reducible exact eq_bl _ _ _ | with_reducible exact eq_lTS _ _ _ | with_reducible exact eq_tTS _ _ _ | with_reducible exact eq_lS _ _ _)
    | ((with_reducible apply gd_in); first | with_reducible exact in_tS | with_reducible exact in_lS | with_reducible exact in_lTS | with_reducible exact in_tTS | ((with_reducible apply in_cS); rfl))
    | with_reducible exact tr_bl
    | ((with_reducible apply gd_bi); first
      | with_reducible exact b_tupT | with_reducible exact b_tupL | with_reducible exact b_allM | with_reducible exact b_allF2 | with_reducible exact b_anyM | with_reducible exact b_lenT | with_reducible exact b_lenL | ((with_reducible apply b_lenC); rfl) | ((with_reducible apply b_tupC); rfl) | with_reducible exact b_strS | with_reducible apply b_strN | with_reducible exact b_int | with_reducible exact b_intB | with_reducible exact b_abs | with_reducible apply b_list | with_reducible apply b_dict
      | ((with_reducible apply b_sset); (· first | contradiction | (simp only [seqOf, List.append_nil, ← List.map_append]; rfl) | (simp only [seqOf, List.append_nil, ← List.map_append, ← List.map_flatMap]; rfl)); (· first | omega | (simp only [List.length_append, List.length_map]; omega)))
      | ((with_reducible apply b_sort); (· rfl); (· first | omega | (simp only [List.length_append, List.length_map]; omega))))
    | ((with_reducible apply gd_src); first | with_reducible exact sr_T | with_reducible exact sr_L | ((with_reducible apply sr_C); rfl) | with_reducible exact sr_D)
    | ((with_reducible apply gd_seq); first | with_reducible exact sq_T | with_reducible exact sq_L | ((with_reducible apply sq_C); rfl))
    | ((with_reducible apply gd_lc); first
      | ((with_reducible apply lcC_map (turn := turnL _ _ _ C.nil _ _) (τ := tS)); (· rfl); intro _ _) | ((with_reducible apply lcC_filter (τ := tS)); (· rfl); intro _ _)
      | ((with_reducible apply lc_map (turn := turnL _ _ _ C.nil _ _) (τ := T.str)); intro _ _) | ((with_reducible apply lc_filter (τ := T.str)); intro _ _) | ((with_reducible apply lc_map (turn := turnL _ _ _ C.nil _ _) (τ := tS)); intro _ _) | ((with_reducible apply lc_filter (τ := tS)); intro _ _))
    | ((with_reducible apply gd_turn); first
      | ((with_reducible apply turn_all); (· (simp only [asgT, setAll, wipeT, List.set_cons_zero, List.set_cons_succ]; rfl))) | ((with_reducible apply turn_if); (· (simp only [asgT, setAll, wipeT, List.set_cons_zero, List.set_cons_succ]; rfl))))
    | ((with_reducible apply gd_attr); first
      | with_reducible exact attr_fld pn_0_own_names kf_own_names fl_0_own_names
      | with_reducible exact attr_fld pn_0_own_told kf_own_told fl_0_own_told
      | with_reducible exact attr_fld pn_0_own_keysets kf_own_keysets fl_0_own_keysets
      | with_reducible apply attr_prop p_0_names
      | with_reducible apply attr_prop p_0_pairs
      | with_reducible apply attr_prop p_0_text
      | with_reducible apply attr_prop p_0_keysets
      )
    | with_reducible exact ix_dic (getD_map (by first | assumption | solve_by_elim))
    | ((with_reducible apply gd_call); first | with_reducible apply call_nil | with_reducible apply call_pure)
    | ((with_reducible apply gd_pure); first | with_reducible exact pure_tS _ | with_reducible exact pure_lS _ | with_reducible exact pure_lTS _ | with_reducible exact pure_tTS _ | with_reducible exact pure_tapp | with_reducible rfl)
    | with_reducible apply pr_val
    | ((with_reducible apply gd_dc); first | ((with_reducible apply dc_run (τ := T.str)); intro _ _) | ((with_reducible apply dc_run (τ := tS)); intro _ _))
    | ((with_reducible apply gd_turnD); ((with_reducible apply turnD_ok); (· (simp only [asgT, setAll, wipeT, List.set_cons_zero, List.set_cons_succ]; rfl))))
    | with_reducible exact ko_str | with_reducible exact recv_join | with_reducible apply meth_str
    | with_reducible apply mt_jn
    | ((with_reducible apply mt_join); (· (simp only [seqOf, List.append_nil, ← List.map_cons, ← List.map_append]; rfl)))
    | ((with_reducible apply ix_cdic); (· rfl); (· first | with_reducible exact getD_map (by first | assumption | solve_by_elim) | assumption))
    | ((with_reducible apply gd_bin); first | with_reducible apply bi_addL | with_reducible apply bi_addT | with_reducible exact bi_add | with_reducible exact bi_sub)
    | with_reducible apply ix_dic | ((with_reducible apply ix_cel); rfl) | with_reducible apply ix_lst | with_reducible apply ix_tup
    | with_reducible apply meth_cell
    | ((with_reducible apply recv_ext); rfl) | ((with_reducible apply recv_app); rfl) | ((with_reducible apply recv_pop); rfl)
    | ((with_reducible apply mt_ext); (· rfl); (· rfl)) | ((with_reducible apply mt_app); (· rfl))
    | ((with_reducible apply gd_lc2); ((with_reducible apply lc2_run (τ := T.str)); intro _ _ _ _))
    | ((with_reducible apply gd_lcA); first | ((with_reducible apply lcA_map (turn := turnL _ _ _ C.nil _ _) (τ := T.str)); intro _ _) | ((rw [List.append_nil, ← List.map_cons]); (with_reducible apply lcA_map (turn := turnL _ _ _ C.nil _ _) (τ := T.str)); intro _ _))
    | ((with_reducible apply gd_turn2); ((with_reducible apply turn2_ok); (· (simp only [asgT, setAll, wipeT, List.set_cons_zero, List.set_cons_succ]; rfl))))
    | ((with_reducible apply gd_all); (simp only [List.all_cons, List.all_nil, Bool.and_true, Bool.and_eq_true]; (repeat' constructor) <;> contradiction))
    | (intro (_ : _ = true))
    | (intro (_ : Str) (_ : _ ∈ _))
    | (refine (?_ : (_ : Nat) < _); omega)
    | (refine (?_ : (_ : Nat) ≤ _); first | omega | (simp only [List.length_map, List.length_append, List.length_cons, List.length_nil]; omega) | ((try simp only [List.length_map, List.length_append, List.length_cons, List.length_nil]); grind [Ks.tl, Ks.nl, Ks.kl, Ks.kk]))
    | assumption
    | solve_by_elim)
local macro_rules
  | `(tactic| contradiction) => `(tactic| first
    | with_reducible exact ix3_0 | with_reducible exact ix3_1 | with_reducible exact ix3_2
    | ((with_reducible apply s_sub3_0); (· rfl)) | ((with_reducible apply s_sub3_2); (· rfl))
    | with_reducible exact leave1
    | ((with_reducible apply bi_mod); (first | assumption | decide))
    | ((with_reducible apply bi_fdv); (first | assumption | decide))
    | ((with_reducible apply bi_mulL); (first | assumption | decide))
    | ((with_reducible apply bi_mulR); (first | assumption | decide)))
theorem take_ok (k : Nat) (u : Urn) (low : Int) (h1 : 0 < low) (h2 : low < 1073741824) (hu : u.ub 1000000) : Sv.run tb.G fnsC (k + 1) 21 [.cell 0, .int low] [urC u] = .ok (.val (.int (tkV u low))) [urC (tkU u low)] := by
  have q1 : low ≠ 0 := by omega
  have q2 := div_ok h1 h2
  have q3 : (39373 + (u.c + 1)).natAbs < 18446744073709551616 := by have := hu.1; have := hu.2; omega
  have q4 : (((u.b + 48271 * (u.c + 1)) * (39373 + (u.c + 1))).fmod 2147483647 |>.fmod 40009 |> (· + 7)).natAbs < 18446744073709551616 := far_lt u
  rw [u21]
  by_cases h : 0 < u.a
  · have c1 : decide (0 < u.a) = true := decide_eq_true h
    apply ev_end
    · repeat contradiction
    · unfold tkV; rw [if_pos h]
    · unfold tkU; rw [if_pos h]
  · have c1 : decide (0 < u.a) = false := decide_eq_false h
    apply ev_end
    · repeat contradiction
    · unfold tkV; rw [if_neg h]; rfl
    · unfold tkU; rw [if_neg h]
local macro_rules
  | `(tactic| contradiction) => `(tactic| first
    | with_reducible apply leave_urn
    | with_reducible apply call_urn
    | ((with_reducible apply Sv.mt_pop); (· rfl); (· assumption); (· assumption))
    | ((with_reducible apply ix_lst); assumption)
    | ((with_reducible apply gd_run); first | assumption | solve_by_elim))
theorem mixed_ok (k : Nat) (u : Urn) (n : Int) (pool : List Str) (h2 : pool.length < 60) (hu : u.ub n) (hn : n < 900000) : ∃ u' found, Sv.run tb.G fnsC (k + 2) 25 [.cell 0, lS pool] [urC u] = .ok (.val (tS found)) [urC u'] ∧ found.Perm pool ∧ u'.ub (n + pool.length) := by
  obtain ⟨sl', st', hf, u', left, found, o, e2, e3, hp, hl, hb⟩ := for_all (body := bodyF ⟨tb.G, Sv.run tb.G fnsC (k + 1)⟩ (.nm 2) c25_b0) (τ := fun i : Nat => T.int ((i : Nat) : Int))
    (fun d sl st => ∃ u' left found o, sl = [some (.cell 0), some (lS pool), o, some (.cell 1), some (.cell 2)] ∧ st = [urC u', .lst (left.map .str), .lst (found.map .str)] ∧ (found ++ left).Perm pool ∧ found.length = d.length ∧ u'.ub (n + d.length)) (List.range pool.length) []
    [some (.cell 0), some (lS pool), none, some (.cell 1), some (.cell 2)] [urC u, .lst (pool.map .str), .lst []] ⟨u, pool, [], none, rfl, rfl, .refl _, rfl, by simpa using hu⟩ (by
    rintro d a e sl st q ⟨u', left, found, o, e2, e3, hp, hl, hb⟩
    subst e2 e3
    rw [List.nil_append] at q
    have qd : d.length < pool.length := by have := congrArg List.length q; simp at this; omega
    have hpl := hp.length_eq
    rw [List.length_append] at hpl
    have hleft : 0 < left.length := by omega
    have q1 : 0 < (((left.map T.str).length : Nat) : Int) := by rw [List.length_map]; omega
    have q2 : (((left.map T.str).length : Nat) : Int) < 1073741824 := by rw [List.length_map]; omega
    have ht := take_ok k u' _ q1 q2 ⟨hb.1, by have := hb.2; omega⟩
    have d1 := tk_lo (u := u') q1
    have d2 := tk_hi (u := u') q1
    have hj := ixN_in d1 d2
    have hlt : (tkV u' (((left.map T.str).length : Nat) : Int)).toNat < left.length := by rw [List.length_map] at d1 d2 ⊢; omega
    have hx : (left.map T.str)[(tkV u' (((left.map T.str).length : Nat) : Int)).toNat]? = some (.str left[(tkV u' (((left.map T.str).length : Nat) : Int)).toNat]) := by
      rw [List.getElem?_map, List.getElem?_eq_getElem hlt]; rfl
    refine ⟨[some (.cell 0), some (lS pool), some (.int (a : Int)), some (.cell 1), some (.cell 2)],
      [urC (tkU u' (((left.map T.str).length : Nat) : Int)), .lst ((left.eraseIdx (tkV u' (((left.map T.str).length : Nat) : Int)).toNat).map .str), .lst ((found ++ [left[(tkV u' (((left.map T.str).length : Nat) : Int)).toNat]]).map .str)],
      .inl ?_, _, _, _, _, rfl, rfl, ?_, by simp [hl], ?_⟩
    · refine body_ok (by simp only [asgT, List.set_cons_zero, List.set_cons_succ]; rfl) ?_
      apply ev_end
      · repeat contradiction
      · rfl
      · show _ = [_, Cell.lst _, Cell.lst _]; rw [List.map_append, erase_map]; rfl
    · rw [List.append_assoc, List.singleton_append]
      exact ((erase_perm hlt).append_left found).trans hp
    · have := tk_ub (low := (((left.map T.str).length : Nat) : Int)) hb
      rw [List.length_append, List.length_cons, List.length_nil]
      simpa [Int.add_assoc] using this)
  subst e2 e3
  rw [List.nil_append, List.length_range] at hl hb
  have hpl := hp.length_eq
  rw [List.length_append] at hpl
  have : left = [] := List.length_eq_zero_iff.mp (by omega)
  subst this
  rw [List.append_nil] at hp
  refine ⟨u', found, ?_, hp, hb⟩
  rw [u25]
  apply ev_end
  · repeat contradiction
    · rw [List.length_map]; exact hf
    repeat contradiction
  · rfl
  · rfl
end K03
end
section
set_option linter.all false
set_option maxRecDepth 100000
set_option maxHeartbeats 4000000
namespace K03
open PySem L2 Sv

local macro_rules
  | `(tactic| contradiction) => `(tactic| first
    | ((with_reducible apply gd_fz); first | with_reducible exact fz_val _ | with_reducible exact fz_newL _ | with_reducible exact fz_newD _ | with_reducible exact fz_newI _ _)
    | ((with_reducible apply gd_E); first
      | ((with_reducible apply e_var); rfl) | with_reducible exact e_lit | with_reducible apply e_cmp | with_reducible apply e_call | with_reducible apply e_bi | with_reducible apply e_lc | with_reducible apply e_idx | with_reducible apply e_attr | with_reducible apply e_mt
      | with_reducible apply e_tup | with_reducible apply e_lst | with_reducible apply e_bin | with_reducible apply e_ite | with_reducible apply e_nt | with_reducible apply e_andB | with_reducible apply e_orB | with_reducible apply e_neg | with_reducible apply e_slc | with_reducible apply e_isi | with_reducible apply e_make | with_reducible apply e_lc2 | with_reducible apply e_dc | ((with_reducible apply e_celN); (· repeat contradiction); (· (simp only [List.length_cons, List.length_nil, Nat.zero_add, Nat.reduceAdd]; rfl)); (· (simp only [List.nil_append, List.cons_append]; rfl)))
      | ((with_reducible apply e_callK); (· repeat contradiction); (· first | with_reducible exact kwf0 | with_reducible exact kwf1 | with_reducible exact kwf2 | with_reducible exact kwf3 | with_reducible exact kwf4); (· rfl); (· rfl))
      | with_reducible exact e_glo g_LETTERS
      | with_reducible exact e_glo g_MOST_LETTERS
      | with_reducible exact e_glo g_NUMBER
      | with_reducible exact e_glo g_RECORD
      | with_reducible exact e_glo g_TELLS
      | with_reducible exact e_glo g_FEED
      | with_reducible exact e_glo g_BLANK
      )
    | ((with_reducible apply gd_A); first | with_reducible exact a_nil | with_reducible apply a_cons | with_reducible apply a_star)
    | ((with_reducible apply gd_T); first | with_reducible apply t_tru | with_reducible exact t_nil | with_reducible apply t_nt | with_reducible apply t_or | with_reducible apply t_and)
    | ((with_reducible apply gd_I); first | with_reducible apply i_itr | with_reducible apply i_rngN | with_reducible apply i_enum | with_reducible apply i_zipL | with_reducible apply i_zipT)
    | ((with_reducible apply gd_S); first
      | with_reducible apply s_seq | with_reducible exact s_nil | with_reducible apply s_ret | with_reducible apply s_ife | with_reducible apply s_ex | with_reducible apply s_for | with_reducible apply s_whl | ((with_reducible apply s_augA); (· rfl))
      | with_reducible apply s_asg)
    | ((with_reducible apply gd_asg); (simp only [asgT, setAll, wipeT, List.set_cons_zero, List.set_cons_succ]; rfl))
    | ((with_reducible apply gd_k); first | with_reducible exact k_rt | with_reducible apply k_nx)
    | with_reducible apply fn_out | with_reducible apply o_rt | with_reducible apply o_nx | with_reducible exact leave_eq | with_reducible apply leave0' | with_reducible apply leave_new0 | ((with_reducible apply leave_cell0); rfl)
    | ((with_reducible apply gd_if); first | ((with_reducible apply ite_t); (· first | assumption | with_reducible rfl | (simp [*]; done))) | ((with_reducible apply ite_f); (· first | assumption | with_reducible rfl | (simp [*]; done))))
    | ((with_reducible apply gd_cmp); first | with_reducible apply c_eq | with_reducible apply c_ne | with_reducible apply c_in | with_reducible apply c_ni | with_reducible exact c_lt | with_reducible exact c_le | with_reducible exact c_gt | with_reducible exact c_ge)
    | ((with_reducible apply gd_eq); first | with_reducible exact eq_tS _ _ _ | with_reducible exact eq_str _ _ _ | with_reducible exact eq_int _ _ _ | with_reducible exact eq_bl _ _ _ | with_reducible exact eq_lTS _ _ _ | with_reducible exact eq_tTS _ _ _ | with_reducible exact eq_lS _ _ _)
    | ((with_reducible apply gd_in); first | with_reducible exact in_tS | with_reducible exact in_lS | with_reducible exact in_lTS | with_reducible exact in_tTS | ((with_reducible apply in_cS); rfl))
    | with_reducible exact tr_bl
    | ((with_reducible apply gd_bi); first
      | with_reducible exact b_tupT | with_reducible exact b_tupL | with_reducible exact b_allM | with_reducible exact b_allF2 | with_reducible exact b_anyM | with_reducible exact b_lenT | with_reducible exact b_lenL | ((with_reducible apply b_lenC); rfl) | ((with_reducible apply b_tupC); rfl) | with_reducible exact b_strS | with_reducible apply b_strN | with_reducible exact b_int | with_reducible exact b_intB | with_reducible exact b_abs | with_reducible apply b_list | with_reducible apply b_dict
      | ((with_reducible apply b_sset); (· first | contradiction | (simp only [seqOf, List.append_nil, ← List.map_append]; rfl) | (simp only [seqOf, List.append_nil, ← List.map_append, ← List.map_flatMap]; rfl)); (· first | omega | (simp only [List.length_append, List.length_map]; omega)))
      | ((with_reducible apply b_sort); (· rfl); (· first | omega | (simp only [List.length_append, List.length_map]; omega))))
    | ((with_reducible apply gd_src); first | with_reducible exact sr_T | with_reducible exact sr_L | ((with_reducible apply sr_C); rfl) | with_reducible exact sr_D)
    | ((with_reducible apply gd_seq); first | with_reducible exact sq_T | with_reducible exact sq_L | ((with_reducible apply sq_C); rfl))
    | ((with_reducible apply gd_lc); first
      | ((with_reducible apply lcC_map (turn := turnL _ _ _ C.nil _ _) (τ := tS)); (· rfl); intro _ _) | ((with_reducible apply lcC_filter (τ := tS)); (· rfl); intro _ _)
      | ((with_reducible apply lc_map (turn := turnL _ _ _ C.nil _ _) (τ := T.str)); intro _ _) | ((with_reducible apply lc_filter (τ := T.str)); intro _ _) | ((with_reducible apply lc_map (turn := turnL _ _ _ C.nil _ _) (τ := tS)); intro _ _) | ((with_reducible apply lc_filter (τ := tS)); intro _ _))
    | ((with_reducible apply gd_turn); first
      | ((with_reducible apply turn_all); (· (simp only [asgT, setAll, wipeT, List.set_cons_zero, List.set_cons_succ]; rfl))) | ((with_reducible apply turn_if); (· (simp only [asgT, setAll, wipeT, List.set_cons_zero, List.set_cons_succ]; rfl))))
    | ((with_reducible apply gd_attr); first
      | with_reducible exact attr_fld pn_0_own_names kf_own_names fl_0_own_names
      | with_reducible exact attr_fld pn_0_own_told kf_own_told fl_0_own_told
      | with_reducible exact attr_fld pn_0_own_keysets kf_own_keysets fl_0_own_keysets
      | with_reducible apply attr_prop p_0_names
      | with_reducible apply attr_prop p_0_pairs
      | with_reducible apply attr_prop p_0_text
      | with_reducible apply attr_prop p_0_keysets
      )
    | with_reducible exact ix_dic (getD_map (by first | assumption | solve_by_elim))
    | ((with_reducible apply gd_call); first | with_reducible apply call_nil | with_reducible apply call_pure)
    | ((with_reducible apply gd_pure); first | with_reducible exact pure_tS _ | with_reducible exact pure_lS _ | with_reducible exact pure_lTS _ | with_reducible exact pure_tTS _ | with_reducible exact pure_tapp | with_reducible rfl)
    | with_reducible apply pr_val
    | ((with_reducible apply gd_dc); first | ((with_reducible apply dc_run (τ := T.str)); intro _ _) | ((with_reducible apply dc_run (τ := tS)); intro _ _))
    | ((with_reducible apply gd_turnD); ((with_reducible apply turnD_ok); (· (simp only [asgT, setAll, wipeT, List.set_cons_zero, List.set_cons_succ]; rfl))))
    | with_reducible exact ko_str | with_reducible exact recv_join | with_reducible apply meth_str
    | with_reducible apply mt_jn
    | ((with_reducible apply mt_join); (· (simp only [seqOf, List.append_nil, ← List.map_cons, ← List.map_append]; rfl)))
    | ((with_reducible apply ix_cdic); (· rfl); (· first | with_reducible exact getD_map (by first | assumption | solve_by_elim) | assumption))
    | ((with_reducible apply gd_bin); first | with_reducible apply bi_addL | with_reducible apply bi_addT | with_reducible exact bi_add | with_reducible exact bi_sub)
    | with_reducible apply ix_dic | ((with_reducible apply ix_cel); rfl) | with_reducible apply ix_lst | with_reducible apply ix_tup
    | with_reducible apply meth_cell
    | ((with_reducible apply recv_ext); rfl) | ((with_reducible apply recv_app); rfl) | ((with_reducible apply recv_pop); rfl)
    | ((with_reducible apply mt_ext); (· rfl); (· rfl)) | ((with_reducible apply mt_app); (· rfl))
    | ((with_reducible apply gd_lc2); ((with_reducible apply lc2_run (τ := T.str)); intro _ _ _ _))
    | ((with_reducible apply gd_lcA); first | ((with_reducible apply lcA_map (turn := turnL _ _ _ C.nil _ _) (τ := T.str)); intro _ _) | ((rw [List.append_nil, ← List.map_cons]); (with_reducible apply lcA_map (turn := turnL _ _ _ C.nil _ _) (τ := T.str)); intro _ _))
    | ((with_reducible apply gd_turn2); ((with_reducible apply turn2_ok); (· (simp only [asgT, setAll, wipeT, List.set_cons_zero, List.set_cons_succ]; rfl))))
    | ((with_reducible apply gd_all); (simp only [List.all_cons, List.all_nil, Bool.and_true, Bool.and_eq_true]; (repeat' constructor) <;> contradiction))
    | (intro (_ : _ = true))
    | (intro (_ : Str) (_ : _ ∈ _))
    | (refine (?_ : (_ : Nat) < _); omega)
    | (refine (?_ : (_ : Nat) ≤ _); first | omega | (simp only [List.length_map, List.length_append, List.length_cons, List.length_nil]; omega) | ((try simp only [List.length_map, List.length_append, List.length_cons, List.length_nil]); grind [Ks.tl, Ks.nl, Ks.kl, Ks.kk]))
    | assumption
    | solve_by_elim)
local macro_rules
  | `(tactic| contradiction) => `(tactic| first
    | with_reducible apply call_urn
    | with_reducible apply leave_urn
    | with_reducible exact pt_n
    | with_reducible exact pt_i
    | with_reducible apply i_enumM
    | ((with_reducible apply slc_toM); (· assumption); (· assumption))
    | ((with_reducible apply slc_fromM); (· assumption))
    | ((with_reducible apply t_andF); (· repeat contradiction); (· assumption))
    | ((with_reducible apply t_andT); (· repeat contradiction); (· assumption))
    | ((with_reducible apply gd_run); first | assumption | solve_by_elim))
theorem book_row (k : Nat) (l : List Str) (most sv : Int) (pl : T) (x : Str) (i : Nat) (o8 : Option T) (C Q : List (Str × Str)) (hq : Q.Sublist C) (n : Int) (u : Urn) (hu : u.ub (n + C.length)) (hn : n < 900000) (hc : C.length ≤ 16) (hl : l.length ≤ 4) :
    ∃ (u' : Urn) (Q' : List (Str × Str)) (o8' : Option T), forFix (bodyF ⟨tb.G, Sv.run tb.G fnsC (k + 1)⟩ (.nm 8) c26_b0) ((l.drop (i + 1)).map .str) [some (.cell 0), some (.int most), some pl, some (lS l), some (.cell 1), some (.int sv), some (.int (i : Int)), some (.str x), o8] [urC u, .lst ((Q.map (ori (decide (sv = 1)))).map pT)] =
      .ok (.nx, [some (.cell 0), some (.int most), some pl, some (lS l), some (.cell 1), some (.int sv), some (.int (i : Int)), some (.str x), o8']) [urC u', .lst ((Q'.map (ori (decide (sv = 1)))).map pT)] ∧
      Q'.Sublist (C ++ rowC l (x, i)) ∧ u'.ub (n + (C ++ rowC l (x, i)).length) := by
  obtain ⟨sl', st', hf, u', Q', o8', e2, e3, hs, hb⟩ := for_all (body := bodyF ⟨tb.G, Sv.run tb.G fnsC (k + 1)⟩ (.nm 8) c26_b0) (τ := T.str)
    (fun d sl st => ∃ (u' : Urn) (Q' : List (Str × Str)) (o8' : Option T), sl = [some (.cell 0), some (.int most), some pl, some (lS l), some (.cell 1), some (.int sv), some (.int (i : Int)), some (.str x), o8'] ∧ st = [urC u', .lst ((Q'.map (ori (decide (sv = 1)))).map pT)] ∧
      Q'.Sublist (C ++ d.map fun y => (x, y)) ∧ u'.ub (n + (C ++ d.map fun y => (x, y)).length)) (l.drop (i + 1)) []
    [some (.cell 0), some (.int most), some pl, some (lS l), some (.cell 1), some (.int sv), some (.int (i : Int)), some (.str x), o8] [urC u, .lst ((Q.map (ori (decide (sv = 1)))).map pT)] ⟨u, Q, o8, rfl, rfl, by simpa using hq, by simpa using hu⟩ (by
    rintro d y e sl st q ⟨u', Q', o8', e2, e3, hs, hb⟩
    subst e2 e3
    rw [List.nil_append] at q
    have qd : d.length < 4 := by have := congrArg List.length q; simp at this; omega
    have hql := hs.length_le
    rw [List.length_append, List.length_map] at hql
    have hbl : u'.ub 1000000 := ⟨hb.1, by have := hb.2; rw [List.length_append, List.length_map] at this; omega⟩
    have ht := take_ok k u' 4 (by decide) (by decide) hbl
    have e1 : (d ++ [y]).map (fun y => (x, y)) = d.map (fun y => (x, y)) ++ [(x, y)] := by simp
    have hskip : Q'.Sublist (C ++ (d ++ [y]).map fun y => (x, y)) := by
      rw [e1, ← List.append_assoc]
      exact hs.trans (List.sublist_append_left _ _)
    have hput : (Q' ++ [(x, y)]).Sublist (C ++ (d ++ [y]).map fun y => (x, y)) := by
      rw [e1, ← List.append_assoc]
      exact hs.append (List.Sublist.refl _)
    have elen : ((C ++ (d ++ [y]).map fun y => (x, y)).length : Int) = (C ++ d.map fun y => (x, y)).length + 1 := by simp; omega
    have hb1 : (tkU u' 4).ub (n + (C ++ (d ++ [y]).map fun y => (x, y)).length) := by
      have := tk_ub (low := 4) hb
      rw [elen, ← Int.add_assoc]; exact this
    have hb0 : u'.ub (n + (C ++ (d ++ [y]).map fun y => (x, y)).length) := by
      refine ⟨hb.1, ?_⟩
      have := hb.2
      rw [elen]; omega
    by_cases h1 : 0 < sv
    · have c1 : decide (0 < sv) = true := decide_eq_true h1
      by_cases h2 : tkV u' 4 = 0
      · have c2 : decide (tkV u' 4 = 0) = true := decide_eq_true h2
        refine ⟨[some (.cell 0), some (.int most), some pl, some (lS l), some (.cell 1), some (.int sv), some (.int (i : Int)), some (.str x), some (.str y)], [urC (tkU u' 4), .lst (((Q' ++ [(x, y)]).map (ori (decide (sv = 1)))).map pT)], .inl ?_, _, _, _, rfl, rfl, hput, hb1⟩
        refine body_ok (by simp only [asgT, List.set_cons_zero, List.set_cons_succ]; rfl) ?_
        by_cases h3 : sv = 1
        · have c3 : decide (sv = 1) = true := decide_eq_true h3
          apply ev_end
          · repeat contradiction
          · rfl
          · rw [c3]; simp [ori]
        · have c3 : decide (sv = 1) = false := decide_eq_false h3
          apply ev_end
          · repeat contradiction
          · rfl
          · rw [c3]; simp [ori]
      · have c2 : decide (tkV u' 4 = 0) = false := decide_eq_false h2
        refine ⟨[some (.cell 0), some (.int most), some pl, some (lS l), some (.cell 1), some (.int sv), some (.int (i : Int)), some (.str x), some (.str y)], [urC (tkU u' 4), .lst ((Q'.map (ori (decide (sv = 1)))).map pT)], .inl ?_, _, _, _, rfl, rfl, hskip, hb1⟩
        refine body_ok (by simp only [asgT, List.set_cons_zero, List.set_cons_succ]; rfl) ?_
        apply ev_end
        · repeat contradiction
        · rfl
        · rfl
    · have c1 : decide (0 < sv) = false := decide_eq_false h1
      refine ⟨[some (.cell 0), some (.int most), some pl, some (lS l), some (.cell 1), some (.int sv), some (.int (i : Int)), some (.str x), some (.str y)], [urC u', .lst ((Q'.map (ori (decide (sv = 1)))).map pT)], .inl ?_, _, _, _, rfl, rfl, hskip, hb0⟩
      refine body_ok (by simp only [asgT, List.set_cons_zero, List.set_cons_succ]; rfl) ?_
      apply ev_end
      · repeat contradiction
      · rfl
      · rfl)
  subst e2 e3
  exact ⟨u', Q', o8', hf, hs, hb⟩
theorem pure_bkT (names : List Str) (pairs : List (Str × Str)) : pureB (bkT names pairs) = true := by
  show (clB 29 (tS names) && (clB 29 (.tup (pairs.map pT)) && true)) = true
  have h1 : clB 29 (tS names) = true := cl_tS 27 _
  have h2 : clB 29 (.tup (pairs.map pT)) = true := by
    show (pairs.map pT).all (clB 28) = true
    rw [List.all_map, List.all_eq_true]
    exact fun _ _ => rfl
  rw [h1, h2]; rfl
local macro_rules
  | `(tactic| contradiction) => `(tactic| first
    | with_reducible exact pure_bkT _ _)
theorem book_ok (k : Nat) (u : Urn) (n : Int) (hu : u.ub n) (hn : n < 800000) : ∃ (names : List Str) (pairs : List (Str × Str)) (u' : Urn), Bk names pairs ∧ Sv.run tb.G fnsC (k + 3) 26 [.cell 0, .int 4] [urC u] = .ok (.val (bkT names pairs)) [urC u'] ∧ u'.ub (n + 30) := by
  obtain ⟨u1, found, hmx, hp, hu1⟩ := mixed_ok k u n poolB (by decide) hu (by omega)
  have hm : Sv.run tb.G fnsC (k + 2) 25 [.cell 0, .lst [.str "a", .str "city", .str "item", .str "lot", .str "shop", .str "user", .str "zzzzzzzz"]] [urC u] = .ok (.val (tS found)) [urC u1] := hmx
  have hu1' : u1.ub (n + 7) := hu1
  have hfl : found.length = 7 := hp.length_eq
  have ht1 := take_ok (k + 1) u1 4 (by decide) (by decide) ⟨hu1'.1, by have := hu1'.2; omega⟩
  have d1 := tk_lo (u := u1) (low := 4) (by decide)
  have d2 := tk_hi (u := u1) (low := 4) (by decide)
  have h0 : 0 ≤ 1 + tkV u1 4 := by omega
  have h1 : 1 + tkV u1 4 ≤ found.length := by omega
  have hu2 : (tkU u1 4).ub (n + 8) := by have := tk_ub (low := 4) hu1'; rw [Int.add_assoc] at this; exact this
  have ht2 := take_ok (k + 1) (tkU u1 4) 3 (by decide) (by decide) ⟨hu2.1, by have := hu2.2; omega⟩
  have hu3 : (tkU (tkU u1 4) 3).ub (n + 9) := by have := tk_ub (low := 3) hu2; rw [Int.add_assoc] at this; exact this
  obtain ⟨f1, f2, f3, f4⟩ := flats_ok hp (1 + tkV u1 4).toNat (by omega)
  have htl : (found.take (1 + tkV u1 4).toNat).length ≤ 7 := by rw [List.length_take]; omega
  have hcl := cands_len f2
  obtain ⟨sl', st', hf, u', Q, o6, o7, o8, e2, e3, hs, hb⟩ := for_all (body := bodyF ⟨tb.G, Sv.run tb.G fnsC (k + 2)⟩ (.tp [6, 7]) c26_b1) (τ := fun p : Str × Nat => .tup [.int ((p.2 : Nat) : Int), .str p.1])
    (fun d sl st => ∃ (u' : Urn) (Q : List (Str × Str)) (o6 o7 o8 : Option T), sl = [some (.cell 0), some (.int 4), some (lS found), some (lS (sortS (found.take (1 + tkV u1 4).toNat))), some (.cell 1), some (.int (tkV (tkU u1 4) 3)), o6, o7, o8] ∧
      st = [urC u', .lst ((Q.map (ori (decide (tkV (tkU u1 4) 3 = 1)))).map pT)] ∧ Q.Sublist (d.flatMap (rowC (sortS (found.take (1 + tkV u1 4).toNat)))) ∧ u'.ub ((n + 9) + (d.flatMap (rowC (sortS (found.take (1 + tkV u1 4).toNat)))).length)) (sortS (found.take (1 + tkV u1 4).toNat)).zipIdx []
    [some (.cell 0), some (.int 4), some (lS found), some (lS (sortS (found.take (1 + tkV u1 4).toNat))), some (.cell 1), some (.int (tkV (tkU u1 4) 3)), none, none, none] [urC (tkU (tkU u1 4) 3), .lst []] ⟨_, [], none, none, none, rfl, rfl, by simp, by simpa using hu3⟩ (by
    rintro d ⟨x, i⟩ e sl st q ⟨u', Q, o6, o7, o8, e2, e3, hs, hb⟩
    subst e2 e3
    rw [List.nil_append] at q
    have hmem : (x, i) ∈ (sortS (found.take (1 + tkV u1 4).toNat)).zipIdx := by rw [q]; simp
    have hi : i + 1 ≤ (sortS (found.take (1 + tkV u1 4).toNat)).length := (List.getElem?_eq_some_iff.mp (List.mk_mem_zipIdx_iff_getElem?.mp hmem)).1
    have hcd : (d.flatMap (rowC (sortS (found.take (1 + tkV u1 4).toNat)))).length ≤ 16 := by
      refine Nat.le_trans ?_ hcl
      unfold cands
      rw [q, List.flatMap_append, List.length_append]
      omega
    obtain ⟨u2, Q2, o8', hr, hs2, hb2⟩ := book_row (k + 1) (sortS (found.take (1 + tkV u1 4).toNat)) 4 (tkV (tkU u1 4) 3) (lS found) x i o8 _ Q hs (n + 9) u' hb (by omega) hcd f2
    refine ⟨[some (.cell 0), some (.int 4), some (lS found), some (lS (sortS (found.take (1 + tkV u1 4).toNat))), some (.cell 1), some (.int (tkV (tkU u1 4) 3)), some (.int (i : Int)), some (.str x), o8'],
      [urC u2, .lst ((Q2.map (ori (decide (tkV (tkU u1 4) 3 = 1)))).map pT)], .inl ?_, u2, Q2, _, _, _, rfl, rfl, ?_, ?_⟩
    · refine body_ok (by simp only [asgT, setAll, List.set_cons_zero, List.set_cons_succ]; rfl) ?_
      apply ev_end
      · repeat contradiction
      · rfl
      · rfl
    · rw [List.flatMap_append]; simpa using hs2
    · rw [List.flatMap_append]; simpa using hb2)
  subst e2 e3
  rw [List.nil_append] at hs hb
  have hbk := bk_of (decide (tkV (tkU u1 4) 3 = 1)) f1 f2 f3 f4 hs
  refine ⟨_, _, u', hbk, ?_, ⟨hb.1, ?_⟩⟩
  · rw [u26]
    apply ev_end
    · repeat contradiction
    · rfl
    · rfl
  · have h7 := hb.2
    unfold cands at hcl
    omega
end K03
end
section
set_option linter.all false
set_option maxRecDepth 100000
set_option maxHeartbeats 4000000
namespace K03
open PySem L2 Sv

local macro_rules
  | `(tactic| contradiction) => `(tactic| first
    | ((with_reducible apply gd_fz); first | with_reducible exact fz_val _ | with_reducible exact fz_newL _ | with_reducible exact fz_newD _ | with_reducible exact fz_newI _ _)
    | ((with_reducible apply gd_E); first
      | ((with_reducible apply e_var); rfl) | with_reducible exact e_lit | with_reducible apply e_cmp | with_reducible apply e_call | with_reducible apply e_bi | with_reducible apply e_lc | with_reducible apply e_idx | with_reducible apply e_attr | with_reducible apply e_mt
      | with_reducible apply e_tup | with_reducible apply e_lst | with_reducible apply e_bin | with_reducible apply e_ite | with_reducible apply e_nt | with_reducible apply e_andB | with_reducible apply e_orB | with_reducible apply e_neg | with_reducible apply e_slc | with_reducible apply e_isi | with_reducible apply e_make | with_reducible apply e_lc2 | with_reducible apply e_dc | ((with_reducible apply e_celN); (· repeat contradiction); (· (simp only [List.length_cons, List.length_nil, Nat.zero_add, Nat.reduceAdd]; rfl)); (· (simp only [List.nil_append, List.cons_append]; rfl)))
      | ((with_reducible apply e_callK); (· repeat contradiction); (· first | with_reducible exact kwf0 | with_reducible exact kwf1 | with_reducible exact kwf2 | with_reducible exact kwf3 | with_reducible exact kwf4); (· rfl); (· rfl))
      | with_reducible exact e_glo g_LETTERS
      | with_reducible exact e_glo g_MOST_LETTERS
      | with_reducible exact e_glo g_NUMBER
      | with_reducible exact e_glo g_RECORD
      | with_reducible exact e_glo g_TELLS
      | with_reducible exact e_glo g_FEED
      | with_reducible exact e_glo g_BLANK
      )
    | ((with_reducible apply gd_A); first | with_reducible exact a_nil | with_reducible apply a_cons | with_reducible apply a_star)
    | ((with_reducible apply gd_T); first | with_reducible apply t_tru | with_reducible exact t_nil | with_reducible apply t_nt | with_reducible apply t_or | with_reducible apply t_and)
    | ((with_reducible apply gd_I); first | with_reducible apply i_itr | with_reducible apply i_rngN | with_reducible apply i_enum | with_reducible apply i_zipL | with_reducible apply i_zipT)
    | ((with_reducible apply gd_S); first
      | with_reducible apply s_seq | with_reducible exact s_nil | with_reducible apply s_ret | with_reducible apply s_ife | with_reducible apply s_ex | with_reducible apply s_for | with_reducible apply s_whl | ((with_reducible apply s_augA); (· rfl))
      | with_reducible apply s_asg)
    | ((with_reducible apply gd_asg); (simp only [asgT, setAll, wipeT, List.set_cons_zero, List.set_cons_succ]; rfl))
    | ((with_reducible apply gd_k); first | with_reducible exact k_rt | with_reducible apply k_nx)
    | with_reducible apply fn_out | with_reducible apply o_rt | with_reducible apply o_nx | with_reducible exact leave_eq | with_reducible apply leave0' | with_reducible apply leave_new0 | ((with_reducible apply leave_cell0); rfl)
    | ((with_reducible apply gd_if); first | ((with_reducible apply ite_t); (· first | assumption | with_reducible rfl | (simp [*]; done))) | ((with_reducible apply ite_f); (· first | assumption | with_reducible rfl | (simp [*]; done))))
    | ((with_reducible apply gd_cmp); first | with_reducible apply c_eq | with_reducible apply c_ne | with_reducible apply c_in | with_reducible apply c_ni | with_reducible exact c_lt | with_reducible exact c_le | with_reducible exact c_gt | with_reducible exact c_ge)
    | ((with_reducible apply gd_eq); first | with_reducible exact eq_tS _ _ _ | with_reducible exact eq_str _ _ _ | with_reducible exact eq_int _ _ _ | with_reducible exact eq_bl _ _ _ | with_reducible exact eq_lTS _ _ _ | with_reducible exact eq_tTS _ _ _ | with_reducible exact eq_lS _ _ _)
    | ((with_reducible apply gd_in); first | with_reducible exact in_tS | with_reducible exact in_lS | with_reducible exact in_lTS | with_reducible exact in_tTS | ((with_reducible apply in_cS); rfl))
    | with_reducible exact tr_bl
    | ((with_reducible apply gd_bi); first
      | with_reducible exact b_tupT | with_reducible exact b_tupL | with_reducible exact b_allM | with_reducible exact b_allF2 | with_reducible exact b_anyM | with_reducible exact b_lenT | with_reducible exact b_lenL | ((with_reducible apply b_lenC); rfl) | ((with_reducible apply b_tupC); rfl) | with_reducible exact b_strS | with_reducible apply b_strN | with_reducible exact b_int | with_reducible exact b_intB | with_reducible exact b_abs | with_reducible apply b_list | with_reducible apply b_dict
      | ((with_reducible apply b_sset); (· first | contradiction | (simp only [seqOf, List.append_nil, ← List.map_append]; rfl) | (simp only [seqOf, List.append_nil, ← List.map_append, ← List.map_flatMap]; rfl)); (· first | omega | (simp only [List.length_append, List.length_map]; omega)))
      | ((with_reducible apply b_sort); (· rfl); (· first | omega | (simp only [List.length_append, List.length_map]; omega))))
    | ((with_reducible apply gd_src); first | with_reducible exact sr_T | with_reducible exact sr_L | ((with_reducible apply sr_C); rfl) | with_reducible exact sr_D)
    | ((with_reducible apply gd_seq); first | with_reducible exact sq_T | with_reducible exact sq_L | ((with_reducible apply sq_C); rfl))
    | ((with_reducible apply gd_lc); first
      | ((with_reducible apply lcC_map (turn := turnL _ _ _ C.nil _ _) (τ := tS)); (· rfl); intro _ _) | ((with_reducible apply lcC_filter (τ := tS)); (· rfl); intro _ _)
      | ((with_reducible apply lc_map (turn := turnL _ _ _ C.nil _ _) (τ := T.str)); intro _ _) | ((with_reducible apply lc_filter (τ := T.str)); intro _ _) | ((with_reducible apply lc_map (turn := turnL _ _ _ C.nil _ _) (τ := tS)); intro _ _) | ((with_reducible apply lc_filter (τ := tS)); intro _ _))
    | ((with_reducible apply gd_turn); first
      | ((with_reducible apply turn_all); (· (simp only [asgT, setAll, wipeT, List.set_cons_zero, List.set_cons_succ]; rfl))) | ((with_reducible apply turn_if); (· (simp only [asgT, setAll, wipeT, List.set_cons_zero, List.set_cons_succ]; rfl))))
    | ((with_reducible apply gd_attr); first
      | with_reducible exact attr_fld pn_0_own_names kf_own_names fl_0_own_names
      | with_reducible exact attr_fld pn_0_own_told kf_own_told fl_0_own_told
      | with_reducible exact attr_fld pn_0_own_keysets kf_own_keysets fl_0_own_keysets
      | with_reducible apply attr_prop p_0_names
      | with_reducible apply attr_prop p_0_pairs
      | with_reducible apply attr_prop p_0_text
      | with_reducible apply attr_prop p_0_keysets
      )
    | with_reducible exact ix_dic (getD_map (by first | assumption | solve_by_elim))
    | ((with_reducible apply gd_call); first | with_reducible apply call_nil | with_reducible apply call_pure)
    | ((with_reducible apply gd_pure); first | with_reducible exact pure_tS _ | with_reducible exact pure_lS _ | with_reducible exact pure_lTS _ | with_reducible exact pure_tTS _ | with_reducible exact pure_tapp | with_reducible rfl)
    | with_reducible apply pr_val
    | ((with_reducible apply gd_dc); first | ((with_reducible apply dc_run (τ := T.str)); intro _ _) | ((with_reducible apply dc_run (τ := tS)); intro _ _))
    | ((with_reducible apply gd_turnD); ((with_reducible apply turnD_ok); (· (simp only [asgT, setAll, wipeT, List.set_cons_zero, List.set_cons_succ]; rfl))))
    | with_reducible exact ko_str | with_reducible exact recv_join | with_reducible apply meth_str
    | with_reducible apply mt_jn
    | ((with_reducible apply mt_join); (· (simp only [seqOf, List.append_nil, ← List.map_cons, ← List.map_append]; rfl)))
    | ((with_reducible apply ix_cdic); (· rfl); (· first | with_reducible exact getD_map (by first | assumption | solve_by_elim) | assumption))
    | ((with_reducible apply gd_bin); first | with_reducible apply bi_addL | with_reducible apply bi_addT | with_reducible exact bi_add | with_reducible exact bi_sub)
    | with_reducible apply ix_dic | ((with_reducible apply ix_cel); rfl) | with_reducible apply ix_lst | with_reducible apply ix_tup
    | with_reducible apply meth_cell
    | ((with_reducible apply recv_ext); rfl) | ((with_reducible apply recv_app); rfl) | ((with_reducible apply recv_pop); rfl)
    | ((with_reducible apply mt_ext); (· rfl); (· rfl)) | ((with_reducible apply mt_app); (· rfl))
    | ((with_reducible apply gd_lc2); ((with_reducible apply lc2_run (τ := T.str)); intro _ _ _ _))
    | ((with_reducible apply gd_lcA); first | ((with_reducible apply lcA_map (turn := turnL _ _ _ C.nil _ _) (τ := T.str)); intro _ _) | ((rw [List.append_nil, ← List.map_cons]); (with_reducible apply lcA_map (turn := turnL _ _ _ C.nil _ _) (τ := T.str)); intro _ _))
    | ((with_reducible apply gd_turn2); ((with_reducible apply turn2_ok); (· (simp only [asgT, setAll, wipeT, List.set_cons_zero, List.set_cons_succ]; rfl))))
    | ((with_reducible apply gd_all); (simp only [List.all_cons, List.all_nil, Bool.and_true, Bool.and_eq_true]; (repeat' constructor) <;> contradiction))
    | (intro (_ : _ = true))
    | (intro (_ : Str) (_ : _ ∈ _))
    | (refine (?_ : (_ : Nat) < _); omega)
    | (refine (?_ : (_ : Nat) ≤ _); first | omega | (simp only [List.length_map, List.length_append, List.length_cons, List.length_nil]; omega) | ((try simp only [List.length_map, List.length_append, List.length_cons, List.length_nil]); grind [Ks.tl, Ks.nl, Ks.kl, Ks.kk]))
    | assumption
    | solve_by_elim)
local macro_rules
  | `(tactic| contradiction) => `(tactic| first
    | with_reducible exact slc_scr
    | with_reducible exact pt_n
    | with_reducible exact pt_i
    | with_reducible apply i_enumM
    | ((with_reducible apply bi_mod); (first | assumption | decide))
    | ((with_reducible apply bi_mulL); (first | assumption | decide))
    | ((with_reducible apply bi_mulR); (first | assumption | decide))
    | ((with_reducible apply bi_pow); decide)
    | ((with_reducible apply ix_lst); assumption)
    | ((with_reducible apply ix_cel); (· rfl); (· assumption)))
theorem box_ok (k : Nat) (cs : List Int) (i : Nat) (hi : i < cs.length) : Sv.run tb.G fnsC (k + 1) 20 [.lst (cs.map .int), .int (i : Int)] [] = .ok (.new (.lst [.int (boxA (cs.getD i 0)), .int (boxB (cs.getD i 0) i), .int 0])) [] := by
  have c1 : decide ((i : Int) < (((cs.map T.int).length : Nat) : Int)) = true := by rw [List.length_map]; exact decide_eq_true (by omega)
  have ha : atI (cs.map T.int) (i : Int) = some (.int (cs.getD i 0)) := at_in (τ := T.int) 0 (by omega) (by omega)
  have q1 : ∀ b : Bool, (if b = true then (1 : Int) else 0).natAbs < 18446744073709551616 := fun b => by cases b <;> decide
  rw [u20]
  apply ev_end
  · repeat contradiction
    · apply bi_mulR; exact q1 _
    repeat contradiction
  · rfl
  · rfl
theorem cells_loop (k : Nat) (ns r : List Int) (t : Nat) (ht : 0 < t) (hr : r.length ≤ 100) (cs : List Int) (hcs : cs.length = t) : ∃ (cs' : List Int) (o3 o4 o5 : Option T), cs'.length = t ∧ forFix (bodyF ⟨tb.G, Sv.run tb.G fnsC k⟩ (.tp [3, 4]) c22_b0) (r.zipIdx.map fun p => .tup [.int ((p.2 : Nat) : Int), .int p.1]) [some (.scr ns), some (.int (t : Int)), some (.cell 0), none, none, none] [.lst (cs.map .int)] =
    .ok (.nx, [some (.scr ns), some (.int (t : Int)), some (.cell 0), o3, o4, o5]) [.lst (cs'.map .int)] := by
  obtain ⟨sl', st', hf, cs', o3, o4, o5, hl, e2, e3⟩ := for_all (body := bodyF ⟨tb.G, Sv.run tb.G fnsC k⟩ (.tp [3, 4]) c22_b0) (τ := fun p : Int × Nat => .tup [.int ((p.2 : Nat) : Int), .int p.1])
    (fun d sl st => ∃ (cs' : List Int) (o3 o4 o5 : Option T), cs'.length = t ∧ sl = [some (.scr ns), some (.int (t : Int)), some (.cell 0), o3, o4, o5] ∧ st = [.lst (cs'.map .int)]) r.zipIdx []
    [some (.scr ns), some (.int (t : Int)), some (.cell 0), none, none, none] [.lst (cs.map .int)] ⟨cs, none, none, none, hcs, rfl, rfl⟩ (by
    rintro d ⟨x, i⟩ e sl st qq ⟨cs', o3, o4, o5, hl, e2, e3⟩
    subst e2 e3
    rw [List.nil_append] at qq
    have hmem : (x, i) ∈ r.zipIdx := by rw [qq]; simp
    have hi : i < r.length := (List.getElem?_eq_some_iff.mp (List.mk_mem_zipIdx_iff_getElem?.mp hmem)).1
    have q1 : ((i : Int) + 2).natAbs < 18446744073709551616 := by omega
    have q2 : (t : Int) ≠ 0 := by omega
    obtain ⟨m1, m2⟩ := fmod_in (i := (i : Int)) ht
    have hlm : (cs'.map T.int).length = t := by rw [List.length_map, hl]
    have ha : atI (cs'.map T.int) ((i : Int).fmod (t : Int)) = some (.int (cs'.getD ((i : Int).fmod (t : Int)).toNat 0)) := at_in (τ := T.int) 0 m1 (by omega)
    have hj : ixN (cs'.map T.int).length ((i : Int).fmod (t : Int)) = some ((i : Int).fmod (t : Int)).toNat := ixN_in m1 (by omega)
    refine ⟨[some (.scr ns), some (.int (t : Int)), some (.cell 0), some (.int (i : Int)), some (.int x), some (.int ((i : Int).fmod (t : Int)))], [.lst ((cs'.set ((i : Int).fmod (t : Int)).toNat (cs'.getD ((i : Int).fmod (t : Int)).toNat 0 + x * ((i : Int) + 2))).map .int)], .inl ?_, _, _, _, _, ?_, rfl, rfl⟩
    · refine body_ok (by simp only [asgT, setAll, List.set_cons_zero, List.set_cons_succ]; rfl) ?_
      apply ev_end
      · repeat contradiction
        apply s_subL (n := 0) (j := ((i : Int).fmod (t : Int)).toNat)
        · repeat contradiction
        · repeat contradiction
        · repeat contradiction
        · repeat contradiction
        · rfl
        · exact hj
        repeat contradiction
      · rfl
      · rw [List.map_set]; rfl
    · rw [List.length_set, hl])
  subst e2 e3
  exact ⟨cs', o3, o4, o5, hl, hf⟩
theorem pc_ints (l : List Int) : pureC (.lst (l.map T.int)) = true := by
  show (l.map T.int).all pureB = true
  rw [List.all_map, List.all_eq_true]
  exact fun _ _ => rfl
local macro_rules
  | `(tactic| contradiction) => `(tactic| first
    | ((with_reducible apply gd_E); assumption)
    | ((with_reducible apply leave_cell0); (· rfl); (· exact pc_ints _)))
theorem cells_ok (k : Nat) (ns : List Int) (hn : ns.length ≤ 63) (t : Nat) (ht : 0 < t) : ∃ cs : List Int, cs.length ≤ t ∧ Sv.run tb.G fnsC (k + 1) 22 [.scr ns, .int (t : Int)] [] = .ok (.new (.lst (cs.map .int))) [] := by
  have hc := e_cellsN (E := ⟨tb.G, Sv.run tb.G fnsC k⟩) (sl := [some (.scr ns), some (.int (t : Int)), none, none, none, none]) (t := (t : Int)) (ns := ns) rfl rfl
  have e63 : cutT ns (some (t : Int)) (some 63) = ns.drop t := cut_from (m := 63) hn
  by_cases hs : ns.length ≤ t
  · have e1 : ns.drop t = [] := List.drop_eq_nil_of_le hs
    have hlen : (firstC (t : Int) ns).length ≤ t := by
      unfold firstC
      rw [cut_to, List.take_of_length_le hs]
      cases ns with
      | nil => exact ht
      | cons x r => exact hs
    refine ⟨firstC (t : Int) ns, hlen, ?_⟩
    have hf : forFix (bodyF ⟨tb.G, Sv.run tb.G fnsC k⟩ (.tp [3, 4]) c22_b0) (((cutT ns (some (t : Int)) (some 63)).zipIdx).map fun p => .tup [.int ((p.2 : Nat) : Int), .int p.1]) [some (.scr ns), some (.int (t : Int)), some (.cell 0), none, none, none] [.lst ((firstC (t : Int) ns).map T.int)] = .ok (.nx, [some (.scr ns), some (.int (t : Int)), some (.cell 0), none, none, none]) [.lst ((firstC (t : Int) ns).map T.int)] := by
      rw [e63, e1]; rfl
    rw [u22]
    apply ev_end
    · repeat contradiction
    · rfl
    · rfl
  · have hlen : (firstC (t : Int) ns).length = t := by
      unfold firstC
      rw [cut_to]
      have : (ns.take t).length = t := by rw [List.length_take]; omega
      cases h : ns.take t with
      | nil => rw [h] at this; simp at this; omega
      | cons x r => rw [h] at this; exact this
    obtain ⟨cs', o3, o4, o5, hl, hf⟩ := cells_loop k ns (ns.drop t) t ht (by rw [List.length_drop]; omega) (firstC (t : Int) ns) hlen
    rw [← e63] at hf
    refine ⟨cs', by omega, ?_⟩
    rw [u22]
    apply ev_end
    · repeat contradiction
    · rfl
    · rfl
end K03
end
section
set_option linter.all false
set_option maxRecDepth 100000
set_option maxHeartbeats 4000000
namespace K03
open PySem L2 Sv
theorem by_hand_ok : Sv.run tb.G fnsC 18 33 [] [] = .ok (.val (.bl true)) [] := by kernel_rfl
end K03
end
section
set_option linter.all false
set_option maxRecDepth 100000
set_option maxHeartbeats 4000000
namespace K03
open PySem L2 Sv

local macro_rules
  | `(tactic| contradiction) => `(tactic| first
    | ((with_reducible apply gd_fz); first | with_reducible exact fz_val _ | with_reducible exact fz_newL _ | with_reducible exact fz_newD _ | with_reducible exact fz_newI _ _)
    | ((with_reducible apply gd_E); first
      | ((with_reducible apply e_var); rfl) | with_reducible exact e_lit | with_reducible apply e_cmp | with_reducible apply e_call | with_reducible apply e_bi | with_reducible apply e_lc | with_reducible apply e_idx | with_reducible apply e_attr | with_reducible apply e_mt
      | with_reducible apply e_tup | with_reducible apply e_lst | with_reducible apply e_bin | with_reducible apply e_ite | with_reducible apply e_nt | with_reducible apply e_andB | with_reducible apply e_orB | with_reducible apply e_neg | with_reducible apply e_slc | with_reducible apply e_isi | with_reducible apply e_make | with_reducible apply e_lc2 | with_reducible apply e_dc | ((with_reducible apply e_celN); (· repeat contradiction); (· (simp only [List.length_cons, List.length_nil, Nat.zero_add, Nat.reduceAdd]; rfl)); (· (simp only [List.nil_append, List.cons_append]; rfl)))
      | ((with_reducible apply e_callK); (· repeat contradiction); (· first | with_reducible exact kwf0 | with_reducible exact kwf1 | with_reducible exact kwf2 | with_reducible exact kwf3 | with_reducible exact kwf4); (· rfl); (· rfl))
      | with_reducible exact e_glo g_LETTERS
      | with_reducible exact e_glo g_MOST_LETTERS
      | with_reducible exact e_glo g_NUMBER
      | with_reducible exact e_glo g_RECORD
      | with_reducible exact e_glo g_TELLS
      | with_reducible exact e_glo g_FEED
      | with_reducible exact e_glo g_BLANK
      )
    | ((with_reducible apply gd_A); first | with_reducible exact a_nil | with_reducible apply a_cons | with_reducible apply a_star)
    | ((with_reducible apply gd_T); first | with_reducible apply t_tru | with_reducible exact t_nil | with_reducible apply t_nt | with_reducible apply t_or | with_reducible apply t_and)
    | ((with_reducible apply gd_I); first | with_reducible apply i_itr | with_reducible apply i_rngN | with_reducible apply i_enum | with_reducible apply i_zipL | with_reducible apply i_zipT)
    | ((with_reducible apply gd_S); first
      | with_reducible apply s_seq | with_reducible exact s_nil | with_reducible apply s_ret | with_reducible apply s_ife | with_reducible apply s_ex | with_reducible apply s_for | with_reducible apply s_whl | ((with_reducible apply s_augA); (· rfl))
      | with_reducible apply s_asg)
    | ((with_reducible apply gd_asg); (simp only [asgT, setAll, wipeT, List.set_cons_zero, List.set_cons_succ]; rfl))
    | ((with_reducible apply gd_k); first | with_reducible exact k_rt | with_reducible apply k_nx)
    | with_reducible apply fn_out | with_reducible apply o_rt | with_reducible apply o_nx | with_reducible exact leave_eq | with_reducible apply leave0' | with_reducible apply leave_new0 | ((with_reducible apply leave_cell0); rfl)
    | ((with_reducible apply gd_if); first | ((with_reducible apply ite_t); (· first | assumption | with_reducible rfl | (simp [*]; done))) | ((with_reducible apply ite_f); (· first | assumption | with_reducible rfl | (simp [*]; done))))
    | ((with_reducible apply gd_cmp); first | with_reducible apply c_eq | with_reducible apply c_ne | with_reducible apply c_in | with_reducible apply c_ni | with_reducible exact c_lt | with_reducible exact c_le | with_reducible exact c_gt | with_reducible exact c_ge)
    | ((with_reducible apply gd_eq); first | with_reducible exact eq_tS _ _ _ | with_reducible exact eq_str _ _ _ | with_reducible exact eq_int _ _ _ | with_reducible exact eq_bl _ _ _ | with_reducible exact eq_lTS _ _ _ | with_reducible exact eq_tTS _ _ _ | with_reducible exact eq_lS _ _ _)
    | ((with_reducible apply gd_in); first | with_reducible exact in_tS | with_reducible exact in_lS | with_reducible exact in_lTS | with_reducible exact in_tTS | ((with_reducible apply in_cS); rfl))
    | with_reducible exact tr_bl
    | ((with_reducible apply gd_bi); first
      | with_reducible exact b_tupT | with_reducible exact b_tupL | with_reducible exact b_allM | with_reducible exact b_allF2 | with_reducible exact b_anyM | with_reducible exact b_lenT | with_reducible exact b_lenL | ((with_reducible apply b_lenC); rfl) | ((with_reducible apply b_tupC); rfl) | with_reducible exact b_strS | with_reducible apply b_strN | with_reducible exact b_int | with_reducible exact b_intB | with_reducible exact b_abs | with_reducible apply b_list | with_reducible apply b_dict
      | ((with_reducible apply b_sset); (· first | contradiction | (simp only [seqOf, List.append_nil, ← List.map_append]; rfl) | (simp only [seqOf, List.append_nil, ← List.map_append, ← List.map_flatMap]; rfl)); (· first | omega | (simp only [List.length_append, List.length_map]; omega)))
      | ((with_reducible apply b_sort); (· rfl); (· first | omega | (simp only [List.length_append, List.length_map]; omega))))
    | ((with_reducible apply gd_src); first | with_reducible exact sr_T | with_reducible exact sr_L | ((with_reducible apply sr_C); rfl) | with_reducible exact sr_D)
    | ((with_reducible apply gd_seq); first | with_reducible exact sq_T | with_reducible exact sq_L | ((with_reducible apply sq_C); rfl))
    | ((with_reducible apply gd_lc); first
      | ((with_reducible apply lcC_map (turn := turnL _ _ _ C.nil _ _) (τ := tS)); (· rfl); intro _ _) | ((with_reducible apply lcC_filter (τ := tS)); (· rfl); intro _ _)
      | ((with_reducible apply lc_map (turn := turnL _ _ _ C.nil _ _) (τ := T.str)); intro _ _) | ((with_reducible apply lc_filter (τ := T.str)); intro _ _) | ((with_reducible apply lc_map (turn := turnL _ _ _ C.nil _ _) (τ := tS)); intro _ _) | ((with_reducible apply lc_filter (τ := tS)); intro _ _))
    | ((with_reducible apply gd_turn); first
      | ((with_reducible apply turn_all); (· (simp only [asgT, setAll, wipeT, List.set_cons_zero, List.set_cons_succ]; rfl))) | ((with_reducible apply turn_if); (· (simp only [asgT, setAll, wipeT, List.set_cons_zero, List.set_cons_succ]; rfl))))
    | ((with_reducible apply gd_attr); first
      | with_reducible exact attr_fld pn_0_own_names kf_own_names fl_0_own_names
      | with_reducible exact attr_fld pn_0_own_told kf_own_told fl_0_own_told
      | with_reducible exact attr_fld pn_0_own_keysets kf_own_keysets fl_0_own_keysets
      | with_reducible apply attr_prop p_0_names
      | with_reducible apply attr_prop p_0_pairs
      | with_reducible apply attr_prop p_0_text
      | with_reducible apply attr_prop p_0_keysets
      )
    | with_reducible exact ix_dic (getD_map (by first | assumption | solve_by_elim))
    | ((with_reducible apply gd_call); first | with_reducible apply call_nil | with_reducible apply call_pure)
    | ((with_reducible apply gd_pure); first | with_reducible exact pure_tS _ | with_reducible exact pure_lS _ | with_reducible exact pure_lTS _ | with_reducible exact pure_tTS _ | with_reducible exact pure_tapp | with_reducible rfl)
    | with_reducible apply pr_val
    | ((with_reducible apply gd_dc); first | ((with_reducible apply dc_run (τ := T.str)); intro _ _) | ((with_reducible apply dc_run (τ := tS)); intro _ _))
    | ((with_reducible apply gd_turnD); ((with_reducible apply turnD_ok); (· (simp only [asgT, setAll, wipeT, List.set_cons_zero, List.set_cons_succ]; rfl))))
    | with_reducible exact ko_str | with_reducible exact recv_join | with_reducible apply meth_str
    | with_reducible apply mt_jn
    | ((with_reducible apply mt_join); (· (simp only [seqOf, List.append_nil, ← List.map_cons, ← List.map_append]; rfl)))
    | ((with_reducible apply ix_cdic); (· rfl); (· first | with_reducible exact getD_map (by first | assumption | solve_by_elim) | assumption))
    | ((with_reducible apply gd_bin); first | with_reducible apply bi_addL | with_reducible apply bi_addT | with_reducible exact bi_add | with_reducible exact bi_sub)
    | with_reducible apply ix_dic | ((with_reducible apply ix_cel); rfl) | with_reducible apply ix_lst | with_reducible apply ix_tup
    | with_reducible apply meth_cell
    | ((with_reducible apply recv_ext); rfl) | ((with_reducible apply recv_app); rfl) | ((with_reducible apply recv_pop); rfl)
    | ((with_reducible apply mt_ext); (· rfl); (· rfl)) | ((with_reducible apply mt_app); (· rfl))
    | ((with_reducible apply gd_lc2); ((with_reducible apply lc2_run (τ := T.str)); intro _ _ _ _))
    | ((with_reducible apply gd_lcA); first | ((with_reducible apply lcA_map (turn := turnL _ _ _ C.nil _ _) (τ := T.str)); intro _ _) | ((rw [List.append_nil, ← List.map_cons]); (with_reducible apply lcA_map (turn := turnL _ _ _ C.nil _ _) (τ := T.str)); intro _ _))
    | ((with_reducible apply gd_turn2); ((with_reducible apply turn2_ok); (· (simp only [asgT, setAll, wipeT, List.set_cons_zero, List.set_cons_succ]; rfl))))
    | ((with_reducible apply gd_all); (simp only [List.all_cons, List.all_nil, Bool.and_true, Bool.and_eq_true]; (repeat' constructor) <;> contradiction))
    | (intro (_ : _ = true))
    | (intro (_ : Str) (_ : _ ∈ _))
    | (refine (?_ : (_ : Nat) < _); omega)
    | (refine (?_ : (_ : Nat) ≤ _); first | omega | (simp only [List.length_map, List.length_append, List.length_cons, List.length_nil]; omega) | ((try simp only [List.length_map, List.length_append, List.length_cons, List.length_nil]); grind [Ks.tl, Ks.nl, Ks.kl, Ks.kk]))
    | assumption
    | solve_by_elim)
local macro_rules
  | `(tactic| contradiction) => `(tactic| first
    | ((with_reducible apply gd_run); first | with_reducible apply told_ok | with_reducible apply names_ok | with_reducible apply keysets_ok | with_reducible apply within_ok | with_reducible apply tells_ok | with_reducible apply below_ok | with_reducible apply joint_ok | with_reducible apply common_ok | with_reducible apply tops_ok | with_reducible apply closed_okT | with_reducible apply closed_okL)
    | ((with_reducible apply gd_recv); first | with_reducible exact recv_ins kn_told m_0_told | with_reducible exact recv_ins kn_tells m_0_tells | with_reducible exact recv_ins kn_closed m_0_closed)
    | ((with_reducible apply gd_meth); first | with_reducible apply meth_ins kn_told m_0_told | with_reducible apply meth_ins kn_tells m_0_tells | with_reducible apply meth_ins kn_closed m_0_closed)
    | with_reducible exact pure_keT _)
local macro_rules
  | `(tactic| contradiction) => `(tactic| first
    | ((with_reducible apply e_isi); (· repeat contradiction); (· repeat contradiction); (· rfl); (· (simp only [List.any_cons, List.any_nil, tyIs, Bool.or_false, Bool.false_or, Bool.or_true, Bool.true_or]; rfl)))
    | with_reducible exact is_str | with_reducible exact is_bl | with_reducible exact is_int | with_reducible exact is_non | with_reducible exact eq_non
    | ((with_reducible apply i_zipLv); (· rfl); (· rfl)) | ((with_reducible apply i_zipTv); (· rfl); (· rfl))
    | ((with_reducible apply gd_lc); ((with_reducible apply lc_map (α := T) (turn := turnL _ _ _ C.nil _ _) (τ := fun x => .tup [x, x]) (g := fun _ => .bl true)); intro _ _))
    | ((with_reducible apply gd_run); first | assumption | solve_by_elim))
local macro_rules
  | `(tactic| contradiction) => `(tactic| first
    | with_reducible exact eq_l0 | with_reducible exact eq_t1
    | ((with_reducible apply gd_run); first | assumption | solve_by_elim))
theorem within_okL (k : Nat) (a b : List Str) (st : Stor) (ha : a.length ≤ 1000) : Sv.run tb.G fnsC (k + 1) 15 [tS a, lS b] st = .ok (.val (.bl (wi a b))) st := by
  rw [u15]
  by_cases hb : b = [("#" : Str)]
  · apply ev_end
    · repeat contradiction
    · simp [wi, hb]
    · rfl
  · apply ev_end
    · repeat contradiction
    · simp [wi, hb]
    · rfl
theorem below_okL (k : Nat) (K : Ks) (l : List Str) : Sv.run tb.G fnsC (k + 2) 18 [keT K, lS l] [] = .ok (.new (.lst ((bl K l).map tS))) [] := by
  have hw : ∀ a ∈ K.ks, Sv.run tb.G fnsC (k + 1) 15 [tS a, lS l] [] = .ok (.val (.bl (wi a l))) [] := fun a ha => within_okL k a l [] (Nat.le_trans (K.kk a ha) (by decide))
  have hkl : K.ks.length ≤ 1000 := K.kl
  rw [u18]
  apply ev_end
  · repeat contradiction
  · rfl
  · rfl
theorem in_ok (k : Nat) (a b : List Str) (ha : a.length ≤ 1000) : Sv.run tb.G fnsC (k + 1) 31 [tS a, tS b] [] = .ok (.val (.bl (wi a b))) [] := by
  rw [u31]
  apply ev_end
  · repeat contradiction
  · rw [← wi_own]
  · rfl
theorem lists_str (k : Nat) (x : Str) : Sv.run tb.G fnsC (k + 1) 24 [.str x] [] = .ok (.val (.str x)) [] := by
  rw [u24]
  apply ev_end
  · repeat contradiction
  · rfl
  · rfl
theorem lists_ok (k : Nat) (a : List Str) (ha : a.length ≤ 1000) : Sv.run tb.G fnsC (k + 2) 24 [tS a] [] = .ok (.new (.lst (a.map .str))) [] := by
  have h1 : ∀ x ∈ a, Sv.run tb.G fnsC (k + 1) 24 [.str x] [] = .ok (.val (.str x)) [] := fun x _ => lists_str k x
  rw [u24]
  apply ev_end
  · repeat contradiction
  · rfl
  · rfl
theorem top_ok (k : Nat) {names : List Str} {pairs : List (Str × Str)} (h : Bk names pairs) {a : List Str} (ka : a ∈ (mkK h).ks) : Sv.run tb.G fnsC (k + 2) 32 [bkT names pairs, tS a] [] = .ok (.val (tS (tp (mkK h) a))) [] := by
  have ht := told_law_ok k h
  have la := ks_len4 h ka
  obtain ⟨sl', st', hf, o, e2, e3⟩ := for_all (body := bodyF ⟨tb.G, Sv.run tb.G fnsC (k + 1)⟩ (.nm 2) c32_b0) (τ := T.str)
    (fun d sl st => ∃ o, sl = [some (bkT names pairs), some (tS a), o, some (.dic (names.map fun n => ((Sum.inr n : Key), tS (tldB names pairs n)))), some (.cell 0), none] ∧ st = [.lst ((d.filter fun n => decide (n = ("#" : Str)) || decide ((a.filter fun o => decide (n ∈ tldB names pairs o)) = [])).map .str)]) a []
    [some (bkT names pairs), some (tS a), none, some (.dic (names.map fun n => ((Sum.inr n : Key), tS (tldB names pairs n)))), some (.cell 0), none] [.lst []] ⟨none, rfl, rfl⟩ (by
    rintro d n e sl st q ⟨o, e2, e3⟩
    subst e2 e3
    rw [List.nil_append] at q
    have kn : n ∈ a := by rw [q]; simp
    have ld : (d.filter fun n => decide (n = ("#" : Str)) || decide ((a.filter fun o => decide (n ∈ tldB names pairs o)) = [])).length ≤ 4 := by
      have h1 := List.length_filter_le (fun n => decide (n = ("#" : Str)) || decide ((a.filter fun o => decide (n ∈ tldB names pairs o)) = [])) d
      have := congrArg List.length q
      simp at this; omega
    generalize hF : (d.filter fun n => decide (n = ("#" : Str)) || decide ((a.filter fun o => decide (n ∈ tldB names pairs o)) = [])) = F at ld
    refine ⟨[some (bkT names pairs), some (tS a), some (.str n), some (.dic (names.map fun n => ((Sum.inr n : Key), tS (tldB names pairs n)))), some (.cell 0), none], [.lst (((d ++ [n]).filter fun n => decide (n = ("#" : Str)) || decide ((a.filter fun o => decide (n ∈ tldB names pairs o)) = [])).map .str)], .inl ?_, _, rfl, rfl⟩
    refine body_ok (by simp only [asgT, List.set_cons_zero, List.set_cons_succ]; rfl) ?_
    rw [List.filter_append, hF]
    by_cases e1 : n = ("#" : Str)
    · have c1 : decide (n = ("#" : Str)) = true := decide_eq_true e1
      have c2 : ([n].filter fun n => decide (n = ("#" : Str)) || decide ((a.filter fun o => decide (n ∈ tldB names pairs o)) = [])) = [n] := by simp [e1]
      rw [c2]
      apply ev_end
      · with_reducible apply s_seq
        · refine s_ifT (k := true) (t_orT (st1 := [.lst (F.map .str)]) (?_ : evT _ _ _ _ = .ok (decide (n = ("#" : Str))) _) c1) rfl ?_
          all_goals repeat contradiction
        repeat contradiction
      · rfl
      · rw [List.map_append]; rfl
    · have hin : ∀ x ∈ a, x ∈ names := (nr_ks h ka fun z => by rw [z] at kn; exact e1 (List.mem_singleton.mp kn)).2.1
      cases c1 : (decide (n = ("#" : Str)) || decide ((a.filter fun o => decide (n ∈ tldB names pairs o)) = [])) with
      | true =>
        have c2 : ([n].filter fun n => decide (n = ("#" : Str)) || decide ((a.filter fun o => decide (n ∈ tldB names pairs o)) = [])) = [n] := by rw [List.filter_cons, c1]; rfl
        rw [c2]
        apply ev_end
        · repeat contradiction
        · rfl
        · rw [List.map_append]; rfl
      | false =>
        have c2 : ([n].filter fun n => decide (n = ("#" : Str)) || decide ((a.filter fun o => decide (n ∈ tldB names pairs o)) = [])) = [] := by rw [List.filter_cons, c1]; rfl
        rw [c2]
        apply ev_end
        · repeat contradiction
        · rfl
        · rw [List.append_nil])
  rw [List.nil_append, tp_own h ka] at e3
  subst e2 e3
  rw [u32]
  apply ev_end
  · repeat contradiction
  · rfl
  · rfl
end K03
end
section
set_option linter.all false
set_option maxRecDepth 100000
set_option maxHeartbeats 4000000
namespace K03
open PySem L2 Sv

local macro_rules
  | `(tactic| contradiction) => `(tactic| first
    | ((with_reducible apply gd_fz); first | with_reducible exact fz_val _ | with_reducible exact fz_newL _ | with_reducible exact fz_newD _ | with_reducible exact fz_newI _ _)
    | ((with_reducible apply gd_E); first
      | ((with_reducible apply e_var); rfl) | with_reducible exact e_lit | with_reducible apply e_cmp | with_reducible apply e_call | with_reducible apply e_bi | with_reducible apply e_lc | with_reducible apply e_idx | with_reducible apply e_attr | with_reducible apply e_mt
      | with_reducible apply e_tup | with_reducible apply e_lst | with_reducible apply e_bin | with_reducible apply e_ite | with_reducible apply e_nt | with_reducible apply e_andB | with_reducible apply e_orB | with_reducible apply e_neg | with_reducible apply e_slc | with_reducible apply e_isi | with_reducible apply e_make | with_reducible apply e_lc2 | with_reducible apply e_dc | ((with_reducible apply e_celN); (· repeat contradiction); (· (simp only [List.length_cons, List.length_nil, Nat.zero_add, Nat.reduceAdd]; rfl)); (· (simp only [List.nil_append, List.cons_append]; rfl)))
      | ((with_reducible apply e_callK); (· repeat contradiction); (· first | with_reducible exact kwf0 | with_reducible exact kwf1 | with_reducible exact kwf2 | with_reducible exact kwf3 | with_reducible exact kwf4); (· rfl); (· rfl))
      | with_reducible exact e_glo g_LETTERS
      | with_reducible exact e_glo g_MOST_LETTERS
      | with_reducible exact e_glo g_NUMBER
      | with_reducible exact e_glo g_RECORD
      | with_reducible exact e_glo g_TELLS
      | with_reducible exact e_glo g_FEED
      | with_reducible exact e_glo g_BLANK
      )
    | ((with_reducible apply gd_A); first | with_reducible exact a_nil | with_reducible apply a_cons | with_reducible apply a_star)
    | ((with_reducible apply gd_T); first | with_reducible apply t_tru | with_reducible exact t_nil | with_reducible apply t_nt | with_reducible apply t_or | with_reducible apply t_and)
    | ((with_reducible apply gd_I); first | with_reducible apply i_itr | with_reducible apply i_rngN | with_reducible apply i_enum | with_reducible apply i_zipL | with_reducible apply i_zipT)
    | ((with_reducible apply gd_S); first
      | with_reducible apply s_seq | with_reducible exact s_nil | with_reducible apply s_ret | with_reducible apply s_ife | with_reducible apply s_ex | with_reducible apply s_for | with_reducible apply s_whl | ((with_reducible apply s_augA); (· rfl))
      | with_reducible apply s_asg)
    | ((with_reducible apply gd_asg); (simp only [asgT, setAll, wipeT, List.set_cons_zero, List.set_cons_succ]; rfl))
    | ((with_reducible apply gd_k); first | with_reducible exact k_rt | with_reducible apply k_nx)
    | with_reducible apply fn_out | with_reducible apply o_rt | with_reducible apply o_nx | with_reducible exact leave_eq | with_reducible apply leave0' | with_reducible apply leave_new0 | ((with_reducible apply leave_cell0); rfl)
    | ((with_reducible apply gd_if); first | ((with_reducible apply ite_t); (· first | assumption | with_reducible rfl | (simp [*]; done))) | ((with_reducible apply ite_f); (· first | assumption | with_reducible rfl | (simp [*]; done))))
    | ((with_reducible apply gd_cmp); first | with_reducible apply c_eq | with_reducible apply c_ne | with_reducible apply c_in | with_reducible apply c_ni | with_reducible exact c_lt | with_reducible exact c_le | with_reducible exact c_gt | with_reducible exact c_ge)
    | ((with_reducible apply gd_eq); first | with_reducible exact eq_tS _ _ _ | with_reducible exact eq_str _ _ _ | with_reducible exact eq_int _ _ _ | with_reducible exact eq_bl _ _ _ | with_reducible exact eq_lTS _ _ _ | with_reducible exact eq_tTS _ _ _ | with_reducible exact eq_lS _ _ _)
    | ((with_reducible apply gd_in); first | with_reducible exact in_tS | with_reducible exact in_lS | with_reducible exact in_lTS | with_reducible exact in_tTS | ((with_reducible apply in_cS); rfl))
    | with_reducible exact tr_bl
    | ((with_reducible apply gd_bi); first
      | with_reducible exact b_tupT | with_reducible exact b_tupL | with_reducible exact b_allM | with_reducible exact b_allF2 | with_reducible exact b_anyM | with_reducible exact b_lenT | with_reducible exact b_lenL | ((with_reducible apply b_lenC); rfl) | ((with_reducible apply b_tupC); rfl) | with_reducible exact b_strS | with_reducible apply b_strN | with_reducible exact b_int | with_reducible exact b_intB | with_reducible exact b_abs | with_reducible apply b_list | with_reducible apply b_dict
      | ((with_reducible apply b_sset); (· first | contradiction | (simp only [seqOf, List.append_nil, ← List.map_append]; rfl) | (simp only [seqOf, List.append_nil, ← List.map_append, ← List.map_flatMap]; rfl)); (· first | omega | (simp only [List.length_append, List.length_map]; omega)))
      | ((with_reducible apply b_sort); (· rfl); (· first | omega | (simp only [List.length_append, List.length_map]; omega))))
    | ((with_reducible apply gd_src); first | with_reducible exact sr_T | with_reducible exact sr_L | ((with_reducible apply sr_C); rfl) | with_reducible exact sr_D)
    | ((with_reducible apply gd_seq); first | with_reducible exact sq_T | with_reducible exact sq_L | ((with_reducible apply sq_C); rfl))
    | ((with_reducible apply gd_lc); first
      | ((with_reducible apply lcC_map (turn := turnL _ _ _ C.nil _ _) (τ := tS)); (· rfl); intro _ _) | ((with_reducible apply lcC_filter (τ := tS)); (· rfl); intro _ _)
      | ((with_reducible apply lc_map (turn := turnL _ _ _ C.nil _ _) (τ := T.str)); intro _ _) | ((with_reducible apply lc_filter (τ := T.str)); intro _ _) | ((with_reducible apply lc_map (turn := turnL _ _ _ C.nil _ _) (τ := tS)); intro _ _) | ((with_reducible apply lc_filter (τ := tS)); intro _ _))
    | ((with_reducible apply gd_turn); first
      | ((with_reducible apply turn_all); (· (simp only [asgT, setAll, wipeT, List.set_cons_zero, List.set_cons_succ]; rfl))) | ((with_reducible apply turn_if); (· (simp only [asgT, setAll, wipeT, List.set_cons_zero, List.set_cons_succ]; rfl))))
    | ((with_reducible apply gd_attr); first
      | with_reducible exact attr_fld pn_0_own_names kf_own_names fl_0_own_names
      | with_reducible exact attr_fld pn_0_own_told kf_own_told fl_0_own_told
      | with_reducible exact attr_fld pn_0_own_keysets kf_own_keysets fl_0_own_keysets
      | with_reducible apply attr_prop p_0_names
      | with_reducible apply attr_prop p_0_pairs
      | with_reducible apply attr_prop p_0_text
      | with_reducible apply attr_prop p_0_keysets
      )
    | with_reducible exact ix_dic (getD_map (by first | assumption | solve_by_elim))
    | ((with_reducible apply gd_call); first | with_reducible apply call_nil | with_reducible apply call_pure)
    | ((with_reducible apply gd_pure); first | with_reducible exact pure_tS _ | with_reducible exact pure_lS _ | with_reducible exact pure_lTS _ | with_reducible exact pure_tTS _ | with_reducible exact pure_tapp | with_reducible rfl)
    | with_reducible apply pr_val
    | ((with_reducible apply gd_dc); first | ((with_reducible apply dc_run (τ := T.str)); intro _ _) | ((with_reducible apply dc_run (τ := tS)); intro _ _))
    | ((with_reducible apply gd_turnD); ((with_reducible apply turnD_ok); (· (simp only [asgT, setAll, wipeT, List.set_cons_zero, List.set_cons_succ]; rfl))))
    | with_reducible exact ko_str | with_reducible exact recv_join | with_reducible apply meth_str
    | with_reducible apply mt_jn
    | ((with_reducible apply mt_join); (· (simp only [seqOf, List.append_nil, ← List.map_cons, ← List.map_append]; rfl)))
    | ((with_reducible apply ix_cdic); (· rfl); (· first | with_reducible exact getD_map (by first | assumption | solve_by_elim) | assumption))
    | ((with_reducible apply gd_bin); first | with_reducible apply bi_addL | with_reducible apply bi_addT | with_reducible exact bi_add | with_reducible exact bi_sub)
    | with_reducible apply ix_dic | ((with_reducible apply ix_cel); rfl) | with_reducible apply ix_lst | with_reducible apply ix_tup
    | with_reducible apply meth_cell
    | ((with_reducible apply recv_ext); rfl) | ((with_reducible apply recv_app); rfl) | ((with_reducible apply recv_pop); rfl)
    | ((with_reducible apply mt_ext); (· rfl); (· rfl)) | ((with_reducible apply mt_app); (· rfl))
    | ((with_reducible apply gd_lc2); ((with_reducible apply lc2_run (τ := T.str)); intro _ _ _ _))
    | ((with_reducible apply gd_lcA); first | ((with_reducible apply lcA_map (turn := turnL _ _ _ C.nil _ _) (τ := T.str)); intro _ _) | ((rw [List.append_nil, ← List.map_cons]); (with_reducible apply lcA_map (turn := turnL _ _ _ C.nil _ _) (τ := T.str)); intro _ _))
    | ((with_reducible apply gd_turn2); ((with_reducible apply turn2_ok); (· (simp only [asgT, setAll, wipeT, List.set_cons_zero, List.set_cons_succ]; rfl))))
    | ((with_reducible apply gd_all); (simp only [List.all_cons, List.all_nil, Bool.and_true, Bool.and_eq_true]; (repeat' constructor) <;> contradiction))
    | (intro (_ : _ = true))
    | (intro (_ : Str) (_ : _ ∈ _))
    | (refine (?_ : (_ : Nat) < _); omega)
    | (refine (?_ : (_ : Nat) ≤ _); first | omega | (simp only [List.length_map, List.length_append, List.length_cons, List.length_nil]; omega) | ((try simp only [List.length_map, List.length_append, List.length_cons, List.length_nil]); grind [Ks.tl, Ks.nl, Ks.kl, Ks.kk]))
    | assumption
    | solve_by_elim)
local macro_rules
  | `(tactic| contradiction) => `(tactic| first
    | ((with_reducible apply gd_run); first | with_reducible apply told_ok | with_reducible apply names_ok | with_reducible apply keysets_ok | with_reducible apply within_ok | with_reducible apply tells_ok | with_reducible apply below_ok | with_reducible apply joint_ok | with_reducible apply common_ok | with_reducible apply tops_ok | with_reducible apply closed_okT | with_reducible apply closed_okL)
    | ((with_reducible apply gd_recv); first | with_reducible exact recv_ins kn_told m_0_told | with_reducible exact recv_ins kn_tells m_0_tells | with_reducible exact recv_ins kn_closed m_0_closed)
    | ((with_reducible apply gd_meth); first | with_reducible apply meth_ins kn_told m_0_told | with_reducible apply meth_ins kn_tells m_0_tells | with_reducible apply meth_ins kn_closed m_0_closed)
    | with_reducible exact pure_keT _)
local macro_rules
  | `(tactic| contradiction) => `(tactic| first
    | with_reducible apply call_urn
    | with_reducible apply call_pure0
    | ((with_reducible apply i_rngLit 3); (· rfl); (· decide))
    | ((with_reducible apply i_rngLit 4); (· rfl); (· decide))
    | ((with_reducible apply i_rngLit 6); (· rfl); (· decide))
    | ((with_reducible apply i_rngLit 8); (· rfl); (· decide))
    | ((with_reducible apply i_rngLit 30); (· rfl); (· decide))
    | with_reducible exact ixl3_0 | with_reducible exact ixl3_1 | with_reducible exact ixl3_2
    | with_reducible exact ix_tup rfl
    | with_reducible exact pure_bkT _ _
    | with_reducible exact pure_keT _
    | with_reducible exact pc_lTS _
    | with_reducible apply pr_new
    | ((with_reducible apply gd_lc); with_reducible assumption)
    | ((with_reducible apply gd_run); first | with_reducible assumption | solve_by_elim)
    | with_reducible assumption)
theorem mt_app2 {E : Ev} {s : Stor} {x y z : T} : mtV E .append (.cell s.length) [z] (s ++ [.lst [x, y]]) = .ok (.val .non) (s ++ [.lst [x, y, z]]) := mt_appE (by simp)
theorem ite_nt {α : Type} {A B res : α} (h : B = res) : (if (!true) = true then A else B) = res := h
local macro_rules
  | `(tactic| contradiction) => `(tactic| first
    | with_reducible apply ite_nt
    | ((with_reducible apply gd_if); first | ((with_reducible apply ite_t); with_reducible assumption) | ((with_reducible apply ite_f); with_reducible assumption))
    | ((with_reducible apply gd_E); ((with_reducible apply e_cel)))
    | with_reducible exact eq_l0 | with_reducible exact eq_t1 | with_reducible exact in_tA
    | with_reducible exact ix_tup rfl
    | with_reducible exact ixl3_0
    | with_reducible exact recv_appE | with_reducible exact recv_appM
    | with_reducible exact mt_app2
    | ((with_reducible apply mt_appE); (simp <;> omega)) | ((with_reducible apply mt_appM); (simp <;> omega))
    | ((with_reducible apply s_frzE); (· rfl); (· rfl))
    | ((with_reducible apply gd_call); with_reducible assumption)
    | with_reducible exact pure_bkT _ _
    | with_reducible exact pure_keT _
    | with_reducible exact pure_lTS _
    | with_reducible exact pc_lTS _
    | with_reducible exact pc_lS _
    | with_reducible apply pr_new
    | ((with_reducible apply gd_run); first | with_reducible assumption | solve_by_elim)
    | with_reducible assumption)
noncomputable abbrev kkT {names : List Str} {pairs : List (Str × Str)} (h : Bk names pairs) : T := .lst ((mkK h).ks.map tS)
theorem pair_turn (k : Nat) {names : List Str} {pairs : List (Str × Str)} (h : Bk names pairs) {a b : List Str} (ka : a ∈ (mkK h).ks) (kb : b ∈ (mkK h).ks) (s : Stor) (o1 o6 o7 o8 o9 o10 : Option T) :
    bodyF ⟨tb.G, Sv.run tb.G fnsC (k + 4)⟩ (.nm 8) c34_b0 (tS b) [some (.cell 0), o1, some (bkT names pairs), some (tS a), some (keT (mkK h)), some (kkT h), o6, o7, o8, o9, o10, none] s =
      .ok (.nx, [some (.cell 0), o1, some (bkT names pairs), some (tS a), some (keT (mkK h)), some (kkT h), o6, some (.lst [.bl (wi a b), tS (jo a b), tS (co a b)]), some (tS b), some (tS (jo a b)), some (tS (co a b)), none]) (s ++ [.gone]) := by
  have la := ks_len4 h ka
  have lb := ks_len4 h kb
  have l4 := h.len
  have j1 := jo_len a b
  have j2 := co_len a b
  have hin : Sv.run tb.G fnsC (k + 4) 31 [tS a, tS b] [] = .ok (.val (.bl (wi a b))) [] := in_ok (k + 3) a b (by omega)
  have hwi : Sv.run tb.G fnsC (k + 4) 15 [tS a, tS b] [] = .ok (.val (.bl (wi a b))) [] := within_ok (k + 3) a b [] (by omega)
  have hjo : Sv.run tb.G fnsC (k + 4) 16 [tS a, tS b] [] = .ok (.val (tS (jo a b))) [] := joint_ok (k + 3) a b [] (by omega)
  have hco : Sv.run tb.G fnsC (k + 4) 17 [tS a, tS b] [] = .ok (.val (tS (co a b))) [] := common_ok (k + 3) a b [] (by omega)
  have hp : ∀ X Y : List Str, pureB (.lst [.bl (wi a b), tS X, tS Y]) = true := fun X Y => by
    show (clB 29 (.bl (wi a b)) && (clB 29 (tS X) && (clB 29 (tS Y) && true))) = true
    rw [cl_tS 27, cl_tS 27]; rfl
  have hq1 : pureB (.lst [.bl (wi a b), tS (jo a b), tS (co a b)]) = true := hp _ _
  have nj := jo_own h ka kb
  have na := no_num h ka
  have nb := no_num h kb
  by_cases ea : a = rcd <;> by_cases eb : b = rcd
  all_goals
    first
      | (have c1 : decide (("#" : Str) ∈ a ++ b) = true := decide_eq_true (by rw [List.mem_append, na, nb]; first | exact .inl ea | exact .inr eb))
      | (have c1 : decide (("#" : Str) ∈ a ++ b) = false := decide_eq_false (by rw [List.mem_append, na, nb]; exact fun q => q.elim ea eb))
  all_goals first | have c2 : (!decide (a = [("#" : Str)])) = false := by (rw [decide_eq_true ea]; rfl) | have c2 : (!decide (a = [("#" : Str)])) = true := by (rw [decide_eq_false ea]; rfl)
  all_goals first | have c3 : decide (b = [("#" : Str)]) = true := decide_eq_true eb | have c3 : decide (b = [("#" : Str)]) = false := decide_eq_false eb
  · -- both
    have hq2 : pureB (.lst [.bl (wi a b), (.tup [.str "#"]), (tS a)]) = true := hp rcd a
    have hs : Sv.run tb.G fnsC (k + 4) 23 [.lst [.bl (wi a b), tS (jo a b), tS (co a b)], .lst [.bl (wi a b), (.tup [.str "#"]), (tS a)]] [] = .ok (.val (.bl true)) [] := by
      have e1 : (.tup [.str "#"]) = tS (jo a b) := by rw [show jo a b = rcd by rw [ea, jo_rcdL]] <;> rfl
      have e2 : (tS a) = tS (co a b) := by rw [show co a b = a by rw [eb, co_rcdR]]
      rw [e1, e2]
      refine same_refl 3 _ (k + 1) ?_
      show (decide (3 ≤ 16777216) && (true && (plT 2 _ && (plT 2 _ && true)))) = true
      rw [pl_tS _ (by omega), pl_tS _ (by omega)]
      rfl
    clear hp nj na nb
    refine body_ok (by simp only [asgT, List.set_cons_zero, List.set_cons_succ]; rfl) ?_
    apply ev_end
    · repeat contradiction
    · have e1 : (.tup [.str "#"]) = tS (jo a b) := by rw [show jo a b = rcd by rw [ea, jo_rcdL]] <;> rfl
      have e2 : (tS a) = tS (co a b) := by rw [show co a b = a by rw [eb, co_rcdR]]
      rw [← e1, ← e2]
      try rfl
    · rfl
  · -- first
    have hq2 : pureB (.lst [.bl (wi a b), (.tup [.str "#"]), (tS b)]) = true := hp rcd b
    have hs : Sv.run tb.G fnsC (k + 4) 23 [.lst [.bl (wi a b), tS (jo a b), tS (co a b)], .lst [.bl (wi a b), (.tup [.str "#"]), (tS b)]] [] = .ok (.val (.bl true)) [] := by
      have e1 : (.tup [.str "#"]) = tS (jo a b) := by rw [show jo a b = rcd by rw [ea, jo_rcdL]] <;> rfl
      have e2 : (tS b) = tS (co a b) := by rw [show co a b = b by rw [ea, co_rcdL]]
      rw [e1, e2]
      refine same_refl 3 _ (k + 1) ?_
      show (decide (3 ≤ 16777216) && (true && (plT 2 _ && (plT 2 _ && true)))) = true
      rw [pl_tS _ (by omega), pl_tS _ (by omega)]
      rfl
    clear hp nj na nb
    refine body_ok (by simp only [asgT, List.set_cons_zero, List.set_cons_succ]; rfl) ?_
    apply ev_end
    · repeat contradiction
    · have e1 : (.tup [.str "#"]) = tS (jo a b) := by rw [show jo a b = rcd by rw [ea, jo_rcdL]] <;> rfl
      have e2 : (tS b) = tS (co a b) := by rw [show co a b = b by rw [ea, co_rcdL]]
      rw [← e1, ← e2]
      try rfl
    · rfl
  · -- second
    have hq2 : pureB (.lst [.bl (wi a b), (.tup [.str "#"]), (tS a)]) = true := hp rcd a
    have hs : Sv.run tb.G fnsC (k + 4) 23 [.lst [.bl (wi a b), tS (jo a b), tS (co a b)], .lst [.bl (wi a b), (.tup [.str "#"]), (tS a)]] [] = .ok (.val (.bl true)) [] := by
      have e1 : (.tup [.str "#"]) = tS (jo a b) := by rw [show jo a b = rcd by rw [eb, jo_rcdR]] <;> rfl
      have e2 : (tS a) = tS (co a b) := by rw [show co a b = a by rw [eb, co_rcdR]]
      rw [e1, e2]
      refine same_refl 3 _ (k + 1) ?_
      show (decide (3 ≤ 16777216) && (true && (plT 2 _ && (plT 2 _ && true)))) = true
      rw [pl_tS _ (by omega), pl_tS _ (by omega)]
      rfl
    clear hp nj na nb
    refine body_ok (by simp only [asgT, List.set_cons_zero, List.set_cons_succ]; rfl) ?_
    apply ev_end
    · repeat contradiction
    · have e1 : (.tup [.str "#"]) = tS (jo a b) := by rw [show jo a b = rcd by rw [eb, jo_rcdR]] <;> rfl
      have e2 : (tS a) = tS (co a b) := by rw [show co a b = a by rw [eb, co_rcdR]]
      rw [← e1, ← e2]
      try rfl
    · rfl
  · -- none
    have hq2 : pureB (.lst [.bl (wi a b), (.tup ((names.filter fun x => decide (x ∈ a ++ b)).map .str)), (.tup ((a.filter fun x => decide (x ∈ b)).map .str))]) = true := hp _ _
    have hs : Sv.run tb.G fnsC (k + 4) 23 [.lst [.bl (wi a b), tS (jo a b), tS (co a b)], .lst [.bl (wi a b), (.tup ((names.filter fun x => decide (x ∈ a ++ b)).map .str)), (.tup ((a.filter fun x => decide (x ∈ b)).map .str))]] [] = .ok (.val (.bl true)) [] := by
      have e1 : (.tup ((names.filter fun x => decide (x ∈ a ++ b)).map .str)) = tS (jo a b) := by rw [← nj, if_neg (of_decide_eq_false c1)]
      have e2 : (.tup ((a.filter fun x => decide (x ∈ b)).map .str)) = tS (co a b) := by rw [show co a b = a.filter fun x => decide (x ∈ b) by unfold co; rw [if_neg ea, if_neg eb]]
      rw [e1, e2]
      refine same_refl 3 _ (k + 1) ?_
      show (decide (3 ≤ 16777216) && (true && (plT 2 _ && (plT 2 _ && true)))) = true
      rw [pl_tS _ (by omega), pl_tS _ (by omega)]
      rfl
    refine body_ok (by simp only [asgT, List.set_cons_zero, List.set_cons_succ]; rfl) ?_
    apply ev_end
    · repeat contradiction
    · have e1 : (.tup ((names.filter fun x => decide (x ∈ a ++ b)).map .str)) = tS (jo a b) := by rw [← nj, if_neg (of_decide_eq_false c1)]
      have e2 : (.tup ((a.filter fun x => decide (x ∈ b)).map .str)) = tS (co a b) := by rw [show co a b = a.filter fun x => decide (x ∈ b) by unfold co; rw [if_neg ea, if_neg eb]]
      rw [← e1, ← e2]
      try rfl
    · rfl
end K03
end
section
set_option linter.all false
set_option maxRecDepth 100000
set_option maxHeartbeats 4000000
namespace K03
open PySem L2 Sv

local macro_rules
  | `(tactic| contradiction) => `(tactic| first
    | ((with_reducible apply gd_fz); first | with_reducible exact fz_val _ | with_reducible exact fz_newL _ | with_reducible exact fz_newD _ | with_reducible exact fz_newI _ _)
    | ((with_reducible apply gd_E); first
      | ((with_reducible apply e_var); rfl) | with_reducible exact e_lit | with_reducible apply e_cmp | with_reducible apply e_call | with_reducible apply e_bi | with_reducible apply e_lc | with_reducible apply e_idx | with_reducible apply e_attr | with_reducible apply e_mt
      | with_reducible apply e_tup | with_reducible apply e_lst | with_reducible apply e_bin | with_reducible apply e_ite | with_reducible apply e_nt | with_reducible apply e_andB | with_reducible apply e_orB | with_reducible apply e_neg | with_reducible apply e_slc | with_reducible apply e_isi | with_reducible apply e_make | with_reducible apply e_lc2 | with_reducible apply e_dc | ((with_reducible apply e_celN); (· repeat contradiction); (· (simp only [List.length_cons, List.length_nil, Nat.zero_add, Nat.reduceAdd]; rfl)); (· (simp only [List.nil_append, List.cons_append]; rfl)))
      | ((with_reducible apply e_callK); (· repeat contradiction); (· first | with_reducible exact kwf0 | with_reducible exact kwf1 | with_reducible exact kwf2 | with_reducible exact kwf3 | with_reducible exact kwf4); (· rfl); (· rfl))
      | with_reducible exact e_glo g_LETTERS
      | with_reducible exact e_glo g_MOST_LETTERS
      | with_reducible exact e_glo g_NUMBER
      | with_reducible exact e_glo g_RECORD
      | with_reducible exact e_glo g_TELLS
      | with_reducible exact e_glo g_FEED
      | with_reducible exact e_glo g_BLANK
      )
    | ((with_reducible apply gd_A); first | with_reducible exact a_nil | with_reducible apply a_cons | with_reducible apply a_star)
    | ((with_reducible apply gd_T); first | with_reducible apply t_tru | with_reducible exact t_nil | with_reducible apply t_nt | with_reducible apply t_or | with_reducible apply t_and)
    | ((with_reducible apply gd_I); first | with_reducible apply i_itr | with_reducible apply i_rngN | with_reducible apply i_enum | with_reducible apply i_zipL | with_reducible apply i_zipT)
    | ((with_reducible apply gd_S); first
      | with_reducible apply s_seq | with_reducible exact s_nil | with_reducible apply s_ret | with_reducible apply s_ife | with_reducible apply s_ex | with_reducible apply s_for | with_reducible apply s_whl | ((with_reducible apply s_augA); (· rfl))
      | with_reducible apply s_asg)
    | ((with_reducible apply gd_asg); (simp only [asgT, setAll, wipeT, List.set_cons_zero, List.set_cons_succ]; rfl))
    | ((with_reducible apply gd_k); first | with_reducible exact k_rt | with_reducible apply k_nx)
    | with_reducible apply fn_out | with_reducible apply o_rt | with_reducible apply o_nx | with_reducible exact leave_eq | with_reducible apply leave0' | with_reducible apply leave_new0 | ((with_reducible apply leave_cell0); rfl)
    | ((with_reducible apply gd_if); first | ((with_reducible apply ite_t); (· first | assumption | with_reducible rfl | (simp [*]; done))) | ((with_reducible apply ite_f); (· first | assumption | with_reducible rfl | (simp [*]; done))))
    | ((with_reducible apply gd_cmp); first | with_reducible apply c_eq | with_reducible apply c_ne | with_reducible apply c_in | with_reducible apply c_ni | with_reducible exact c_lt | with_reducible exact c_le | with_reducible exact c_gt | with_reducible exact c_ge)
    | ((with_reducible apply gd_eq); first | with_reducible exact eq_tS _ _ _ | with_reducible exact eq_str _ _ _ | with_reducible exact eq_int _ _ _ | with_reducible exact eq_bl _ _ _ | with_reducible exact eq_lTS _ _ _ | with_reducible exact eq_tTS _ _ _ | with_reducible exact eq_lS _ _ _)
    | ((with_reducible apply gd_in); first | with_reducible exact in_tS | with_reducible exact in_lS | with_reducible exact in_lTS | with_reducible exact in_tTS | ((with_reducible apply in_cS); rfl))
    | with_reducible exact tr_bl
    | ((with_reducible apply gd_bi); first
      | with_reducible exact b_tupT | with_reducible exact b_tupL | with_reducible exact b_allM | with_reducible exact b_allF2 | with_reducible exact b_anyM | with_reducible exact b_lenT | with_reducible exact b_lenL | ((with_reducible apply b_lenC); rfl) | ((with_reducible apply b_tupC); rfl) | with_reducible exact b_strS | with_reducible apply b_strN | with_reducible exact b_int | with_reducible exact b_intB | with_reducible exact b_abs | with_reducible apply b_list | with_reducible apply b_dict
      | ((with_reducible apply b_sset); (· first | contradiction | (simp only [seqOf, List.append_nil, ← List.map_append]; rfl) | (simp only [seqOf, List.append_nil, ← List.map_append, ← List.map_flatMap]; rfl)); (· first | omega | (simp only [List.length_append, List.length_map]; omega)))
      | ((with_reducible apply b_sort); (· rfl); (· first | omega | (simp only [List.length_append, List.length_map]; omega))))
    | ((with_reducible apply gd_src); first | with_reducible exact sr_T | with_reducible exact sr_L | ((with_reducible apply sr_C); rfl) | with_reducible exact sr_D)
    | ((with_reducible apply gd_seq); first | with_reducible exact sq_T | with_reducible exact sq_L | ((with_reducible apply sq_C); rfl))
    | ((with_reducible apply gd_lc); first
      | ((with_reducible apply lcC_map (turn := turnL _ _ _ C.nil _ _) (τ := tS)); (· rfl); intro _ _) | ((with_reducible apply lcC_filter (τ := tS)); (· rfl); intro _ _)
      | ((with_reducible apply lc_map (turn := turnL _ _ _ C.nil _ _) (τ := T.str)); intro _ _) | ((with_reducible apply lc_filter (τ := T.str)); intro _ _) | ((with_reducible apply lc_map (turn := turnL _ _ _ C.nil _ _) (τ := tS)); intro _ _) | ((with_reducible apply lc_filter (τ := tS)); intro _ _))
    | ((with_reducible apply gd_turn); first
      | ((with_reducible apply turn_all); (· (simp only [asgT, setAll, wipeT, List.set_cons_zero, List.set_cons_succ]; rfl))) | ((with_reducible apply turn_if); (· (simp only [asgT, setAll, wipeT, List.set_cons_zero, List.set_cons_succ]; rfl))))
    | ((with_reducible apply gd_attr); first
      | with_reducible exact attr_fld pn_0_own_names kf_own_names fl_0_own_names
      | with_reducible exact attr_fld pn_0_own_told kf_own_told fl_0_own_told
      | with_reducible exact attr_fld pn_0_own_keysets kf_own_keysets fl_0_own_keysets
      | with_reducible apply attr_prop p_0_names
      | with_reducible apply attr_prop p_0_pairs
      | with_reducible apply attr_prop p_0_text
      | with_reducible apply attr_prop p_0_keysets
      )
    | with_reducible exact ix_dic (getD_map (by first | assumption | solve_by_elim))
    | ((with_reducible apply gd_call); first | with_reducible apply call_nil | with_reducible apply call_pure)
    | ((with_reducible apply gd_pure); first | with_reducible exact pure_tS _ | with_reducible exact pure_lS _ | with_reducible exact pure_lTS _ | with_reducible exact pure_tTS _ | with_reducible exact pure_tapp | with_reducible rfl)
    | with_reducible apply pr_val
    | ((with_reducible apply gd_dc); first | ((with_reducible apply dc_run (τ := T.str)); intro _ _) | ((with_reducible apply dc_run (τ := tS)); intro _ _))
    | ((with_reducible apply gd_turnD); ((with_reducible apply turnD_ok); (· (simp only [asgT, setAll, wipeT, List.set_cons_zero, List.set_cons_succ]; rfl))))
    | with_reducible exact ko_str | with_reducible exact recv_join | with_reducible apply meth_str
    | with_reducible apply mt_jn
    | ((with_reducible apply mt_join); (· (simp only [seqOf, List.append_nil, ← List.map_cons, ← List.map_append]; rfl)))
    | ((with_reducible apply ix_cdic); (· rfl); (· first | with_reducible exact getD_map (by first | assumption | solve_by_elim) | assumption))
    | ((with_reducible apply gd_bin); first | with_reducible apply bi_addL | with_reducible apply bi_addT | with_reducible exact bi_add | with_reducible exact bi_sub)
    | with_reducible apply ix_dic | ((with_reducible apply ix_cel); rfl) | with_reducible apply ix_lst | with_reducible apply ix_tup
    | with_reducible apply meth_cell
    | ((with_reducible apply recv_ext); rfl) | ((with_reducible apply recv_app); rfl) | ((with_reducible apply recv_pop); rfl)
    | ((with_reducible apply mt_ext); (· rfl); (· rfl)) | ((with_reducible apply mt_app); (· rfl))
    | ((with_reducible apply gd_lc2); ((with_reducible apply lc2_run (τ := T.str)); intro _ _ _ _))
    | ((with_reducible apply gd_lcA); first | ((with_reducible apply lcA_map (turn := turnL _ _ _ C.nil _ _) (τ := T.str)); intro _ _) | ((rw [List.append_nil, ← List.map_cons]); (with_reducible apply lcA_map (turn := turnL _ _ _ C.nil _ _) (τ := T.str)); intro _ _))
    | ((with_reducible apply gd_turn2); ((with_reducible apply turn2_ok); (· (simp only [asgT, setAll, wipeT, List.set_cons_zero, List.set_cons_succ]; rfl))))
    | ((with_reducible apply gd_all); (simp only [List.all_cons, List.all_nil, Bool.and_true, Bool.and_eq_true]; (repeat' constructor) <;> contradiction))
    | (intro (_ : _ = true))
    | (intro (_ : Str) (_ : _ ∈ _))
    | (refine (?_ : (_ : Nat) < _); omega)
    | (refine (?_ : (_ : Nat) ≤ _); first | omega | (simp only [List.length_map, List.length_append, List.length_cons, List.length_nil]; omega) | ((try simp only [List.length_map, List.length_append, List.length_cons, List.length_nil]); grind [Ks.tl, Ks.nl, Ks.kl, Ks.kk]))
    | assumption
    | solve_by_elim)
local macro_rules
  | `(tactic| contradiction) => `(tactic| first
    | ((with_reducible apply gd_run); first | with_reducible apply told_ok | with_reducible apply names_ok | with_reducible apply keysets_ok | with_reducible apply within_ok | with_reducible apply tells_ok | with_reducible apply below_ok | with_reducible apply joint_ok | with_reducible apply common_ok | with_reducible apply tops_ok | with_reducible apply closed_okT | with_reducible apply closed_okL)
    | ((with_reducible apply gd_recv); first | with_reducible exact recv_ins kn_told m_0_told | with_reducible exact recv_ins kn_tells m_0_tells | with_reducible exact recv_ins kn_closed m_0_closed)
    | ((with_reducible apply gd_meth); first | with_reducible apply meth_ins kn_told m_0_told | with_reducible apply meth_ins kn_tells m_0_tells | with_reducible apply meth_ins kn_closed m_0_closed)
    | with_reducible exact pure_keT _)
local macro_rules
  | `(tactic| contradiction) => `(tactic| first
    | with_reducible apply call_urn
    | with_reducible apply call_pure0
    | ((with_reducible apply i_rngLit 3); (· rfl); (· decide))
    | ((with_reducible apply i_rngLit 4); (· rfl); (· decide))
    | ((with_reducible apply i_rngLit 6); (· rfl); (· decide))
    | ((with_reducible apply i_rngLit 8); (· rfl); (· decide))
    | ((with_reducible apply i_rngLit 30); (· rfl); (· decide))
    | with_reducible exact ixl3_0 | with_reducible exact ixl3_1 | with_reducible exact ixl3_2
    | with_reducible exact ix_tup rfl
    | with_reducible exact pure_bkT _ _
    | with_reducible exact pure_keT _
    | with_reducible exact pc_lTS _
    | with_reducible apply pr_new
    | ((with_reducible apply gd_lc); with_reducible assumption)
    | ((with_reducible apply gd_run); first | with_reducible assumption | solve_by_elim)
    | with_reducible assumption)
theorem ite2_nt {α : Type} {A B res : α} (h : B = res) : (if (!true) = true then A else B) = res := h
local macro_rules
  | `(tactic| contradiction) => `(tactic| first
    | with_reducible apply ite2_nt
    | ((with_reducible apply gd_if); first | ((with_reducible apply ite_t); with_reducible assumption) | ((with_reducible apply ite_f); with_reducible assumption))
    | ((with_reducible apply gd_E); ((with_reducible apply e_cel)))
    | with_reducible exact eq_l0 | with_reducible exact eq_t1 | with_reducible exact in_tA
    | with_reducible exact ix_tup rfl
    | with_reducible exact ixl3_0
    | with_reducible exact recv_appE | with_reducible exact recv_appM
    | with_reducible apply leave_urn
    | with_reducible exact mt_app2
    | ((with_reducible apply mt_appE); (simp <;> omega)) | ((with_reducible apply mt_appM); (simp <;> omega))
    | ((with_reducible apply s_frzE); (· rfl); (· rfl))
    | ((with_reducible apply gd_call); with_reducible assumption)
    | with_reducible exact pure_bkT _ _
    | with_reducible exact pure_keT _
    | with_reducible exact pure_lTS _
    | with_reducible exact pc_lTS _
    | with_reducible exact pc_lS _
    | with_reducible apply pr_new
    | ((with_reducible apply gd_run); first | with_reducible assumption | solve_by_elim)
    | with_reducible assumption)
theorem mapO_1 {α β : Type} {f : α → Option β} {x : α} {xs : List α} {y : β} {ys : List β} (h : f x = some y) (h2 : mapO f xs = some ys) : mapO f (x :: xs) = some (y :: ys) := by simp only [mapO, h, h2]
theorem fz_l {st : Stor} {k : Nat} {xs ys : List T} (h : mapO (fzT st k) xs = some ys) : fzT st (k + 1) (.lst xs) = some (.lst ys) := by
  show (mapO (fzT st k) xs).map T.lst = _
  rw [h]; rfl
theorem fz_c {st : Stor} {k n : Nat} {xs ys : List T} (hn : st[n]? = some (.lst xs)) (h : mapO (fzT st k) xs = some ys) : fzT st (k + 1) (.cell n) = some (.lst ys) := by
  unfold fzT
  simp only [hn, h]
  rfl
theorem one_turn (k : Nat) {names : List Str} {pairs : List (Str × Str)} (h : Bk names pairs) {a : List Str} (ka : a ∈ (mkK h).ks) (u : Urn) (rest : Stor) (o1 o3 o6 o7 o8 o9 o10 : Option T) :
    ∃ (rest' : Stor) (p3 p6 p7 p8 p9 p10 : Option T), bodyF ⟨tb.G, Sv.run tb.G fnsC (k + 4)⟩ (.nm 3) c34_b1 (tS a) [some (.cell 0), o1, some (bkT names pairs), o3, some (keT (mkK h)), some (kkT h), o6, o7, o8, o9, o10, none] (urC u :: rest) =
      .ok (.nx, [some (.cell 0), o1, some (bkT names pairs), p3, some (keT (mkK h)), some (kkT h), p6, p7, p8, p9, p10, none]) (urC u :: rest') := by
  have la := ks_len4 h ka
  have l4 := h.len
  have hkl : (mkK h).ks.length ≤ 1000 := (mkK h).kl
  have hbl : (bl (mkK h) a).length ≤ 1000 := Nat.le_trans (List.length_filter_le _ _) hkl
  have lt := tp_len h ka
  have hin : ∀ b ∈ (mkK h).ks, Sv.run tb.G fnsC (k + 4) 31 [tS b, tS a] [] = .ok (.val (.bl (wi b a))) [] := fun b kb => in_ok (k + 3) b a (by have := ks_len4 h kb; omega)
  have hb1 : Sv.run tb.G fnsC (k + 4) 18 [keT (mkK h), tS a] [] = .ok (.new (.lst ((bl (mkK h) a).map tS))) [] := below_ok (k + 2) (mkK h) a []
  have hb2 : Sv.run tb.G fnsC (k + 4) 18 [keT (mkK h), lS a] [] = .ok (.new (.lst ((bl (mkK h) a).map tS))) [] := below_okL (k + 2) (mkK h) a
  have hli : Sv.run tb.G fnsC (k + 4) 24 [tS a] [] = .ok (.new (.lst (a.map .str))) [] := lists_ok (k + 2) a (by omega)
  have hto : Sv.run tb.G fnsC (k + 4) 19 [keT (mkK h), tS a] [] = .ok (.val (tS (tp (mkK h) a))) [] := tops_ok (k + 1) (mkK h) a [] (fun n hn hr => (nr_ks h ka hr).2.1 n hn) (by omega)
  have htp : Sv.run tb.G fnsC (k + 4) 32 [bkT names pairs, tS a] [] = .ok (.val (tS (tp (mkK h) a))) [] := top_ok (k + 2) h ka
  have pl3 : plT 3 (.lst ((bl (mkK h) a).map tS)) = true := by
    show (decide (((bl (mkK h) a).map tS).length ≤ 16777216) && ((bl (mkK h) a).map tS).all (plT 2)) = true
    rw [List.length_map, decide_eq_true (by omega), Bool.true_and, List.all_map, List.all_eq_true]
    exact fun x hx => pl_tS x (by have := (mkK h).kk x (List.mem_filter.mp hx).1; omega)
  have hs1 : Sv.run tb.G fnsC (k + 4) 23 [.lst ((bl (mkK h) a).map tS), .lst (((mkK h).ks.filter fun b => wi b a).map tS)] [] = .ok (.val (.bl true)) [] := same_refl 3 _ (k + 1) pl3
  have hs2 : Sv.run tb.G fnsC (k + 4) 23 [.lst [.lst ((bl (mkK h) a).map tS), .lst ((bl (mkK h) a).map tS), tS (tp (mkK h) a)], .lst [.lst (((mkK h).ks.filter fun b => wi b a).map tS), .lst (((mkK h).ks.filter fun b => wi b a).map tS), tS (tp (mkK h) a)]] [] = .ok (.val (.bl true)) [] := by
    refine same_refl 4 (.lst [.lst ((bl (mkK h) a).map tS), .lst ((bl (mkK h) a).map tS), tS (tp (mkK h) a)]) k ?_
    show (decide (3 ≤ 16777216) && (plT 3 _ && (plT 3 _ && (plT 3 (tS _) && true)))) = true
    rw [pl3]
    show ((decide ((((tp (mkK h) a).map T.str).length) ≤ 16777216) && ((tp (mkK h) a).map T.str).all (plT 2)) && true) = true
    rw [List.length_map, decide_eq_true (by omega), List.all_map, Bool.true_and, Bool.and_true, List.all_eq_true]
    exact fun x hx => rfl
  have cl3 : clB 29 (.lst ((bl (mkK h) a).map tS)) = true := by
    show ((bl (mkK h) a).map tS).all (clB 28) = true
    rw [List.all_map, List.all_eq_true]
    exact fun x hx => cl_tS 26 x
  have cl4 : ((bl (mkK h) a).map tS).all (clB 28) = true := cl3
  have hcall : callC (Sv.run tb.G fnsC (k + 4) 23) [.lst [.cell (urC u :: rest).length, .lst ((bl (mkK h) a).map tS), tS (tp (mkK h) a)], .lst [.lst (((mkK h).ks.filter fun b => wi b a).map tS), .lst (((mkK h).ks.filter fun b => wi b a).map tS), tS (tp (mkK h) a)]] (urC u :: rest ++ [.lst ((bl (mkK h) a).map tS)] ++ [.gone]) =
      .ok (.val (.bl true)) (urC u :: rest ++ [.lst ((bl (mkK h) a).map tS)] ++ [.gone]) := by
    refine call_frz (by simp) rfl ?_ hs2 rfl
    have hgone : (urC u :: rest ++ [.lst ((bl (mkK h) a).map tS)] ++ [Cell.gone])[(urC u :: rest).length]? = some (.lst ((bl (mkK h) a).map tS)) := get_mid
    generalize (urC u :: rest ++ [.lst ((bl (mkK h) a).map tS)] ++ [Cell.gone]) = SS at hgone
    have f1 : fzT SS 29 (.cell (urC u :: rest).length) = some (.lst ((bl (mkK h) a).map tS)) := fz_c hgone ((fz_cl 28).2 _ cl4)
    have f2 : fzT SS 29 (.lst ((bl (mkK h) a).map tS)) = some (.lst ((bl (mkK h) a).map tS)) := fz_pure cl3
    have f3 : fzT SS 29 (tS (tp (mkK h) a)) = some (tS (tp (mkK h) a)) := fz_pure (cl_tS 27 _)
    exact mapO_1 (fz_l (mapO_1 f1 (mapO_1 f2 (mapO_1 f3 rfl)))) (mapO_1 (fz_l (mapO_1 f2 (mapO_1 f2 (mapO_1 f3 rfl)))) rfl)
  obtain ⟨sl', st', hf, rest', p7, p8, p9, p10, e2, e3⟩ := for_all (body := bodyF ⟨tb.G, Sv.run tb.G fnsC (k + 4)⟩ (.nm 8) c34_b0) (τ := tS)
    (fun d sl st => ∃ (rest' : Stor) (p7 p8 p9 p10 : Option T), sl = [some (.cell 0), o1, some (bkT names pairs), some (tS a), some (keT (mkK h)), some (kkT h), some (.lst (((mkK h).ks.filter fun b => wi b a).map tS)), p7, p8, p9, p10, none] ∧ st = urC u :: rest') (mkK h).ks []
    [some (.cell 0), o1, some (bkT names pairs), some (tS a), some (keT (mkK h)), some (kkT h), some (.lst (((mkK h).ks.filter fun b => wi b a).map tS)), some (.lst [.cell (urC u :: rest).length, .lst ((bl (mkK h) a).map tS), tS (tp (mkK h) a)]), o8, o9, o10, none] (urC u :: rest ++ [.lst ((bl (mkK h) a).map tS ++ [.tup []])] ++ [.gone])
    ⟨_, _, _, _, _, rfl, by rw [List.append_assoc]; rfl⟩ (by
    rintro d b e sl st q ⟨rest', p7, p8, p9, p10, e2, e3⟩
    subst e2 e3
    have kb : b ∈ (mkK h).ks := by rw [List.nil_append] at q; rw [q]; simp
    exact ⟨_, _, .inl (pair_turn k h ka kb (urC u :: rest') o1 _ p7 p8 p9 p10), _, _, _, _, _, rfl, rfl⟩)
  subst e2 e3
  refine ⟨rest', some (tS a), some (.lst (((mkK h).ks.filter fun b => wi b a).map tS)), p7, p8, p9, p10, ?_⟩
  refine body_ok (by simp only [asgT, List.set_cons_zero, List.set_cons_succ]; rfl) ?_
  apply ev_end
  · repeat contradiction
  · rfl
  · rfl
theorem right_ok (u : Urn) (hu : u.ub 0) : ∃ u' : Urn, Sv.run tb.G fnsC 19 34 [.cell 0] [urC u] = .ok (.val (.bl true)) [urC u'] := by
  have hbh := by_hand_ok
  obtain ⟨sl', st', hf, u', rest', o1, o2, o3, o4, o5, o6, o7, o8, o9, o10, e2, e3, hb⟩ := for_all (body := bodyF ⟨tb.G, Sv.run tb.G fnsC 18⟩ (.nm 1) c34_b2) (τ := fun i : Nat => T.int ((i : Nat) : Int))
    (fun d sl st => ∃ (u' : Urn) (rest' : Stor) (o1 o2 o3 o4 o5 o6 o7 o8 o9 o10 : Option T), sl = [some (.cell 0), o1, o2, o3, o4, o5, o6, o7, o8, o9, o10, none] ∧ st = urC u' :: rest' ∧ u'.ub (30 * d.length)) (List.range 4) []
    [some (.cell 0), none, none, none, none, none, none, none, none, none, none, none] [urC u] ⟨u, [], none, none, none, none, none, none, none, none, none, none, rfl, rfl, by simpa using hu⟩ (by
    rintro d i e sl st q ⟨u', rest', o1, o2, o3, o4, o5, o6, o7, o8, o9, o10, e2, e3, hb⟩
    subst e2 e3
    rw [List.nil_append] at q
    have qd : d.length < 4 := by have := congrArg List.length q; simp at this; omega
    obtain ⟨names, pairs, u2, h, hbook, hu2⟩ := book_ok 15 u' _ hb (by omega)
    have hmake : makeC (Sv.run tb.G fnsC 18 4) 0 [tS names, .tup (pairs.map pT)] (urC u2 :: rest') = .ok (.new (.ins 0 [("own_names", tS (mkK h).names), ("own_told", tldT (mkK h)), ("own_keysets", .tup ((mkK h).ks.map tS))])) (urC u2 :: rest') := keys_make 16 h (urC u2 :: rest')
    have hsets := sets_ok 15 h
    have hkl : (mkK h).ks.length ≤ 1000 := (mkK h).kl
    obtain ⟨sl', st', hf, rest2, p3, p6, p7, p8, p9, p10, e2, e3⟩ := for_all (body := bodyF ⟨tb.G, Sv.run tb.G fnsC 18⟩ (.nm 3) c34_b1) (τ := tS)
      (fun d sl st => ∃ (rest2 : Stor) (p3 p6 p7 p8 p9 p10 : Option T), sl = [some (.cell 0), some (.int (i : Int)), some (bkT names pairs), p3, some (keT (mkK h)), some (kkT h), p6, p7, p8, p9, p10, none] ∧ st = urC u2 :: rest2) (mkK h).ks []
      [some (.cell 0), some (.int (i : Int)), some (bkT names pairs), o3, some (keT (mkK h)), some (kkT h), o6, o7, o8, o9, o10, none] (urC u2 :: rest') ⟨_, _, _, _, _, _, _, rfl, rfl⟩ (by
      rintro d a e sl st q ⟨rest2, p3, p6, p7, p8, p9, p10, e2, e3⟩
      subst e2 e3
      have ka : a ∈ (mkK h).ks := by rw [List.nil_append] at q; rw [q]; simp
      obtain ⟨r', q3, q6, q7, q8, q9, q10, hh⟩ := one_turn 14 h ka u2 rest2 (some (.int (i : Int))) p3 p6 p7 p8 p9 p10
      exact ⟨_, _, .inl hh, _, _, _, _, _, _, _, rfl, rfl⟩)
    subst e2 e3
    refine ⟨[some (.cell 0), some (.int (i : Int)), some (bkT names pairs), p3, some (keT (mkK h)), some (kkT h), p6, p7, p8, p9, p10, none], urC u2 :: rest2, .inl ?_, u2, rest2, _, _, _, _, _, _, _, _, _, _, rfl, rfl, ?_⟩
    · refine body_ok (by simp only [asgT, List.set_cons_zero, List.set_cons_succ]; rfl) ?_
      apply ev_end
      · repeat contradiction
      · rfl
      · rfl
    · rw [List.length_append, List.length_cons, List.length_nil]
      refine ⟨hu2.1, ?_⟩
      have := hu2.2
      omega)
  subst e2 e3
  refine ⟨u', ?_⟩
  show Sv.run tb.G fnsC (18 + 1) _ _ _ = _
  rw [u34]
  apply ev_end
  · repeat contradiction
  · rfl
  · rfl
end K03
end
section
set_option linter.all false
set_option maxRecDepth 100000
set_option maxHeartbeats 4000000
namespace K03
open PySem L2 Sv

local macro_rules
  | `(tactic| contradiction) => `(tactic| first
    | ((with_reducible apply gd_fz); first | with_reducible exact fz_val _ | with_reducible exact fz_newL _ | with_reducible exact fz_newD _ | with_reducible exact fz_newI _ _)
    | ((with_reducible apply gd_E); first
      | ((with_reducible apply e_var); rfl) | with_reducible exact e_lit | with_reducible apply e_cmp | with_reducible apply e_call | with_reducible apply e_bi | with_reducible apply e_lc | with_reducible apply e_idx | with_reducible apply e_attr | with_reducible apply e_mt
      | with_reducible apply e_tup | with_reducible apply e_lst | with_reducible apply e_bin | with_reducible apply e_ite | with_reducible apply e_nt | with_reducible apply e_andB | with_reducible apply e_orB | with_reducible apply e_neg | with_reducible apply e_slc | with_reducible apply e_isi | with_reducible apply e_make | with_reducible apply e_lc2 | with_reducible apply e_dc | ((with_reducible apply e_celN); (· repeat contradiction); (· (simp only [List.length_cons, List.length_nil, Nat.zero_add, Nat.reduceAdd]; rfl)); (· (simp only [List.nil_append, List.cons_append]; rfl)))
      | ((with_reducible apply e_callK); (· repeat contradiction); (· first | with_reducible exact kwf0 | with_reducible exact kwf1 | with_reducible exact kwf2 | with_reducible exact kwf3 | with_reducible exact kwf4); (· rfl); (· rfl))
      | with_reducible exact e_glo g_LETTERS
      | with_reducible exact e_glo g_MOST_LETTERS
      | with_reducible exact e_glo g_NUMBER
      | with_reducible exact e_glo g_RECORD
      | with_reducible exact e_glo g_TELLS
      | with_reducible exact e_glo g_FEED
      | with_reducible exact e_glo g_BLANK
      )
    | ((with_reducible apply gd_A); first | with_reducible exact a_nil | with_reducible apply a_cons | with_reducible apply a_star)
    | ((with_reducible apply gd_T); first | with_reducible apply t_tru | with_reducible exact t_nil | with_reducible apply t_nt | with_reducible apply t_or | with_reducible apply t_and)
    | ((with_reducible apply gd_I); first | with_reducible apply i_itr | with_reducible apply i_rngN | with_reducible apply i_enum | with_reducible apply i_zipL | with_reducible apply i_zipT)
    | ((with_reducible apply gd_S); first
      | with_reducible apply s_seq | with_reducible exact s_nil | with_reducible apply s_ret | with_reducible apply s_ife | with_reducible apply s_ex | with_reducible apply s_for | with_reducible apply s_whl | ((with_reducible apply s_augA); (· rfl))
      | with_reducible apply s_asg)
    | ((with_reducible apply gd_asg); (simp only [asgT, setAll, wipeT, List.set_cons_zero, List.set_cons_succ]; rfl))
    | ((with_reducible apply gd_k); first | with_reducible exact k_rt | with_reducible apply k_nx)
    | with_reducible apply fn_out | with_reducible apply o_rt | with_reducible apply o_nx | with_reducible exact leave_eq | with_reducible apply leave0' | with_reducible apply leave_new0 | ((with_reducible apply leave_cell0); rfl)
    | ((with_reducible apply gd_if); first | ((with_reducible apply ite_t); (· first | assumption | with_reducible rfl | (simp [*]; done))) | ((with_reducible apply ite_f); (· first | assumption | with_reducible rfl | (simp [*]; done))))
    | ((with_reducible apply gd_cmp); first | with_reducible apply c_eq | with_reducible apply c_ne | with_reducible apply c_in | with_reducible apply c_ni | with_reducible exact c_lt | with_reducible exact c_le | with_reducible exact c_gt | with_reducible exact c_ge)
    | ((with_reducible apply gd_eq); first | with_reducible exact eq_tS _ _ _ | with_reducible exact eq_str _ _ _ | with_reducible exact eq_int _ _ _ | with_reducible exact eq_bl _ _ _ | with_reducible exact eq_lTS _ _ _ | with_reducible exact eq_tTS _ _ _ | with_reducible exact eq_lS _ _ _)
    | ((with_reducible apply gd_in); first | with_reducible exact in_tS | with_reducible exact in_lS | with_reducible exact in_lTS | with_reducible exact in_tTS | ((with_reducible apply in_cS); rfl))
    | with_reducible exact tr_bl
    | ((with_reducible apply gd_bi); first
      | with_reducible exact b_tupT | with_reducible exact b_tupL | with_reducible exact b_allM | with_reducible exact b_allF2 | with_reducible exact b_anyM | with_reducible exact b_lenT | with_reducible exact b_lenL | ((with_reducible apply b_lenC); rfl) | ((with_reducible apply b_tupC); rfl) | with_reducible exact b_strS | with_reducible apply b_strN | with_reducible exact b_int | with_reducible exact b_intB | with_reducible exact b_abs | with_reducible apply b_list | with_reducible apply b_dict
      | ((with_reducible apply b_sset); (· first | contradiction | (simp only [seqOf, List.append_nil, ← List.map_append]; rfl) | (simp only [seqOf, List.append_nil, ← List.map_append, ← List.map_flatMap]; rfl)); (· first | omega | (simp only [List.length_append, List.length_map]; omega)))
      | ((with_reducible apply b_sort); (· rfl); (· first | omega | (simp only [List.length_append, List.length_map]; omega))))
    | ((with_reducible apply gd_src); first | with_reducible exact sr_T | with_reducible exact sr_L | ((with_reducible apply sr_C); rfl) | with_reducible exact sr_D)
    | ((with_reducible apply gd_seq); first | with_reducible exact sq_T | with_reducible exact sq_L | ((with_reducible apply sq_C); rfl))
    | ((with_reducible apply gd_lc); first
      | ((with_reducible apply lcC_map (turn := turnL _ _ _ C.nil _ _) (τ := tS)); (· rfl); intro _ _) | ((with_reducible apply lcC_filter (τ := tS)); (· rfl); intro _ _)
      | ((with_reducible apply lc_map (turn := turnL _ _ _ C.nil _ _) (τ := T.str)); intro _ _) | ((with_reducible apply lc_filter (τ := T.str)); intro _ _) | ((with_reducible apply lc_map (turn := turnL _ _ _ C.nil _ _) (τ := tS)); intro _ _) | ((with_reducible apply lc_filter (τ := tS)); intro _ _))
    | ((with_reducible apply gd_turn); first
      | ((with_reducible apply turn_all); (· (simp only [asgT, setAll, wipeT, List.set_cons_zero, List.set_cons_succ]; rfl))) | ((with_reducible apply turn_if); (· (simp only [asgT, setAll, wipeT, List.set_cons_zero, List.set_cons_succ]; rfl))))
    | ((with_reducible apply gd_attr); first
      | with_reducible exact attr_fld pn_0_own_names kf_own_names fl_0_own_names
      | with_reducible exact attr_fld pn_0_own_told kf_own_told fl_0_own_told
      | with_reducible exact attr_fld pn_0_own_keysets kf_own_keysets fl_0_own_keysets
      | with_reducible apply attr_prop p_0_names
      | with_reducible apply attr_prop p_0_pairs
      | with_reducible apply attr_prop p_0_text
      | with_reducible apply attr_prop p_0_keysets
      )
    | with_reducible exact ix_dic (getD_map (by first | assumption | solve_by_elim))
    | ((with_reducible apply gd_call); first | with_reducible apply call_nil | with_reducible apply call_pure)
    | ((with_reducible apply gd_pure); first | with_reducible exact pure_tS _ | with_reducible exact pure_lS _ | with_reducible exact pure_lTS _ | with_reducible exact pure_tTS _ | with_reducible exact pure_tapp | with_reducible rfl)
    | with_reducible apply pr_val
    | ((with_reducible apply gd_dc); first | ((with_reducible apply dc_run (τ := T.str)); intro _ _) | ((with_reducible apply dc_run (τ := tS)); intro _ _))
    | ((with_reducible apply gd_turnD); ((with_reducible apply turnD_ok); (· (simp only [asgT, setAll, wipeT, List.set_cons_zero, List.set_cons_succ]; rfl))))
    | with_reducible exact ko_str | with_reducible exact recv_join | with_reducible apply meth_str
    | with_reducible apply mt_jn
    | ((with_reducible apply mt_join); (· (simp only [seqOf, List.append_nil, ← List.map_cons, ← List.map_append]; rfl)))
    | ((with_reducible apply ix_cdic); (· rfl); (· first | with_reducible exact getD_map (by first | assumption | solve_by_elim) | assumption))
    | ((with_reducible apply gd_bin); first | with_reducible apply bi_addL | with_reducible apply bi_addT | with_reducible exact bi_add | with_reducible exact bi_sub)
    | with_reducible apply ix_dic | ((with_reducible apply ix_cel); rfl) | with_reducible apply ix_lst | with_reducible apply ix_tup
    | with_reducible apply meth_cell
    | ((with_reducible apply recv_ext); rfl) | ((with_reducible apply recv_app); rfl) | ((with_reducible apply recv_pop); rfl)
    | ((with_reducible apply mt_ext); (· rfl); (· rfl)) | ((with_reducible apply mt_app); (· rfl))
    | ((with_reducible apply gd_lc2); ((with_reducible apply lc2_run (τ := T.str)); intro _ _ _ _))
    | ((with_reducible apply gd_lcA); first | ((with_reducible apply lcA_map (turn := turnL _ _ _ C.nil _ _) (τ := T.str)); intro _ _) | ((rw [List.append_nil, ← List.map_cons]); (with_reducible apply lcA_map (turn := turnL _ _ _ C.nil _ _) (τ := T.str)); intro _ _))
    | ((with_reducible apply gd_turn2); ((with_reducible apply turn2_ok); (· (simp only [asgT, setAll, wipeT, List.set_cons_zero, List.set_cons_succ]; rfl))))
    | ((with_reducible apply gd_all); (simp only [List.all_cons, List.all_nil, Bool.and_true, Bool.and_eq_true]; (repeat' constructor) <;> contradiction))
    | (intro (_ : _ = true))
    | (intro (_ : Str) (_ : _ ∈ _))
    | (refine (?_ : (_ : Nat) < _); omega)
    | (refine (?_ : (_ : Nat) ≤ _); first | omega | (simp only [List.length_map, List.length_append, List.length_cons, List.length_nil]; omega) | ((try simp only [List.length_map, List.length_append, List.length_cons, List.length_nil]); grind [Ks.tl, Ks.nl, Ks.kl, Ks.kk]))
    | assumption
    | solve_by_elim)
local macro_rules
  | `(tactic| contradiction) => `(tactic| first
    | ((with_reducible apply gd_lc); assumption)
    | with_reducible exact b_allL
    | ((with_reducible apply gd_run); first | assumption | solve_by_elim))
theorem law_turn (ns cs : List Int) (i : Nat) (hi : i < cs.length) (st : Stor) : ∃ st', turnL ⟨tb.G, Sv.run tb.G fnsC 19⟩ (.call 34 (.cons (.cel (.call 20 (.cons (.var 1) (.cons (.var 2) .nil)))) .nil)) (.nm 2) .nil [2] [some (.scr ns), some (.lst (cs.map .int)), none] (.int (i : Int)) st = .ok (some (.bl true)) st' := by
  have hbox : Sv.run tb.G fnsC 19 20 [.lst (cs.map .int), .int (i : Int)] [] = .ok (.new (urC ⟨boxA (cs.getD i 0), boxB (cs.getD i 0) i, 0⟩)) [] := box_ok 18 cs i hi
  obtain ⟨u', hr⟩ := right_ok ⟨boxA (cs.getD i 0), boxB (cs.getD i 0) i, 0⟩ ⟨Int.le_refl _, Int.le_refl _⟩
  have hp : pureB (.lst (cs.map T.int)) = true := by
    show (cs.map T.int).all (clB 29) = true
    rw [List.all_map, List.all_eq_true]
    exact fun _ _ => rfl
  refine ⟨(st ++ [urC ⟨boxA (cs.getD i 0), boxB (cs.getD i 0) i, 0⟩]).set st.length (urC u'), ?_⟩
  refine turn_all (sl1 := [some (.scr ns), some (.lst (cs.map .int)), some (.int (i : Int))]) rfl (e_call (a_cons (e_cel (e_call (a_cons (e_var rfl) rfl (a_cons (e_var rfl) rfl a_nil)) (call_pure ?_ hbox rfl))) rfl a_nil) (call_cell ?_ (pc_urn _) rfl hr rfl (pc_urn _))) rfl
  · show (pureB (.lst (cs.map T.int)) && (pureB (.int (i : Int)) && true)) = true
    rw [hp]; rfl
  · simp
theorem law_ok (ns : List Int) (hn : ns.length ≤ 63) : Sv.run tb.G fnsC 20 35 [.scr ns] [] = .ok (.val (.bl true)) [] := by
  obtain ⟨cs, hcl, hc⟩ := cells_ok 18 ns hn 3 (by decide)
  replace hc : Sv.run tb.G fnsC 19 22 [.scr ns, .int 3] [] = .ok (.new (.lst (cs.map .int))) [] := hc
  obtain ⟨xs, st', e, ⟨m, e1⟩, hl⟩ := lc_st (turn := turnL ⟨tb.G, Sv.run tb.G fnsC 19⟩ (.call 34 (.cons (.cel (.call 20 (.cons (.var 1) (.cons (.var 2) .nil)))) .nil)) (.nm 2) .nil [2] [some (.scr ns), some (.lst (cs.map .int)), none]) (τ := fun i : Nat => T.int ((i : Nat) : Int))
    (fun xs st => ∃ m : Nat, xs = (List.replicate m true).map .bl) cs.length (by omega) (List.range cs.length) [] [] ⟨0, rfl⟩ (by
    rintro i hi xs st hx ⟨m, e⟩
    obtain ⟨st', h⟩ := law_turn ns cs i (List.mem_range.mp hi) st
    exact ⟨_, st', h, m + 1, by rw [e, List.replicate_succ', List.map_append]; rfl⟩) (by simp)
  subst e1
  have hlc : lcSrc (turnL ⟨tb.G, Sv.run tb.G fnsC 19⟩ (.call 34 (.cons (.cel (.call 20 (.cons (.var 1) (.cons (.var 2) .nil)))) .nil)) (.nm 2) .nil [2] [some (.scr ns), some (.lst (cs.map .int)), none]) (.fix ((List.range (cs.map T.int).length).map fun i : Nat => T.int ((i : Nat) : Int))) [] = .ok ((List.replicate m true).map .bl) st' := by
    rw [List.length_map, lc_src]; exact e
  show Sv.run tb.G fnsC (19 + 1) _ _ _ = _
  rw [u35]
  apply ev_end
  · repeat contradiction
  · simp
  · rfl
end K03
end
theorem PySem.Challenge.cw_surershares_k03_two_keysets_holds : PySem.Challenge.rw_surershares_k03_two_keysets.Holds :=
  K03.holds_of (fun ns hn => by rw [K03.fns_eq]; exact K03.law_ok ns hn)
