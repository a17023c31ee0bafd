import PyProof.Rows.All
import Wide.All
import OpenK.AllK
import Wide.FinOn
import HandS.ForMost
import HandS.Exc
import HandS.WordsExc
import HandS.Star
import HandS.Deep
import HandS.TupAny
import HandS.TupMul
import HandS.Style
import HandS.Zip
import HandS.Conv
import HandS.IsInst
import HandS.SortInts
import HandS.Flow
import HandS.NamedTupSort
import KE.KTupSum
import PyProof.ReprRoads
import KE.GoesMore
import HandS.ClsMeth
import HandS.Property
import HandS.CallRecv
import HandS.GenCall
import HandS.GenList
import HandS.Small
import PySem.Challenge.RW_handwalk_k09_walks_turned
set_option Elab.async false
set_option linter.all false
set_option maxRecDepth 100000
set_option maxHeartbeats 4000000
/-! the data interpreter: values as trees, lists by value; an interpreter over a small tree of its own -/
namespace DI
open PySem L2

/-- a key of a dict: an int, a text, or a tuple of these -/
abbrev KD := Sum Key (List Key)
/-- a value as a tree -/
inductive D where
  | non | bl (b : Bool) | int (i : Int) | str (s : Str)
  | tup (l : List D) | lst (l : List D) | dic (tk : Bool) (ks : List KD) (vs : List D)
  | ins (c : Nat) (ks : List Str) (vs : List D)
  | obj (n : Nat) | fn (f : Nat) | cls (c : Nat) | ty (n : String)
  | scr (ns : List Int)
/-- what stands in the store: things that are changed while several names see them -/
inductive Cell where
  | lst (l : List D) | dic (tk : Bool) (ks : List KD) (vs : List D) | ins (c : Nat) (ks : List Str) (vs : List D)
abbrev Store := List Cell
/-- an end: a value, an exception, or no word -/
inductive R (A : Type) where
  | ok (a : A) (st : Store) | err (e : D) (st : Store) | no
def R.bind {A B : Type} (r : R A) (f : A → Store → R B) : R B := match r with
  | .ok a st => f a st
  | .err e st => .err e st
  | .no => .no
/-- an exception is no word here -/
def R.calm {A : Type} (r : R A) : R A := match r with
  | .ok a st => .ok a st
  | .err _ _ => .no
  | .no => .no
def R.of {A : Type} (o : Option A) (st : Store) : R A := match o with
  | some a => .ok a st
  | none => .no
abbrev Env := List (Option D)
abbrev Calls := Nat → List D → Store → R D
inductive Out where
  | nxt (S : Env) (st : Store) | brk (S : Env) (st : Store) | cnt (S : Env) (st : Store) | ret (d : D) (st : Store) | err (e : D) (st : Store) | no

/-! ### the tree -/
/-- the built-in functions that are served -/
inductive Bi where
  | len | list | tuple | sum | all | any | min | max | sorted | abs | isi | repr | listRg | tupRg | lenSet
  deriving DecidableEq
/-- methods of built-in types that change nothing -/
inductive Mt where
  | index | count
  deriving DecidableEq
mutual
inductive IE where
  | var (i : Nat) | con (d : D) | glb (x : Str) (d : D)
  | bin (op : Operator) (a b : IE)
  | neg (a : IE) | not (a : IE)
  | cmp (op : CmpOp) (a b : IE)
  | chn (o1 o2 : CmpOp) (a b c : IE)
  | and (a b : IE) | or (a b : IE)
  | ite (c a b : IE)
  | tup (es : IEs) | lst (es : IEs) | dnw (tk : Bool) | dsp (ks : List Str) (vs : IEs)
  | idx (a i : IE)
  | slc (a lo hi : IE) | rev (a : IE) | gap
  | blt (b : Bi) (es : IEs)
  | mth (m : Mt) (o : IE) (es : IEs)
  | cal (f : Nat) (x : Str) (es : IEs)
  | lcp (e : IE) (t : IT) (it : II) (c : IEs) (own : List Nat)
  | att (a : IE) (x : Str)
  | prp (c f : Nat) (a : IE) (x : Str)
  | mtd (c f : Nat) (x : Str) (o : IE) (es : IEs)
  | lnO (c f : Nat) (a : IE)
  | new (c f : Nat) (x : Str) (es : IEs)
  | cst (c : Nat) (x y : Str) (d : D)
  | gls (f : Nat) (x : Str) (es : IEs) (c : IE)
inductive IEs where
  | nil | cons (e : IE) (es : IEs)
/-- targets -/
inductive IT where
  | nam (i : Nat) | tup (ts : ITs) | sub (i : Nat) (k : IE) | att (o : IE) (x : Str)
inductive ITs where
  | nil | cons (t : IT) (ts : ITs)
/-- what a loop walks -/
inductive II where
  | val (e : IE) | rng (es : IEs) | enm (e : IE) | zip (a b : IE)
end
mutual
inductive IS where
  | set (i : Nat) (e : IE) | seto (i : Nat) (e : IE) | setr (i : Nat) (e : IE)
  | unp (t : IT) (e : IE) | par (is : List (Nat × Bool)) (es : IEs) | unt (ts : ITs) (es : IEs)
  | sti (i : Nat) (k e : IE) | sto (o k e : IE) | stor (o k e : IE)
  | aug (i : Nat) (op : Operator) (e : IE)
  | app (i : Nat) (e : IE) | apo (i j : Nat) (e : IE)
  | exp (e : IE)
  | ret (e : IE) | iff (c : IE) (a b : ISs) | whl (c : IE) (b : ISs) (g : List Nat) | frr (t : IT) (it : II) (b : ISs) (g : List Nat)
  | brk | cnt | pas | nvr | frz (i : Nat)
  | sat (o : IE) (x : Str) (e : IE) | spp (i j : Nat) | pop (j : Nat)
inductive ISs where
  | nil | cons (s : IS) (r : ISs)
end

/-! ### what the operators give -/
mutual
def D.py : D → PyData
  | .non => .none
  | .bl b => .bool b
  | .int i => .int i
  | .str s => .str s
  | .tup l => .tuple (pys l)
  | .lst l => .list (pys l)
  | .dic _ _ _ => .dict []
  | .ins _ _ _ => .dict []
  | .obj _ => .dict []
  | .fn _ => .dict []
  | .cls _ => .dict []
  | .ty _ => .dict []
  | .scr _ => .dict []
def pys : List D → List PyData
  | [] => []
  | d :: r => d.py :: pys r
end
/-- seen through the store -/
def see (st : Store) : D → D
  | .obj n => match st[n]? with
    | some (.lst l) => .lst l
    | some (.dic t ks vs) => .dic t ks vs
    | some (.ins c ks vs) => .ins c ks vs
    | _ => .obj n
  | d => d
/-- an instance's attribute -/
def lookF : List Str → List D → Str → Option D
  | k :: ks, v :: vs, x => if k = x then some v else lookF ks vs x
  | _, _, _ => none
def putA : List Str → List D → Str → D → List Str × List D
  | k :: ks, v :: vs, x, d => if k = x then (k :: ks, d :: vs) else (k :: (putA ks vs x d).1, v :: (putA ks vs x d).2)
  | _, _, x, d => ([x], [d])
def attD (o : D) (x : Str) : Option D := match o with
  | .ins _ ks vs => lookF ks vs x
  | _ => none
/-- the instance at a reference, of a class -/
def insAt (st : Store) (o : D) (c : Nat) : Option (List Str × List D) := match o with
  | .obj n => match st[n]? with
    | some (.ins c' ks vs) => if c' = c then some (ks, vs) else none
    | _ => none
  | _ => none
/-- an attribute is stored -/
def satD (st : Store) (o : D) (x : Str) (d : D) : Option Store := match o with
  | .obj n => match st[n]? with
    | some (.ins c ks vs) => if ks.length < 1000 then some (st.set n (.ins c (putA ks vs x d).1 (putA ks vs x d).2)) else none
    | _ => none
  | _ => none
def eqD (x y : D) : Option Bool := if SeqAt.shaped x.py && SeqAt.shaped y.py then some (PyData.eqv x.py y.py) else none
def mulOk (i j : Int) : Bool := decide (-(2 ^ 64) < i ∧ i < 2 ^ 64) || decide (-(2 ^ 64) < j ∧ j < 2 ^ 64)
def binD : Operator → D → D → Option D
  | .Add, .int i, .int j => some (.int (i + j))
  | .Add, .str x, .str y => if x.length + y.length ≤ 16777216 then some (.str (x ++ y)) else none
  | .Add, .lst x, .lst y => if x.length + y.length ≤ 16777216 then some (.lst (x ++ y)) else none
  | .Add, .tup x, .tup y => if x.length + y.length ≤ 16777216 then some (.tup (x ++ y)) else none
  | .Sub, .int i, .int j => some (.int (i - j))
  | .Mult, .int i, .int j => if mulOk i j then some (.int (i * j)) else none
  | .Mult, .lst x, .int k => if -(2 ^ 63) ≤ k ∧ k < 2 ^ 63 ∧ x.length * k.toNat ≤ 16777216 then some (.lst (List.replicate k.toNat x).flatten) else none
  | .Mult, .tup x, .int k => if x.isEmpty = false ∧ 2 ≤ k ∧ k ≤ 1000 ∧ x.length ≤ 1000 then some (.tup (List.replicate k.toNat x).flatten) else none
  | .FloorDiv, .int i, .int j => if j ≠ 0 ∧ j.natAbs < 1073741824 then some (.int (i.fdiv j)) else none
  | .Mod, .int i, .int j => if j ≠ 0 then some (.int (i.fmod j)) else none
  | .Pow, .int i, .int j => if 0 ≤ j ∧ j ≤ 1000000 ∧ i.natAbs < 2 ^ 64 then some (.int (i ^ j.toNat)) else none
  | _, _, _ => none
def intsOf : List D → Option (List Int)
  | [] => some []
  | .int i :: r => (intsOf r).map (i :: ·)
  | _ :: _ => none
def blsOf : List D → Option (List Bool)
  | [] => some []
  | .bl b :: r => (blsOf r).map (b :: ·)
  | _ :: _ => none
def keyOf : D → Option Key
  | .int i => some (.inl i)
  | .str s => some (.inr s)
  | _ => none
def keysOf : List D → Option (List Key)
  | [] => some []
  | d :: r => match keyOf d, keysOf r with
    | some k, some ks => some (k :: ks)
    | _, _ => none
def kdOf : D → Option KD
  | .int i => some (.inl (.inl i))
  | .str s => some (.inl (.inr s))
  | .tup l => (keysOf l).map .inr
  | _ => none
def getK : List KD → List D → KD → Option D
  | k :: ks, v :: vs, j => if k = j then some v else getK ks vs j
  | _, _, _ => none
def putK (ks : List KD) (vs : List D) (j : KD) (w : D) : List KD × List D :=
  if ks.any (fun k => decide (k = j)) then (ks, List.zipWith (fun k v => if k = j then w else v) ks vs) else (ks ++ [j], vs ++ [w])
/-- a key that fits the dict's kind -/
def fits (tk : Bool) : KD → Bool
  | .inl _ => !tk
  | .inr _ => tk
def inD (x y : D) : Option Bool := match y with
  | .lst l => if SeqAt.shaped x.py && SeqAt.shaped (PyData.list (pys l)) then some ((pys l).any fun z => PyData.eqv z x.py) else none
  | .tup l => if SeqAt.shaped x.py && SeqAt.shaped (PyData.list (pys l)) then some ((pys l).any fun z => PyData.eqv z x.py) else none
  | .dic tk ks vs => match kdOf x with
    | some k => if fits tk k then some (getK ks vs k).isSome else none
    | none => none
  | .str b => match x with
    | .str a => some (!(Builtin.Str.occurrences b a 0 b.length 1).isEmpty)
    | _ => none
  | _ => none
def ltD : D → D → Option Bool
  | .int i, .int j => some (decide (i < j))
  | .str x, .str y => some (decide (x.cps.toList < y.cps.toList))
  | .tup x, .tup y => match intsOf x, intsOf y with
    | some a, some b => some (HT.lexLt a b)
    | _, _ => none
  | _, _ => none
def cmpD (op : CmpOp) (x y : D) : Option Bool := match op with
  | .Eq => eqD x y
  | .NotEq => (eqD x y).map not
  | .Lt => ltD x y
  | .LtE => match x, y with
    | .int i, .int j => some (decide (i ≤ j))
    | _, _ => none
  | .Gt => match x, y with
    | .int i, .int j => some (decide (j < i))
    | _, _ => none
  | .GtE => match x, y with
    | .int i, .int j => some (decide (j ≤ i))
    | _, _ => none
  | .Is => match x, y with
    | .bl a, .bl b => some (a == b)
    | .non, .non => some true
    | .bl _, .non => some false
    | .int _, .non => some false
    | .str _, .non => some false
    | .tup _, .non => some false
    | .lst _, .non => some false
    | .ins _ _ _, .non => some false
    | .obj _, .non => some false
    | _, _ => none
  | .IsNot => match x, y with
    | .bl a, .bl b => some (!(a == b))
    | .non, .non => some false
    | .bl _, .non => some true
    | .int _, .non => some true
    | .str _, .non => some true
    | .tup _, .non => some true
    | .lst _, .non => some true
    | .ins _ _ _, .non => some true
    | .obj _, .non => some true
    | _, _ => none
  | .In => inD x y
  | .NotIn => (inD x y).map not
def truD : D → Option Bool
  | .non => some false
  | .bl b => some b
  | .int i => some (i != 0)
  | .str s => if s.length ≤ 16777216 then some ((s.length : Int) != 0) else none
  | .tup l => some !l.isEmpty
  | .lst l => some !l.isEmpty
  | .dic false ks _ => some !ks.isEmpty
  | _ => none
def idxD : D → D → Option D
  | .lst l, .int i => atI l i
  | .tup l, .int i => atI l i
  | .str s, .int i => if s.length ≤ 16777216 then (atI s.cps.toList i).map fun c => .str ⟨#[c]⟩ else none
  | .dic tk ks vs, k => match kdOf k with
    | some j => if fits tk j then getK ks vs j else none
    | none => none
  | _, _ => none
/-- a slice's part: the gap, or an int -/
def partD : D → Option (Option Int)
  | .non => some none
  | .int i => some (some i)
  | _ => none
def cutD (l : List D) (lo hi : Option Int) : List D := (l.drop (HT.sIx l.length 0 lo)).take (HT.sIx l.length l.length hi - HT.sIx l.length 0 lo)
def slcD (x : D) (lo hi : Option Int) : Option D := match x with
  | .lst l => some (.lst (cutD l lo hi))
  | .tup l => some (.tup (cutD l lo hi))
  | _ => none
def rangeD (lo hi : Int) : List D := (List.range (hi - lo).toNat).map fun (k : Nat) => .int (lo + (k : Int))
def rngD : List D → Option (List D)
  | [.int b] => if -(2 ^ 62) ≤ b ∧ b < 2 ^ 62 then some (rangeD 0 b) else none
  | [.int a, .int b] => if (-(2 ^ 62) ≤ a ∧ a < 2 ^ 62) ∧ (-(2 ^ 62) ≤ b ∧ b < 2 ^ 62) then some (rangeD a b) else none
  | _ => none
/-- insertion by the order of ints: what sorted gives -/
def insI (x : Int) : List Int → List Int
  | [] => [x]
  | y :: r => if x ≤ y then x :: y :: r else y :: insI x r
def sortI : List Int → List Int
  | [] => []
  | x :: r => insI x (sortI r)
/-- insertion by the order of lists of ints -/
def insL (x : List Int) : List (List Int) → List (List Int)
  | [] => [x]
  | y :: r => if HT.lexLt y x = false then x :: y :: r else y :: insL x r
def sortL : List (List Int) → List (List Int)
  | [] => []
  | x :: r => insL x (sortL r)
/-- tuples of ints, none empty -/
def tupsOf : List D → Option (List (List Int))
  | [] => some []
  | .tup l :: r => match intsOf l with
    | some (n :: ns) => (tupsOf r).map ((n :: ns) :: ·)
    | _ => none
  | _ :: _ => none
def maxI (x : Int) : List Int → Int
  | [] => x
  | y :: r => maxI (if y > x then y else x) r
def minI (x : Int) : List Int → Int
  | [] => x
  | y :: r => minI (if y < x then y else x) r
def nodupB : List Int → Bool
  | [] => true
  | x :: r => !(r.contains x) && nodupB r
def isiD : D → String → Option Bool
  | .int _, "int" => some true
  | .int _, "bool" => some false
  | .int _, "tuple" => some false
  | .int _, "str" => some false
  | .bl _, "int" => some true
  | .bl _, "bool" => some true
  | .bl _, "tuple" => some false
  | .bl _, "str" => some false
  | .tup _, "tuple" => some true
  | .tup _, "int" => some false
  | .tup _, "bool" => some false
  | .tup _, "str" => some false
  | .lst _, "tuple" => some false
  | .lst _, "int" => some false
  | .lst _, "bool" => some false
  | .lst _, "str" => some false
  | .non, "tuple" => some false
  | .non, "int" => some false
  | .non, "bool" => some false
  | .non, "str" => some false
  | .str _, "tuple" => some false
  | .str _, "int" => some false
  | .str _, "bool" => some false
  | .str _, "str" => some true
  | .dic _ _ _, "tuple" => some false
  | .dic _ _ _, "int" => some false
  | .dic _ _ _, "bool" => some false
  | .dic _ _ _, "str" => some false
  | _, _ => none
def bltD (b : Bi) (ds : List D) : Option D := match b with
  | .len => match ds with
    | [.lst l] => some (.int l.length)
    | [.tup l] => some (.int l.length)
    | [.dic false ks _] => some (.int ks.length)
    | [.str s] => if s.length ≤ 16777216 then some (.int s.length) else none
    | _ => none
  | .list => match ds with
    | [.lst l] => some (.lst l)
    | [.tup l] => some (.lst l)
    | _ => none
  | .tuple => match ds with
    | [.lst l] => some (.tup l)
    | [.tup l] => some (.tup l)
    | _ => none
  | .sum => match ds with
    | [.lst l] => (intsOf l).map fun ns => .int ns.sum
    | [.tup l] => (intsOf l).map fun ns => .int ns.sum
    | _ => none
  | .repr => match ds with
    | [.tup l] => if (D.tup l).py.showable && SeqAt.shaped (D.tup l).py && !(D.tup l).py.hasDict && decide ((D.tup l).py.shown.length ≤ 16777216) then some (.str (D.tup l).py.shown) else none
    | [.lst l] => if (D.lst l).py.showable && SeqAt.shaped (D.lst l).py && !(D.lst l).py.hasDict && decide ((D.lst l).py.shown.length ≤ 16777216) then some (.str (D.lst l).py.shown) else none
    | _ => none
  | .all => match ds with
    | [.lst l] => (blsOf l).map fun bs => .bl (bs.all id)
    | _ => none
  | .any => match ds with
    | [.lst l] => (blsOf l).map fun bs => .bl (bs.any id)
    | _ => none
  | .sorted => match ds with
    | [.lst l] => match intsOf l with
      | some ns => some (.lst ((sortI ns).map .int))
      | none => (tupsOf l).map fun nss => .lst ((sortL nss).map fun ns => .tup (ns.map .int))
    | [.tup l] => match intsOf l with
      | some ns => some (.lst ((sortI ns).map .int))
      | none => (tupsOf l).map fun nss => .lst ((sortL nss).map fun ns => .tup (ns.map .int))
    | _ => none
  | .max => match ds with
    | [.lst l] => match intsOf l with
      | some (n :: ns) => some (.int (maxI n ns))
      | _ => none
    | [.int i, .int j] => some (.int (if j > i then j else i))
    | _ => none
  | .min => match ds with
    | [.lst l] => match intsOf l with
      | some (n :: ns) => some (.int (minI n ns))
      | _ => none
    | [.tup l] => match intsOf l with
      | some (n :: ns) => some (.int (minI n ns))
      | _ => none
    | [.int i, .int j] => some (.int (if j < i then j else i))
    | _ => none
  | .abs => match ds with
    | [.int i] => some (.int (if i < 0 then -i else i))
    | _ => none
  | .isi => match ds with
    | [x, .ty n] => (isiD x n).map .bl
    | _ => none
  | .listRg => match rngD ds with
    | some l => if l.length ≤ 16777216 then some (.lst l) else none
    | none => none
  | .tupRg => match rngD ds with
    | some l => if l.length ≤ 16777216 then some (.tup l) else none
    | none => none
  | .lenSet => match ds with
    | [.lst l] => match intsOf l with
      | some ns => if ns.length < 64 ∧ nodupB ns then some (.int ns.length) else none
      | none => none
    | _ => none
/-- the first place of an equal item -/
def findD (x : PyData) : List D → Option Nat
  | [] => none
  | y :: r => if PyData.eqv y.py x then some 0 else (findD x r).map (· + 1)
def mthD (m : Mt) (o : D) (ds : List D) : Option D := match m, o, ds with
  | .index, .lst l, [x] => if SeqAt.shaped x.py && SeqAt.shaped (PyData.list (pys l)) then (findD x.py l).map fun j => .int j else none
  | _, _, _ => none

/-! ### running -/
def wipeE (S : Env) : List Nat → Env
  | [] => S
  | v :: vs => (wipeE S vs).set v none
/-- the items of a loop, one by one: what each gives is gathered -/
def compR (f : D → Store → R (Option D)) : List D → Store → R (List D)
  | [], st => .ok [] st
  | x :: r, st => (f x st).bind fun o st1 => (compR f r st1).bind fun l st2 => match o with
    | some d => .ok (d :: l) st2
    | none => .ok l st2
def isGap : IE → Bool
  | .gap => true
  | _ => false
def intR (d : D) (st : Store) : R (Option Int) := match d with
  | .int i => .ok (some i) st
  | _ => .no
mutual
def ev (P : Calls) (S : Env) : IE → Store → R D
  | .var i, st => match S[i]? with
    | some (some d) => .ok d st
    | _ => .no
  | .con d, st => .ok d st
  | .glb _ d, st => .ok d st
  | .bin op a b, st => (ev P S a st).bind fun x st => (ev P S b st).bind fun y st => .of (binD op (see st x) (see st y)) st
  | .neg a, st => (ev P S a st).bind fun x st => match x with
    | .int i => .ok (.int (-i)) st
    | _ => .no
  | .not a, st => (ev P S a st).bind fun x st => .of ((truD (see st x)).map fun b => .bl (!b)) st
  | .cmp op a b, st => (ev P S a st).bind fun x st => (ev P S b st).bind fun y st => .of ((cmpD op (see st x) (see st y)).map .bl) st
  | .chn o1 o2 a b c, st => (ev P S a st).bind fun x st => (ev P S b st).bind fun y st => match cmpD o1 (see st x) (see st y) with
    | some true => (ev P S c st).bind fun z st => .of ((cmpD o2 (see st y) (see st z)).map .bl) st
    | some false => .ok (.bl false) st
    | none => .no
  | .and a b, st => (ev P S a st).bind fun x st => match truD (see st x) with
    | some true => ev P S b st
    | some false => .ok x st
    | none => .no
  | .or a b, st => (ev P S a st).bind fun x st => match truD (see st x) with
    | some true => .ok x st
    | some false => ev P S b st
    | none => .no
  | .ite c a b, st => (ev P S c st).bind fun x st => match truD (see st x) with
    | some true => ev P S a st
    | some false => ev P S b st
    | none => .no
  | .tup es, st => (evs P S es st).bind fun l st => if l.length ≤ 16777216 then .ok (.tup l) st else .no
  | .lst es, st => (evs P S es st).bind fun l st => if l.length ≤ 16777216 then .ok (.lst l) st else .no
  | .dnw tk, st => .ok (.dic tk [] []) st
  | .dsp ks vs, st => (evs P S vs st).bind fun l st => if ks.Nodup ∧ l.length = ks.length then .ok (.dic false (ks.map fun s => .inl (.inr s)) l) st else .no
  | .idx a i, st => (ev P S a st).bind fun x st => (ev P S i st).bind fun y st => .of (idxD (see st x) (see st y)) st
  | .slc a lo hi, st => (ev P S a st).bind fun x st => (if isGap lo then R.ok none st else (ev P S lo st).bind intR).bind fun l st => (if isGap hi then R.ok none st else (ev P S hi st).bind intR).bind fun h st => .of (slcD (see st x) l h) st
  | .rev a, st => (ev P S a st).bind fun x st => match see st x with
    | .lst l => .ok (.lst l.reverse) st
    | .tup l => .ok (.tup l.reverse) st
    | _ => .no
  | .gap, st => .ok .non st
  | .blt b es, st => (evs P S es st).bind fun l st => .of (bltD b (l.map (see st))) st
  | .mth m o es, st => (ev P S o st).bind fun x st => (evs P S es st).bind fun l st => .of (mthD m (see st x) (l.map (see st))) st
  | .cal f _ es, st => (evs P S es st).bind fun l st => P f l st
  | .lcp e t it c own, st => (itm P S it st).bind fun l st => (compR (fun x st => ((asg P t x (wipeE S own) st).bind fun S2 st => match c with
      | .nil => (ev P S2 e st).bind fun d st => .ok (some d) st
      | .cons q .nil => ((ev P S2 q st).bind fun z st => .of (truD (see st z)) st).bind fun b st => if b then (ev P S2 e st).bind fun d st => .ok (some d) st else .ok none st
      | _ => .no).calm) l st).bind fun r st => if r.length ≤ 16777216 then .ok (.lst r) st else .no
  | .att a x, st => (ev P S a st).bind fun v st => .of (attD (see st v) x) st
  | .prp c f a _, st => (ev P S a st).bind fun v st => match insAt st v c with
    | some _ => P f [v] st
    | none => .no
  | .mtd c f x o es, st => (ev P S o st).bind fun v st => match insAt st v c with
    | some kv => if kv.1.contains x then .no else (evs P S es st).bind fun l st => P f (v :: l) st
    | none => .no
  | .lnO c f a, st => (ev P S a st).bind fun v st => match insAt st v c with
    | some _ => (P f [v] st).bind fun d st => match d with
      | .int n => if 0 ≤ n ∧ n < 2 ^ 63 then .ok (.int n) st else .no
      | _ => .no
    | none => .no
  | .new c f _ es, st => (evs P S es st).bind fun l st => (P f (.obj st.length :: l) (st ++ [.ins c [] []])).bind fun d st' => match d with
    | .non => .ok (.obj st.length) st'
    | _ => .no
  | .cst _ _ _ d, st => .ok d st
  | .gls f _ es c, st => (evs P S es st).bind fun l st => (ev P S c st).bind fun d st => match d with
    | .tup xs => (P f (l ++ xs) st).calm.bind fun z st => match z with
      | .lst ys => .ok (.lst ys) st
      | _ => .no
    | _ => .no
def evs (P : Calls) (S : Env) : IEs → Store → R (List D)
  | .nil, st => .ok [] st
  | .cons e es, st => (ev P S e st).bind fun d st => (evs P S es st).bind fun l st => .ok (d :: l) st
def asg (P : Calls) : IT → D → Env → Store → R Env
  | .nam i, d, S, st => .ok (S.set i (some d)) st
  | .tup ts, d, S, st => match d with
    | .lst l => asgs P ts l S st
    | d => match see st d with
      | .tup l => asgs P ts l S st
      | .lst _ => .no
      | _ => .no
  | .sub i k, d, S, st => match S[i]? with
    | some (some o) => (ev P S k st).bind fun z st => match o, z with
      | .lst l, .int n => match ixN l.length n with
        | some j => .ok (S.set i (some (.lst (l.set j d)))) st
        | none => .no
      | _, _ => .no
    | _ => .no
  | .att o x, d, S, st => (ev P S o st).bind fun z st => match satD st z x d with
    | some st => .ok S st
    | none => .no
def asgs (P : Calls) : ITs → List D → Env → Store → R Env
  | .nil, [], S, st => .ok S st
  | .cons t ts, d :: l, S, st => (asg P t d S st).bind fun S st => asgs P ts l S st
  | _, _, _, _ => .no
def itm (P : Calls) (S : Env) : II → Store → R (List D)
  | .val e, st => (ev P S e st).bind fun x st => match x with
    | .scr ns => .ok (ns.map .int) st
    | .lst l => .ok l st
    | .tup l => .ok l st
    | _ => .no
  | .rng es, st => (evs P S es st).bind fun l st => .of (rngD l) st
  | .enm e, st => (ev P S e st).bind fun x st => match x with
    | .scr ns => .ok ((List.range (ns.map D.int).length).zipWith (fun (i : Nat) d => .tup [.int i, d]) (ns.map D.int)) st
    | .lst l => .ok ((List.range l.length).zipWith (fun (i : Nat) d => .tup [.int i, d]) l) st
    | .tup l => .ok ((List.range l.length).zipWith (fun (i : Nat) d => .tup [.int i, d]) l) st
    | _ => .no
  | .zip a b, st => (ev P S a st).bind fun x st => (ev P S b st).bind fun y st => match x, y with
    | .lst l, .lst m => .ok (l.zipWith (fun c d => .tup [c, d]) m) st
    | .tup l, .tup m => .ok (l.zipWith (fun c d => .tup [c, d]) m) st
    | _, _ => .no
end
def whlR (c : Env → Store → R Bool) (b : Env → Store → Out) : Nat → Env → Store → Out
  | 0, _, _ => .no
  | n + 1, S, st => match c S st with
    | .ok true st => match b S st with
      | .nxt S st => whlR c b n S st
      | .cnt S st => whlR c b n S st
      | .brk S st => .nxt S st
      | .ret d st => .ret d st
      | .err e st => .err e st
      | .no => .no
    | .ok false st => .nxt S st
    | .err e st => .err e st
    | .no => .no
def forR (b : D → Env → Store → Out) : List D → Env → Store → Out
  | [], S, st => .nxt S st
  | x :: r, S, st => match b x S st with
    | .nxt S st => forR b r S st
    | .cnt S st => forR b r S st
    | .brk S st => .nxt S st
    | .ret d st => .ret d st
    | .err e st => .err e st
    | .no => .no
def R.out {A : Type} (r : R A) (f : A → Store → Out) : Out := match r with
  | .ok a st => f a st
  | .err e st => .err e st
  | .no => .no
def cellOf : D → Option Cell
  | .lst l => some (.lst l)
  | .dic t ks vs => some (.dic t ks vs)
  | _ => none
def isBox : D → Bool
  | .lst _ => true
  | .dic _ _ _ => true
  | _ => false
/-- several places of the environment are set -/
def setsE : List (Nat × Bool) → List D → Env → Option Env
  | [], [], S => some S
  | p :: ps, d :: ds, S => if p.2 && !isBox d then none else setsE ps ds (S.set p.1 (some d))
  | _, _, _ => none
/-- o[k] = d for a list or a dict -/
def putD (o k d : D) : Option D := match o with
  | .lst l => match k with
    | .int n => (ixN l.length n).map fun j => .lst (l.set j d)
    | _ => none
  | .dic tk ks vs => match kdOf k with
    | some j => if fits tk j && decide (ks.length < 16777216) then some (.dic tk (putK ks vs j d).1 (putK ks vs j d).2) else none
    | none => none
  | _ => none
mutual
def exec (P : Calls) (W : Nat) : IS → Env → Store → Out
  | .set i e, S, st => (ev P S e st).out fun d st => .nxt (S.set i (some d)) st
  | .seto i e, S, st => (ev P S e st).out fun d st => if isBox d then .nxt (S.set i (some d)) st else .no
  | .setr i e, S, st => (ev P S e st).out fun d st => match cellOf d with
    | some c => .nxt (S.set i (some (.obj st.length))) (st ++ [c])
    | none => .no
  | .unp t e, S, st => (ev P S e st).out fun d st => (asg P t d S st).out fun S st => .nxt S st
  | .par ps es, S, st => (evs P S es st).out fun l st => match setsE ps l S with
    | some S => .nxt S st
    | none => .no
  | .unt ts es, S, st => (evs P S es st).out fun l st => (asgs P ts l S st).out fun S st => .nxt S st
  | .sti i k e, S, st => (ev P S e st).out fun d st => match S[i]? with
    | some (some o) => (ev P S k st).out fun z st => match putD o z d with
      | some o => .nxt (S.set i (some o)) st
      | none => .no
    | _ => .no
  | .sto o k e, S, st => (ev P S e st).out fun d st => (ev P S o st).out fun x st => (ev P S k st).out fun z st => match x with
    | .obj n => match putD (see st x) z d with
      | some o => match cellOf o with
        | some c => .nxt S (st.set n c)
        | none => .no
      | none => .no
    | _ => .no
  | .stor o k e, S, st => (ev P S e st).out fun d st => match cellOf d with
    | some c0 => (ev P S o (st ++ [c0])).out fun x st1 => (ev P S k st1).out fun z st2 => match x with
      | .obj n => match putD (see st2 x) z (.obj st.length) with
        | some o => match cellOf o with
          | some c => .nxt S (st2.set n c)
          | none => .no
        | none => .no
      | _ => .no
    | none => .no
  | .aug i op e, S, st => match S[i]? with
    | some (some (.int x)) => (ev P S e st).out fun d st => match binD op (.int x) d with
      | some z => .nxt (S.set i (some z)) st
      | none => .no
    | _ => .no
  | .app i e, S, st => match S[i]? with
    | some (some (.lst l)) => (ev P S e st).out fun d st => if l.length < 16777216 then .nxt (S.set i (some (.lst (l ++ [d])))) st else .no
    | _ => .no
  | .apo i j e, S, st => match S[i]?, S[j]? with
    | some (some (.lst l)), some (some (.lst m)) => (ev P S e st).out fun z st => match z with
      | .int n => if -(2 ^ 63) ≤ n ∧ n < 2 ^ 63 ∧ l.length < 16777216 ∧ i ≠ j then match seqIndex? n m.length with
          | some k => match m[k]? with
            | some d => .nxt ((S.set j (some (.lst (m.eraseIdx k)))).set i (some (.lst (l ++ [d])))) st
            | none => .no
          | none => .no
        else .no
      | _ => .no
    | _, _ => .no
  | .exp e, S, st => (ev P S e st).out fun _ st => .nxt S st
  | .ret e, S, st => (ev P S e st).out fun d st => .ret d st
  | .iff c a b, S, st => (ev P S c st).out fun x st => match truD (see st x) with
    | some true => execs P W a S st
    | some false => execs P W b S st
    | none => .no
  | .whl c b _, S, st => whlR (fun S st => (ev P S c st).bind fun x st => .of (truD (see st x)) st) (execs P W b) W S st
  | .frr t it b _, S, st => (itm P S it st).out fun l st => forR (fun x S st => (asg P t x S st).out fun S st => execs P W b S st) l S st
  | .brk, S, st => .brk S st
  | .cnt, S, st => .cnt S st
  | .pas, S, st => .nxt S st
  | .frz _, S, st => .nxt S st
  | .nvr, _, _ => .no
  | .sat o x e, S, st => (ev P S e st).out fun d st => (ev P S o st).out fun z st => match satD st z x d with
    | some st => .nxt S st
    | none => .no
  | .spp i j, S, st => match S[j]? with
    | some (some (.lst l)) => match l[l.length - 1]? with
      | some d => if i ≠ j then .nxt ((S.set j (some (.lst l.dropLast))).set i (some d)) st else .no
      | none => .no
    | _ => .no
  | .pop j, S, st => match S[j]? with
    | some (some (.lst l)) => match l[l.length - 1]? with
      | some _ => .nxt (S.set j (some (.lst l.dropLast))) st
      | none => .no
    | _ => .no
def execs (P : Calls) (W : Nat) : ISs → Env → Store → Out
  | .nil, S, st => .nxt S st
  | .cons s r, S, st => match exec P W s S st with
    | .nxt S st => execs P W r S st
    | .brk S st => .brk S st
    | .cnt S st => .cnt S st
    | .ret d st => .ret d st
    | .err e st => .err e st
    | .no => .no
end
/-! generators: a body's tree -/
mutual
inductive IG where
  | pl (s : IS) | yld (e : IE) | frr (t : IT) (it : II) (b : IGs)
inductive IGs where
  | nil | cons (s : IG) (r : IGs)
end
/-- how a part of a generator's body ends: what is out so far -/
inductive OutG where
  | nxt (S : Env) (st : Store) (ds : List D) | brk (S : Env) (st : Store) (ds : List D) | cnt (S : Env) (st : Store) (ds : List D) | ret (st : Store) (ds : List D) | no
def plG (o : Out) (ds : List D) : OutG := match o with
  | .nxt S st => .nxt S st ds
  | .brk S st => .brk S st ds
  | .cnt S st => .cnt S st ds
  | .ret .non st => .ret st ds
  | _ => .no
def forG (b : D → Env → Store → List D → OutG) : List D → Env → Store → List D → OutG
  | [], S, st, ds => .nxt S st ds
  | x :: r, S, st, ds => match b x S st ds with
    | .nxt S st ds => forG b r S st ds
    | .cnt S st ds => forG b r S st ds
    | .brk S st ds => .nxt S st ds
    | .ret st ds => .ret st ds
    | .no => .no
mutual
def execG (P : Calls) (W : Nat) : IG → Env → Store → List D → OutG
  | .pl s, S, st, ds => plG (exec P W s S st) ds
  | .yld e, S, st, ds => match ev P S e st with
    | .ok d st => if ds.length < 16777216 then .nxt S st (ds ++ [d]) else .no
    | _ => .no
  | .frr t it b, S, st, ds => match itm P S it st with
    | .ok l st => forG (fun x S st ds => match asg P t x S st with
      | .ok S st => execGs P W b S st ds
      | _ => .no) l S st ds
    | _ => .no
def execGs (P : Calls) (W : Nat) : IGs → Env → Store → List D → OutG
  | .nil, S, st, ds => .nxt S st ds
  | .cons s r, S, st, ds => match execG P W s S st ds with
    | .nxt S st ds => execGs P W r S st ds
    | o => o
end
/-- a def: how many parameters (the star's apart), how many names, is there a star, the body -/
structure Fn where
  np : Nat
  nn : Nat
  star : Bool
  body : ISs
  gen : Option IGs
def bindE (F : Fn) (ds : List D) : Option (List D) :=
  if F.star then (if F.np ≤ ds.length ∧ ds.length ≤ 16777216 then some (ds.take F.np ++ [.tup (ds.drop F.np)]) else none)
  else (if ds.length = F.np then some ds else none)
/-- how a body ends, as a call's end -/
def outR : Out → R D
  | .ret d st => .ok d st
  | .nxt _ st => .ok .non st
  | _ => .no
def runF (P : Calls) (W : Nat) (F : Fn) (l : List D) (st : Store) : R D := outR (execs P W F.body (l.map some ++ List.replicate (F.nn - l.length) none) st)
/-- a generator def, run to its end: all that it hands out, as a list -/
def runG (P : Calls) (W : Nat) (F : Fn) (b : IGs) (l : List D) (st : Store) : R D := match execGs P W b (l.map some ++ List.replicate (F.nn - l.length) none) st [] with
  | .nxt _ st ds => .ok (.lst ds) st
  | .ret st ds => .ok (.lst ds) st
  | _ => .no
def callN (fns : List Fn) (W : Nat) : Nat → Calls
  | 0 => fun _ _ _ => .no
  | k + 1 => fun f ds st => match fns[f]? with
    | none => .no
    | some F => match bindE F ds with
      | none => .no
      | some l => match F.gen with
        | none => runF (callN fns W k) W F l st
        | some b => runG (callN fns W k) W F b l st
end DI

set_option Elab.async false
set_option linter.all false
set_option maxRecDepth 100000
set_option maxHeartbeats 4000000
namespace DI
open PySem L2

/-- the written part, and where its classes and defs stand -/
structure Kg where
  K : PySem.W.Frag
  ca : Nat → Addr
  fa : Nat → Addr
/-! ### what stands for a tree in the abstract heap -/
def kdV (F : Hp) : KD → V → Prop
  | .inl k, v => v = kV k
  | .inr ks, v => ∃ b, v = .ref b ∧ F b = some (.tup (ks.map kV))
/-- a dict's pairs: its kind, its keys, its values -/
def DcOk (tk : Bool) (ks : List KD) (o : HO) (zs : List V) : Prop :=
  if tk then ∃ js : List (List Key), ks = js.map .inr ∧ js.length = zs.length ∧ o = .dT (js.zip zs)
  else ∃ js : List Key, ks = js.map .inl ∧ js.length = zs.length ∧ o = .dK (js.zip zs)
mutual
def Is (K : Kg) (F : Hp) (rs : List Addr) : D → V → Prop
  | .non, v => v = .non
  | .bl b, v => v = .bl b
  | .int i, v => v = .int i
  | .str s, v => v = .str s
  | .tup l, v => ∃ a vs, v = .ref a ∧ F a = some (.tup vs) ∧ Iss K F rs l vs
  | .lst l, v => ∃ a vs, v = .ref a ∧ Rd F a (.lst vs) ∧ Iss K F rs l vs
  | .dic tk ks l, v => ∃ a o zs, v = .ref a ∧ F a = some o ∧ DcOk tk ks o zs ∧ Iss K F rs l zs
  | .ins c ks l, v => ∃ a dx fs, v = .ref a ∧ F a = some (.ins (K.ca c) dx fs) ∧ fs.map (·.1) = ks ∧ Iss K F rs l (fs.map (·.2))
  | .obj n, v => ∃ a, rs[n]? = some a ∧ v = .ref a
  | .fn f, v => v = .ref (K.fa f)
  | .cls c, v => v = .ref (K.ca c)
  | .ty n, v => v = .ty n
  | .scr ns, v => ∃ a, v = .ref a ∧ SqL K.K F a (ns.map V.int)
def Iss (K : Kg) (F : Hp) (rs : List Addr) : List D → List V → Prop
  | [], vs => vs = []
  | d :: ds, vs => ∃ v r, vs = v :: r ∧ Is K F rs d v ∧ Iss K F rs ds r
end
theorem _root_.L2.Same.seqT {K : PySem.W.Frag} {H H' : Hp} {a : Addr} {xs : List V} (e : Same H H') (h : SqT K H a xs) : SqT K H' a xs := by
  rcases h with (h | ⟨o, h⟩) | h
  · exact .inl (.inl (e _ _ h))
  · exact .inl (.inr ⟨o, e _ _ h⟩)
  · exact .inr h
theorem _root_.L2.Same.rd {H H' : Hp} {a : Addr} {u : HO} (e : Same H H') (h : Rd H a u) : Rd H' a u := by
  rcases h with h | ⟨o, h⟩
  · exact .inl (e _ _ h)
  · exact .inr ⟨o, e _ _ h⟩
theorem _root_.L2.Same.seqL {K : PySem.W.Frag} {H H' : Hp} {a : Addr} {xs : List V} (e : Same H H') (h : SqL K H a xs) : SqL K H' a xs := by
  rcases h with h | h
  · exact .inl (e.rd h)
  · exact .inr h
def Pre (rs rs' : List Addr) : Prop := ∃ more, rs' = rs ++ more
theorem Pre.refl (rs : List Addr) : Pre rs rs := ⟨[], by simp⟩
theorem Pre.trans {a b c : List Addr} (h : Pre a b) (g : Pre b c) : Pre a c := by
  obtain ⟨m, rfl⟩ := h
  obtain ⟨n, rfl⟩ := g
  exact ⟨m ++ n, by simp⟩
theorem Pre.get {rs rs' : List Addr} (h : Pre rs rs') {n : Nat} {a : Addr} (e : rs[n]? = some a) : rs'[n]? = some a := by
  obtain ⟨m, rfl⟩ := h
  have hl := (List.getElem?_eq_some_iff.mp e).1
  rw [List.getElem?_append_left hl]; exact e
theorem Pre.mem {rs rs' : List Addr} (h : Pre rs rs') {a : Addr} (e : a ∈ rs) : a ∈ rs' := by
  obtain ⟨m, rfl⟩ := h
  exact List.mem_append_left _ e
section
variable {K : Kg} {F F' : Hp} {rs rs' : List Addr}
mutual
theorem Is.mono (s : Same F F') (p : Pre rs rs') : ∀ (d : D) (v : V), Is K F rs d v → Is K F' rs' d v
  | .non, _, h => h
  | .bl _, _, h => h
  | .int _, _, h => h
  | .str _, _, h => h
  | .tup l, _, ⟨a, vs, e, q, r⟩ => ⟨a, vs, e, s _ _ q, Iss.mono s p l vs r⟩
  | .lst l, _, ⟨a, vs, e, q, r⟩ => ⟨a, vs, e, s.rd q, Iss.mono s p l vs r⟩
  | .dic tk ks l, _, ⟨a, o, zs, e, q, k, r⟩ => ⟨a, o, zs, e, s _ _ q, k, Iss.mono s p l zs r⟩
  | .ins c ks l, _, ⟨a, dx, fs, e, q, k, r⟩ => ⟨a, dx, fs, e, s _ _ q, k, Iss.mono s p l _ r⟩
  | .obj _, _, ⟨a, e, q⟩ => ⟨a, p.get e, q⟩
  | .fn _, _, h => h
  | .cls _, _, h => h
  | .ty _, _, h => h
  | .scr _, _, ⟨a, e, q⟩ => ⟨a, e, s.seqL q⟩
theorem Iss.mono (s : Same F F') (p : Pre rs rs') : ∀ (ds : List D) (vs : List V), Iss K F rs ds vs → Iss K F' rs' ds vs
  | [], _, h => h
  | d :: ds, _, ⟨v, r, e, h, t⟩ => ⟨v, r, e, Is.mono s p d v h, Iss.mono s p ds r t⟩
end
theorem Iss.length : ∀ {ds : List D} {vs : List V}, Iss K F rs ds vs → ds.length = vs.length
  | [], _, h => by cases h; rfl
  | d :: ds, _, ⟨v, r, e, h, t⟩ => by
    subst e
    simp [Iss.length t]
theorem Iss.nil_iff {ds : List D} {vs : List V} (h : Iss K F rs ds vs) : vs = [] ↔ ds = [] := by
  have e := h.length
  constructor
  · intro q
    rw [q] at e
    exact List.eq_nil_of_length_eq_zero e
  · intro q
    rw [q] at e
    exact List.eq_nil_of_length_eq_zero e.symm
theorem Iss.get : ∀ {ds : List D} {vs : List V} {i : Nat} {d : D}, Iss K F rs ds vs → ds[i]? = some d → ∃ v, vs[i]? = some v ∧ Is K F rs d v
  | [], _, _, _, _, e => by simp at e
  | d :: ds, _, 0, _, ⟨v, r, e, h, t⟩, q => by
    subst e
    simp at q
    subst q
    exact ⟨v, rfl, h⟩
  | d :: ds, _, i + 1, _, ⟨v, r, e, h, t⟩, q => by
    subst e
    simp at q
    simpa using Iss.get (i := i) t q
theorem Iss.get' : ∀ {ds : List D} {vs : List V} {i : Nat} {v : V}, Iss K F rs ds vs → vs[i]? = some v → ∃ d, ds[i]? = some d ∧ Is K F rs d v
  | [], _, _, _, h, e => by cases h; simp at e
  | d :: ds, _, 0, _, ⟨v, r, e, h, t⟩, q => by
    subst e
    simp at q
    subst q
    exact ⟨d, rfl, h⟩
  | d :: ds, _, i + 1, _, ⟨v, r, e, h, t⟩, q => by
    subst e
    simp at q
    simpa using Iss.get' (i := i) t q
theorem Iss.append : ∀ {ds es : List D} {vs ws : List V}, Iss K F rs ds vs → Iss K F rs es ws → Iss K F rs (ds ++ es) (vs ++ ws)
  | [], _, _, _, h, g => by cases h; exact g
  | d :: ds, _, _, _, ⟨v, r, e, h, t⟩, g => by
    subst e
    exact ⟨v, _, rfl, h, Iss.append t g⟩
theorem Iss.drop : ∀ {ds : List D} {vs : List V} (n : Nat), Iss K F rs ds vs → Iss K F rs (ds.drop n) (vs.drop n)
  | _, _, 0, h => h
  | [], _, n + 1, h => by cases h; rfl
  | d :: ds, _, n + 1, ⟨v, r, e, h, t⟩ => by
    subst e
    exact Iss.drop n t
theorem Iss.take : ∀ {ds : List D} {vs : List V} (n : Nat), Iss K F rs ds vs → Iss K F rs (ds.take n) (vs.take n)
  | _, _, 0, _ => rfl
  | [], _, n + 1, h => by cases h; rfl
  | d :: ds, _, n + 1, ⟨v, r, e, h, t⟩ => by
    subst e
    exact ⟨v, _, rfl, h, Iss.take n t⟩
theorem Iss.set : ∀ {ds : List D} {vs : List V} (n : Nat) {d : D} {v : V}, Iss K F rs ds vs → Is K F rs d v → Iss K F rs (ds.set n d) (vs.set n v)
  | [], _, _, _, _, h, _ => by cases h; rfl
  | _ :: _, _, 0, _, _, ⟨v, r, e, h, t⟩, g => by
    subst e
    exact ⟨_, _, rfl, g, t⟩
  | _ :: _, _, n + 1, _, _, ⟨v, r, e, h, t⟩, g => by
    subst e
    exact ⟨_, _, rfl, h, Iss.set n t g⟩
theorem Iss.eraseIdx : ∀ {ds : List D} {vs : List V} (n : Nat), Iss K F rs ds vs → Iss K F rs (ds.eraseIdx n) (vs.eraseIdx n)
  | [], _, _, h => by cases h; rfl
  | _ :: _, _, 0, ⟨v, r, e, h, t⟩ => by
    subst e
    exact t
  | _ :: _, _, n + 1, ⟨v, r, e, h, t⟩ => by
    subst e
    exact ⟨_, _, rfl, h, Iss.eraseIdx n t⟩
theorem Iss.reverse : ∀ {ds : List D} {vs : List V}, Iss K F rs ds vs → Iss K F rs ds.reverse vs.reverse
  | [], _, h => by cases h; rfl
  | _ :: _, _, ⟨v, r, e, h, t⟩ => by
    subst e
    rw [List.reverse_cons, List.reverse_cons]
    exact Iss.append (Iss.reverse t) ⟨_, _, rfl, h, rfl⟩
theorem Iss.rep {ds : List D} {vs : List V} (h : Iss K F rs ds vs) : ∀ n : Nat, Iss K F rs (List.replicate n ds).flatten (List.replicate n vs).flatten
  | 0 => rfl
  | n + 1 => by
    rw [List.replicate_succ, List.replicate_succ, List.flatten_cons, List.flatten_cons]
    exact Iss.append h (Iss.rep h n)
theorem Iss.ints {ns : List Int} : Iss K F rs (ns.map D.int) (ns.map V.int) := by
  induction ns with
  | nil => rfl
  | cons n ns ih => exact ⟨_, _, rfl, rfl, ih⟩
theorem Iss.of_ints : ∀ {ds : List D} {vs : List V} {ns : List Int}, Iss K F rs ds vs → intsOf ds = some ns → vs = ns.map V.int
  | [], _, _, h, e => by
    cases h
    simp [intsOf] at e
    subst e
    rfl
  | d :: ds, _, ns, ⟨v, r, e, h, t⟩, q => by
    subst e
    cases d <;> simp only [intsOf] at q <;> try cases q
    rename_i i
    cases z : intsOf ds with
    | none => rw [z] at q; cases q
    | some ms =>
      rw [z] at q
      simp at q
      subst q
      have hv : v = .int i := h
      subst hv
      rw [Iss.of_ints t z]
      rfl
theorem Iss.of_bls : ∀ {ds : List D} {vs : List V} {ns : List Bool}, Iss K F rs ds vs → blsOf ds = some ns → vs = ns.map V.bl
  | [], _, _, h, e => by
    cases h
    simp [blsOf] at e
    subst e
    rfl
  | d :: ds, _, ns, ⟨v, r, e, h, t⟩, q => by
    subst e
    cases d <;> simp only [blsOf] at q <;> try cases q
    rename_i i
    cases z : blsOf ds with
    | none => rw [z] at q; cases q
    | some ms =>
      rw [z] at q
      simp at q
      subst q
      have hv : v = .bl i := h
      subst hv
      rw [Iss.of_bls t z]
      rfl
end

/-! ### the store's cells -/
def CellOk (K : Kg) (F : Hp) (rs : List Addr) : Cell → HO → Prop
  | .lst l, o => ∃ vs, o = .lst vs ∧ Iss K F rs l vs
  | .dic tk ks l, o => ∃ zs, DcOk tk ks o zs ∧ Iss K F rs l zs
  | .ins c ks l, o => ∃ dx fs, o = .ins (K.ca c) dx fs ∧ fs.map (·.1) = ks ∧ Iss K F rs l (fs.map (·.2))
theorem CellOk.mono {K : Kg} {F F' : Hp} {rs rs' : List Addr} (s : Same F F') (p : Pre rs rs') : ∀ {c : Cell} {o : HO}, CellOk K F rs c o → CellOk K F' rs' c o
  | .lst l, _, ⟨vs, e, h⟩ => ⟨vs, e, h.mono s p _ _⟩
  | .dic tk ks l, _, ⟨zs, e, h⟩ => ⟨zs, e, h.mono s p _ _⟩
  | .ins _ _ l, _, ⟨dx, fs, e, k, h⟩ => ⟨dx, fs, e, k, h.mono s p _ _⟩
structure StOk (K : Kg) (F : Hp) (rs : List Addr) (H : Hp) (st : Store) : Prop where
  sm : Same F H
  len : rs.length = st.length
  nd : rs.Nodup
  out : ∀ a ∈ rs, F a = none
  cell : ∀ (n : Nat) (c : Cell), st[n]? = some c → ∃ a o, rs[n]? = some a ∧ H a = some o ∧ CellOk K F rs c o

/-! ### a step: what may have changed -/
structure Step (F : Hp) (rs : List Addr) (H : Hp) (F' : Hp) (rs' : List Addr) (H' : Hp) : Prop where
  sF : Same F F'
  nF : ∀ a o, F' a = some o → F a = none → H a = none
  pr : ∃ more, rs' = rs ++ more ∧ ∀ a ∈ more, H a = none
  kp : ∀ a o, a ∉ rs → H a = some o → H' a = some o
  al : ∀ a o, H a = some o → ∃ o', H' a = some o'
section
variable {F F' F'' H H' H'' : Hp} {rs rs' rs'' : List Addr}
theorem Step.refl : Step F rs H F rs H := ⟨Same.refl _, fun _ _ h n => (by rw [n] at h; cases h), ⟨[], by simp, by simp⟩, fun _ _ _ h => h, fun _ o h => ⟨o, h⟩⟩
theorem Step.pre (s : Step F rs H F' rs' H') : Pre rs rs' := let ⟨m, e, _⟩ := s.pr; ⟨m, e⟩
theorem Step.trans (s : Step F rs H F' rs' H') (t : Step F' rs' H' F'' rs'' H'') : Step F rs H F'' rs'' H'' := by
  refine ⟨s.sF.trans t.sF, fun a o h n => ?_, ?_, fun a o na h => ?_, fun a o h => ?_⟩
  · cases q : F' a with
    | some o' => exact s.nF a o' q n
    | none =>
      have z := t.nF a o h q
      cases r : H a with
      | none => rfl
      | some o2 =>
        obtain ⟨o3, e3⟩ := s.al a o2 r
        rw [z] at e3; cases e3
  · obtain ⟨m, e, f⟩ := s.pr
    obtain ⟨m2, e2, f2⟩ := t.pr
    refine ⟨m ++ m2, by rw [e2, e]; simp, fun a ha => ?_⟩
    rcases List.mem_append.mp ha with ha | ha
    · exact f a ha
    · have z := f2 a ha
      cases r : H a with
      | none => rfl
      | some o2 =>
        obtain ⟨o3, e3⟩ := s.al a o2 r
        rw [z] at e3; cases e3
  · have h1 := s.kp a o na h
    obtain ⟨m, e, f⟩ := s.pr
    refine t.kp a o (fun z => ?_) h1
    rw [e] at z
    rcases List.mem_append.mp z with z | z
    · exact na z
    · rw [f a z] at h; cases h
  · obtain ⟨o1, h1⟩ := s.al a o h
    exact t.al a o1 h1
/-- a new object, known from now on -/
theorem Step.new {p : Addr} {o : HO} (hp : H p = none) (hF : F p = none) : Step F rs H (upd F p o) rs (upd H p o) := by
  refine ⟨fun a u h => ?_, fun a u h n => ?_, ⟨[], by simp, by simp⟩, fun a u _ h => ?_, fun a u h => ?_⟩
  · rw [upd_ne (ne_of_none h hF)]; exact h
  · by_cases e : a = p
    · rw [e]; exact hp
    · rw [upd_ne e, n] at h; cases h
  · rw [upd_ne (ne_of_none h hp)]; exact h
  · exact ⟨u, by rw [upd_ne (ne_of_none h hp)]; exact h⟩
/-- a new object that nobody knows yet -/
theorem Step.lay {p : Addr} {o : HO} (hp : H p = none) : Step F rs H F rs (upd H p o) := by
  refine ⟨Same.refl _, fun a u h n => (by rw [n] at h; cases h), ⟨[], by simp, by simp⟩, fun a u _ h => ?_, fun a u h => ?_⟩
  · rw [upd_ne (ne_of_none h hp)]; exact h
  · exact ⟨u, by rw [upd_ne (ne_of_none h hp)]; exact h⟩
end
section
variable {K : Kg} {F F' H H' : Hp} {rs rs' : List Addr} {st : Store}
theorem StOk.new {p : Addr} {o : HO} (s : StOk K F rs H st) (hp : H p = none) : StOk K (upd F p o) rs (upd H p o) st := by
  have hF : F p = none := by
    cases q : F p with
    | none => rfl
    | some u => have := s.sm _ _ q; rw [hp] at this; cases this
  have sm' : Same F (upd F p o) := fun a u h => by rw [upd_ne (ne_of_none h hF)]; exact h
  refine ⟨fun a u h => ?_, s.len, s.nd, fun a ha => ?_, fun n c e => ?_⟩
  · by_cases e : a = p
    · subst e; rw [upd_same] at h ⊢; exact h
    · rw [upd_ne e] at h ⊢; exact s.sm _ _ h
  · obtain ⟨n, hn⟩ := List.mem_iff_getElem?.mp ha
    have hl : n < st.length := by rw [← s.len]; exact (List.getElem?_eq_some_iff.mp hn).1
    obtain ⟨b, u, hb, hu, _⟩ := s.cell n _ (List.getElem?_eq_getElem hl)
    rw [hn] at hb; cases hb
    rw [upd_ne (ne_of_none hu hp)]; exact s.out a ha
  · obtain ⟨a, u, h1, h2, h3⟩ := s.cell n c e
    exact ⟨a, u, h1, by rw [upd_ne (ne_of_none h2 hp)]; exact h2, h3.mono sm' (Pre.refl _)⟩
theorem StOk.lay {p : Addr} {o : HO} (s : StOk K F rs H st) (hp : H p = none) : StOk K F rs (upd H p o) st := by
  refine ⟨fun a u h => ?_, s.len, s.nd, s.out, fun n c e => ?_⟩
  · rw [upd_ne (ne_of_none (s.sm _ _ h) hp)]; exact s.sm _ _ h
  · obtain ⟨a, u, h1, h2, h3⟩ := s.cell n c e
    exact ⟨a, u, h1, by rw [upd_ne (ne_of_none h2 hp)]; exact h2, h3⟩
theorem StOk.freeF (s : StOk K F rs H st) {p : Addr} (hp : H p = none) : F p = none := by
  cases q : F p with
  | none => rfl
  | some u => have := s.sm _ _ q; rw [hp] at this; cases this
theorem StOk.at (s : StOk K F rs H st) {n : Nat} {a : Addr} (h : rs[n]? = some a) : ∃ c o, st[n]? = some c ∧ H a = some o ∧ CellOk K F rs c o := by
  have hl : n < st.length := by rw [← s.len]; exact (List.getElem?_eq_some_iff.mp h).1
  obtain ⟨b, u, hb, hu, hc⟩ := s.cell n _ (List.getElem?_eq_getElem hl)
  rw [h] at hb; cases hb
  exact ⟨_, u, List.getElem?_eq_getElem hl, hu, hc⟩
theorem StOk.used (s : StOk K F rs H st) {a : Addr} (h : a ∈ rs) : ∃ o, H a = some o := by
  obtain ⟨n, hn⟩ := List.mem_iff_getElem?.mp h
  obtain ⟨_, o, _, ho, _⟩ := s.at hn
  exact ⟨o, ho⟩
/-- an object that is laid but not yet known becomes known -/
theorem Step.know {p : Addr} {o : HO} (s : Step F rs H F' rs' H') (hp : H p = none) (hF : F' p = none) : Step F rs H (upd F' p o) rs' H' := by
  refine ⟨fun a u h => ?_, fun a u h n => ?_, s.pr, s.kp, s.al⟩
  · rw [upd_ne (ne_of_none (s.sF _ _ h) hF)]; exact s.sF _ _ h
  · by_cases e : a = p
    · rw [e]; exact hp
    · rw [upd_ne e] at h; exact s.nF a u h n
theorem StOk.know {p : Addr} {o : HO} (s : StOk K F rs H st) (hF : F p = none) (hr : p ∉ rs) (hH : H p = some o) : StOk K (upd F p o) rs H st := by
  have sm' : Same F (upd F p o) := fun a u h => by rw [upd_ne (ne_of_none h hF)]; exact h
  refine ⟨fun a u h => ?_, s.len, s.nd, fun a ha => ?_, fun n c e => ?_⟩
  · by_cases e : a = p
    · subst e; rw [upd_same] at h; cases h; exact hH
    · rw [upd_ne e] at h; exact s.sm _ _ h
  · have hne : a ≠ p := fun e => hr (by rw [← e]; exact ha)
    rw [upd_ne hne]; exact s.out a ha
  · obtain ⟨a, u, h1, h2, h3⟩ := s.cell n c e
    exact ⟨a, u, h1, h2, h3.mono sm' (Pre.refl _)⟩
end

/-! ### own things: lists and dicts that one name alone sees -/
/-- a box's content -/
def BoxAt (K : Kg) (F : Hp) (rs : List Addr) : D → HO → Prop
  | .lst l, o => ∃ vs, o = .lst vs ∧ Iss K F rs l vs
  | .dic tk ks l, o => ∃ zs, DcOk tk ks o zs ∧ Iss K F rs l zs
  | _, _ => False
theorem BoxAt.mono {K : Kg} {F F' : Hp} {rs rs' : List Addr} (s : Same F F') (p : Pre rs rs') : ∀ {d : D} {o : HO}, BoxAt K F rs d o → BoxAt K F' rs' d o
  | .lst l, _, ⟨vs, e, h⟩ => ⟨vs, e, h.mono s p _ _⟩
  | .dic tk ks l, _, ⟨zs, e, h⟩ => ⟨zs, e, h.mono s p _ _⟩
  | .non, _, h | .bl _, _, h | .int _, _, h | .str _, _, h | .tup _, _, h | .ins _ _ _, _, h | .obj _, _, h | .fn _, _, h | .cls _, _, h | .ty _, _, h | .scr _, _, h => h.elim
/-- a box at p that is not known to F -/
def Fresh (K : Kg) (F : Hp) (rs : List Addr) (H : Hp) (d : D) (p : Addr) : Prop :=
  ∃ o, H p = some o ∧ F p = none ∧ p ∉ rs ∧ BoxAt K F rs d o
theorem Fresh.step {K : Kg} {F F' H H' : Hp} {rs rs' : List Addr} {d : D} {p : Addr} (h : Fresh K F rs H d p) (s : Step F rs H F' rs' H') : Fresh K F' rs' H' d p := by
  obtain ⟨o, h1, h2, h3, h4⟩ := h
  refine ⟨o, s.kp p o h3 h1, ?_, fun z => ?_, h4.mono s.sF s.pre⟩
  · cases q : F' p with
    | none => rfl
    | some u => have := s.nF p u q h2; rw [this] at h1; cases h1
  · obtain ⟨m, e, f⟩ := s.pr
    rw [e] at z
    rcases List.mem_append.mp z with z | z
    · exact h3 z
    · rw [f p z] at h1; cases h1
/-- known from now on -/
theorem Is.of_box {K : Kg} {F : Hp} {rs : List Addr} {p : Addr} {o : HO} (hF : F p = none) : ∀ {d : D}, BoxAt K F rs d o → Is K (upd F p o) rs d (.ref p)
  | .lst l, ⟨vs, e, h⟩ => by
    subst e
    exact ⟨p, vs, rfl, Rd.of upd_same, h.mono (fun a u q => by rw [upd_ne (ne_of_none q hF)]; exact q) (Pre.refl _) _ _⟩
  | .dic tk ks l, ⟨zs, e, h⟩ => ⟨p, o, zs, rfl, upd_same, e, h.mono (fun a u q => by rw [upd_ne (ne_of_none q hF)]; exact q) (Pre.refl _) _ _⟩
  | .non, h | .bl _, h | .int _, h | .str _, h | .tup _, h | .ins _ _ _, h | .obj _, h | .fn _, h | .cls _, h | .ty _, h | .scr _, h => h.elim
/-- what may be looked at: a known thing, or a box that somebody owns -/
def Pk (K : Kg) (F : Hp) (rs : List Addr) (H : Hp) (d : D) (v : V) : Prop := Is K F rs d v ∨ ∃ p, v = .ref p ∧ Fresh K F rs H d p
theorem Pk.step {K : Kg} {F F' H H' : Hp} {rs rs' : List Addr} {d : D} {v : V} (h : Pk K F rs H d v) (s : Step F rs H F' rs' H') : Pk K F' rs' H' d v := by
  rcases h with h | ⟨p, e, h⟩
  · exact .inl (h.mono s.sF s.pre _ _)
  · exact .inr ⟨p, e, h.step s⟩

/-! ### seen at an operation -/
/-- a value as an operation sees it -/
def Vw (K : Kg) (F : Hp) (rs : List Addr) (H : Hp) : D → V → Prop
  | .lst l, v => ∃ a vs, v = .ref a ∧ Rd H a (.lst vs) ∧ Iss K F rs l vs
  | .dic tk ks l, v => ∃ a o zs, v = .ref a ∧ H a = some o ∧ DcOk tk ks o zs ∧ Iss K F rs l zs
  | .ins c ks l, v => ∃ a dx fs, v = .ref a ∧ H a = some (.ins (K.ca c) dx fs) ∧ fs.map (·.1) = ks ∧ Iss K F rs l (fs.map (·.2))
  | .scr ns, v => ∃ a, v = .ref a ∧ SqL K.K H a (ns.map V.int)
  | d, v => Is K F rs d v
theorem Vw.of {K : Kg} {F : Hp} {rs : List Addr} {H : Hp} (sm : Same F H) : ∀ {d : D} {v : V}, Is K F rs d v → Vw K F rs H d v
  | .lst l, _, ⟨a, vs, e, q, r⟩ => ⟨a, vs, e, sm.rd q, r⟩
  | .dic tk ks l, _, ⟨a, o, zs, e, q, k, r⟩ => ⟨a, o, zs, e, sm _ _ q, k, r⟩
  | .ins c ks l, _, ⟨a, dx, fs, e, q, k, r⟩ => ⟨a, dx, fs, e, sm _ _ q, k, r⟩
  | .non, _, h | .bl _, _, h | .int _, _, h | .str _, _, h | .tup _, _, h | .obj _, _, h | .fn _, _, h | .cls _, _, h | .ty _, _, h => h
  | .scr _, _, ⟨a, e, q⟩ => ⟨a, e, sm.seqL q⟩
theorem see_obj_lst {st : Store} {n : Nat} {l : List D} (h : st[n]? = some (.lst l)) : see st (.obj n) = .lst l := by
  simp [see, h]
theorem see_obj_dic {st : Store} {n : Nat} {t : Bool} {ks : List KD} {l : List D} (h : st[n]? = some (.dic t ks l)) : see st (.obj n) = .dic t ks l := by
  simp [see, h]
theorem see_obj_ins {st : Store} {n : Nat} {c : Nat} {ks : List Str} {l : List D} (h : st[n]? = some (.ins c ks l)) : see st (.obj n) = .ins c ks l := by
  simp [see, h]
theorem Pk.see {K : Kg} {F : Hp} {rs : List Addr} {H : Hp} {st : Store} (S : StOk K F rs H st) {d : D} {v : V} (h : Pk K F rs H d v) : Vw K F rs H (see st d) v := by
  rcases h with h | ⟨p, e, o, h1, h2, h3, h4⟩
  · cases d with
    | obj n =>
      obtain ⟨a, ha, e⟩ := id h
      obtain ⟨c, o, hc, ho, hk⟩ := S.at ha
      cases c with
      | lst l =>
        obtain ⟨vs, e2, r⟩ := hk
        subst e2
        rw [see_obj_lst hc]
        exact ⟨a, vs, e, Rd.of ho, r⟩
      | dic tk ks l =>
        obtain ⟨zs, e2, r⟩ := hk
        rw [see_obj_dic hc]
        exact ⟨a, o, zs, e, ho, e2, r⟩
      | ins c ks l =>
        obtain ⟨dx, fs, e2, k, r⟩ := hk
        subst e2
        rw [see_obj_ins hc]
        exact ⟨a, dx, fs, e, ho, k, r⟩
    | _ => exact Vw.of S.sm h
  · subst e
    cases d with
    | lst l =>
      obtain ⟨vs, e2, r⟩ := h4
      subst e2
      exact ⟨p, vs, rfl, Rd.of h1, r⟩
    | dic tk ks l =>
      obtain ⟨zs, e2, r⟩ := h4
      exact ⟨p, o, zs, rfl, h1, e2, r⟩
    | _ => exact h4.elim
end DI

set_option Elab.async false
set_option linter.all false
set_option maxRecDepth 100000
set_option maxHeartbeats 4000000
namespace DI
open PySem PySem.Spec PyProof.Rows L2

/-! ### what an operation gives -/
/-- the value is known, or a new box that nobody knows yet -/
def Gives (K : Kg) (F : Hp) (rs : List Addr) (H : Hp) (st : Store) (z : D) (Q : VK) : Prop :=
  (∀ v F' H', Step F rs H F' rs H' → StOk K F' rs H' st → Is K F' rs z v → isBox z = false → Q v H') ∧
  (∀ p H', H p = none → Step F rs H F rs H' → StOk K F rs H' st → Fresh K F rs H' z p → Q (.ref p) H')
section
variable {K : Kg} {F H : Hp} {rs : List Addr} {st : Store} {z : D} {Q : VK}
theorem Gives.flat (g : Gives K F rs H st z Q) (S : StOk K F rs H st) {v : V} (h : Is K F rs z v) (b : isBox z = false) : Q v H := g.1 v F H Step.refl S h b
theorem Gives.tup {l : List D} {vs : List V} (g : Gives K F rs H st (.tup l) Q) (S : StOk K F rs H st) (h : Iss K F rs l vs) : ∀ p, H p = none → Q (.ref p) (upd H p (.tup vs)) := fun p hp => by
  have hF := S.freeF hp
  refine g.1 _ _ _ (Step.new hp hF) (S.new hp) ⟨p, vs, rfl, upd_same, h.mono (fun a u q => ?_) (Pre.refl _) _ _⟩ rfl
  rw [upd_ne (ne_of_none q hF)]; exact q
theorem Gives.box (g : Gives K F rs H st z Q) (S : StOk K F rs H st) {o : HO} (h : BoxAt K F rs z o) : ∀ p, H p = none → Q (.ref p) (upd H p o) := fun p hp => by
  refine g.2 p _ hp (Step.lay hp) (S.lay hp) ⟨o, upd_same, S.freeF hp, fun z => ?_, h⟩
  obtain ⟨o', e⟩ := S.used z
  rw [hp] at e; cases e
theorem Gives.lst {l : List D} {vs : List V} (g : Gives K F rs H st (.lst l) Q) (S : StOk K F rs H st) (h : Iss K F rs l vs) : ∀ p, H p = none → Q (.ref p) (upd H p (.lst vs)) := g.box S ⟨vs, rfl, h⟩
end

section
variable {X : Cx}
/-- an operator by its tree -/
def rD (K : Kg) (f : D → D → Option D) : R2 := fun x y H Q => ∃ (F : Hp) (rs : List Addr) (st : Store) (d e z : D), StOk K F rs H st ∧ Vw K F rs H d x ∧ Vw K F rs H e y ∧ f d e = some z ∧ Gives K F rs H st z Q
theorem rd_cat : OpR X (binaryOp .Add) (fun x y H Q => ∃ l b xs zs, x = .ref l ∧ y = .ref b ∧ Rd H l (.lst xs) ∧ Rd H b (.lst zs) ∧ xs.length + zs.length ≤ sizeLine ∧ ∀ p, H p = none → Q (.ref p) (upd H p (.lst (xs ++ zs)))) := by
  intro pins s σ H x y v u Q I rx ry h
  obtain ⟨l, b, xs, zs, rfl, rfl, hH, hB, hz, q⟩ := h
  cases rx
  cases ry
  obtain ⟨z, its, n, r, e⟩ := hH.ok I.hok
  obtain ⟨z2, its2, n2, r2, e2⟩ := hB.ok I.hok
  have hl := r.length
  have hl2 := r2.length
  refine PySem.P.add_list e e2 ?_ (by rw [List.size_toArray, List.size_toArray]; omega)
  have ea : its.toArray ++ its2.toArray = (its ++ its2).toArray := by simp
  rw [ea]
  exact ⟨.ref _, _, I.lnew (t' := s.toks) (r.append r2) (by rw [List.length_append]; omega), rfl, q _ I.fresh⟩
theorem rd_rep : OpR X (binaryOp .Mult) (fun x y H Q => ∃ l k xs, x = .ref l ∧ y = .int k ∧ Rd H l (.lst xs) ∧ -(2 ^ 63) ≤ k ∧ k < 2 ^ 63 ∧ xs.length * k.toNat ≤ sizeLine ∧
  ∀ p, H p = none → Q (.ref p) (upd H p (.lst (List.replicate k.toNat xs).flatten))) := by
  intro pins s σ H x y v u Q I rx ry h
  obtain ⟨l, k, xs, rfl, rfl, hH, h1, h2, hz, q⟩ := h
  cases rx
  obtain ⟨t, rfl⟩ := ry
  obtain ⟨z, its, n, r, e⟩ := hH.ok I.hok
  have hl := r.length
  have hlen : its.toArray.size * k.toNat ≤ sizeLine := by rw [List.size_toArray, ← hl]; exact hz
  have hcap : ¬ its.toArray.size * k.toNat > (2 ^ 63 - 1) / 8 := by
    have : (sizeLine : Nat) ≤ (2 ^ 63 - 1) / 8 := by decide
    omega
  have hfit : ¬ (!Builtin.List.listFitsIndex k) = true := by
    rw [fitsIndex_both h1 h2]
    exact Bool.false_ne_true
  have hlong : ¬ Builtin.List.listTooLong (its.toArray.size * k.toNat) = true := by
    rw [notLongL hlen]
    exact Bool.false_ne_true
  have hnew : List.foldl (fun x1 x2 => x1 ++ x2) #[] (List.replicate (if its.toArray.isEmpty = true then 0 else k.toNat) its.toArray) = (List.replicate k.toNat its).flatten.toArray := by
    have f0 : ∀ m : Nat, List.foldl (fun x1 x2 => x1 ++ x2) #[] (List.replicate m its.toArray) = (List.replicate m its).flatten.toArray := fun m => by
      have := foldl_rep its m []
      rw [List.nil_append] at this
      exact this
    rw [f0]
    cases its with
    | nil => simp
    | cons a r' => rw [if_neg (by simp)]
  refine wpAny_binaryOp_repeat_ref (T := "list") (U := "int") (by decide) ⟨_, e, rfl⟩ (fun s' => typeIs_int s' k t) noFill_list_mul F.fills_int_mul F.slot_int_rmul repeat_list F.slot_int_index.lookup
    (call_meets F.slot_int_rmul (typeIs_int s k t) F.entry_int_rmul (F.args_int_rmul_2 _ _) (int___rmul___int_list k t l its.toArray n)
      ⟨e, rfl, ⟨_, e, rfl⟩, call_meets F.slot_list_mul ⟨_, e, rfl⟩ F.entry_list_mul (F.args_list_mul_2 _ _) (AutoListH.list___mul___list_int_3 l its.toArray n k t hfit hcap hlong) ⟨e, ?_⟩⟩)
  rw [hnew]
  exact ⟨.ref _, _, I.lnew (t' := s.toks) (r.rep k.toNat) (by rw [PyProof.Rows.lm_len_rep_flat, Nat.mul_comm]; exact hz), rfl, q _ I.fresh⟩
theorem line_eq : (sizeLine : Nat) = 16777216 := sizeLine_eq
theorem op_binD {K : Kg} (hK : K.K = X.K) (op : Operator) : OpR X (binaryOp op) (rD K (binD op)) := by
  intro pins s σ H x y v u Q I rx ry h
  obtain ⟨F, rs, st, d, e, z, S, hd, he, hz, g⟩ := h
  have hI : ∀ {i : Int} {j : V}, Vw K F rs H (.int i) j → j = .int i := fun h => h
  have hS : ∀ {i : Str} {j : V}, Vw K F rs H (.str i) j → j = .str i := fun h => h
  unfold binD at hz
  split at hz
  · cases hz; obtain rfl := hI hd; obtain rfl := hI he
    exact op_add pins s σ H _ _ v u Q I rx ry ⟨_, _, rfl, rfl, g.flat S rfl rfl⟩
  · split at hz
    · rename_i hl; cases hz; obtain rfl := hS hd; obtain rfl := hS he
      exact op_add_str pins s σ H _ _ v u Q I rx ry ⟨_, _, rfl, rfl, by rw [line_eq]; exact hl, g.flat S rfl rfl⟩
    · cases hz
  · split at hz
    · rename_i hl; cases hz
      obtain ⟨a, vs, rfl, h1, r1⟩ := hd
      obtain ⟨b, ws, rfl, h2, r2⟩ := he
      refine rd_cat pins s σ H _ _ v u Q I rx ry ⟨a, b, vs, ws, rfl, rfl, h1, h2, ?_, g.lst S (r1.append r2)⟩
      rw [← r1.length, ← r2.length, line_eq]; exact hl
    · cases hz
  · split at hz
    · rename_i hl; cases hz
      obtain ⟨a, vs, rfl, h1, r1⟩ := hd
      obtain ⟨b, ws, rfl, h2, r2⟩ := he
      have h1' : SqT X.K H a vs := SqT.of (S.sm _ _ h1)
      have h2' : SqT X.K H b ws := SqT.of (S.sm _ _ h2)
      refine op_catA pins s σ H _ _ v u Q I rx ry ⟨a, b, vs, ws, rfl, rfl, h1', h2', ?_, fun ev => ?_, fun _ ew => ?_, fun _ _ => g.tup S (r1.append r2)⟩
      · rw [← r1.length, ← r2.length, line_eq]; exact hl
      · have e1 := r1.nil_iff.mp ev
        rw [e1, List.nil_append] at g
        exact g.flat S ⟨b, ws, rfl, h2, r2⟩ rfl
      · have e1 := r2.nil_iff.mp ew
        rw [e1, List.append_nil] at g
        exact g.flat S ⟨a, vs, rfl, h1, r1⟩ rfl
    · cases hz
  · cases hz; obtain rfl := hI hd; obtain rfl := hI he
    exact op_sub pins s σ H _ _ v u Q I rx ry ⟨_, _, rfl, rfl, g.flat S rfl rfl⟩
  · split at hz
    · rename_i i j hl; cases hz; obtain rfl := hI hd; obtain rfl := hI he
      refine op_mul pins s σ H _ _ v u Q I rx ry ⟨_, _, rfl, rfl, ?_, g.flat S rfl rfl⟩
      simpa [mulOk, CMul] using hl
    · cases hz
  · split at hz
    · rename_i hl; cases hz
      obtain ⟨a, vs, rfl, h1, r1⟩ := hd
      obtain rfl := hI he
      exact rd_rep pins s σ H _ _ v u Q I rx ry ⟨a, _, vs, rfl, rfl, h1, hl.1, hl.2.1, by rw [← r1.length, line_eq]; exact hl.2.2, g.lst S (r1.rep _)⟩
    · cases hz
  · split at hz
    · rename_i hl; cases hz
      obtain ⟨a, vs, rfl, h1, r1⟩ := hd
      obtain rfl := hI he
      have h1' : SqT X.K H a vs := SqT.of (S.sm _ _ h1)
      refine op_repT pins s σ H _ _ v u Q I rx ry ⟨a, _, vs, rfl, rfl, h1', fun e => ?_, hl.2.1, hl.2.2.1, by rw [← r1.length]; exact hl.2.2.2, g.tup S (r1.rep _)⟩
      have := r1.nil_iff.mp e
      rw [this] at hl
      exact absurd hl.1 (by decide)
    · cases hz
  · split at hz
    · rename_i hl; cases hz; obtain rfl := hI hd; obtain rfl := hI he
      exact op_fdivN pins s σ H _ _ v u Q I rx ry ⟨_, _, rfl, rfl, hl, g.flat S rfl rfl⟩
    · cases hz
  · split at hz
    · rename_i hl; cases hz; obtain rfl := hI hd; obtain rfl := hI he
      exact op_modN pins s σ H _ _ v u Q I rx ry ⟨_, _, rfl, rfl, hl, g.flat S rfl rfl⟩
    · cases hz
  · split at hz
    · rename_i hl; cases hz; obtain rfl := hI hd; obtain rfl := hI he
      exact op_pow pins s σ H _ _ v u Q I rx ry ⟨_, _, rfl, rfl, hl, g.flat S rfl rfl⟩
    · cases hz
  · cases hz

/-! ### comparisons -/
mutual
theorem dp_of {K : Kg} {F H : Hp} {rs : List Addr} (sm : Same F H) : ∀ (d : D) (v : V), Is K F rs d v → d.py.canLay0 = true → Dp K.K H v d.py
  | .non, _, h, _ => by cases h; exact .non
  | .bl b, _, h, _ => by cases h; exact .bl b
  | .int i, _, h, _ => by cases h; exact .int i
  | .str s, _, h, _ => by cases h; exact .str s
  | .tup l, _, ⟨a, vs, e, q, r⟩, c => by
    subst e
    rw [D.py] at c ⊢
    exact .tup (SqT.of (sm _ _ q)) (dps_of sm l vs r c)
  | .lst l, _, ⟨a, vs, e, q, r⟩, c => by
    subst e
    rw [D.py] at c ⊢
    exact .lst (.inl (sm.rd q)) (dps_of sm l vs r c)
  | .dic _ _ _, _, _, c => by simp [D.py, PyData.canLay0] at c
  | .ins _ _ _, _, _, c => by simp [D.py, PyData.canLay0] at c
  | .obj _, _, _, c => by simp [D.py, PyData.canLay0] at c
  | .fn _, _, _, c => by simp [D.py, PyData.canLay0] at c
  | .cls _, _, _, c => by simp [D.py, PyData.canLay0] at c
  | .ty _, _, _, c => by simp [D.py, PyData.canLay0] at c
  | .scr _, _, _, c => by simp [D.py, PyData.canLay0] at c
theorem dps_of {K : Kg} {F H : Hp} {rs : List Addr} (sm : Same F H) : ∀ (ds : List D) (vs : List V), Iss K F rs ds vs → PyData.canLayAll0 (pys ds) = true → DpAll K.K H vs (pys ds)
  | [], _, h, _ => by cases h; exact .nil
  | d :: ds, _, ⟨v, r, e, h, t⟩, c => by
    subst e
    rw [pys, PyData.canLayAll0, Bool.and_eq_true] at c
    rw [pys]
    exact .cons (dp_of sm d v h c.1) (dps_of sm ds r t c.2)
end
theorem dp_vw {K : Kg} {F H : Hp} {rs : List Addr} (sm : Same F H) {d : D} {v : V} (h : Vw K F rs H d v) (c : SeqAt.shaped d.py = true) : Dp K.K H v d.py := by
  have c0 := SeqAt.canLay_of_shaped c
  cases d with
  | lst l =>
    obtain ⟨a, vs, e, q, r⟩ := h
    subst e
    rw [D.py] at c0 ⊢
    exact .lst (.inl q) (dps_of sm l vs r c0)
  | dic _ _ _ => simp [D.py, PyData.canLay0] at c0
  | ins _ _ _ => simp [D.py, PyData.canLay0] at c0
  | scr _ => simp [D.py, PyData.canLay0] at c0
  | _ => exact dp_of (rs := rs) sm _ _ h c0
/-- a comparison by its tree -/
def rC (K : Kg) (f : D → D → Option Bool) : R2 := fun x y H Q => ∃ (F : Hp) (rs : List Addr) (st : Store) (d e : D) (b : Bool), StOk K F rs H st ∧ Vw K F rs H d x ∧ Vw K F rs H e y ∧ f d e = some b ∧ Q (.bl b) H
theorem op_eqT {K : Kg} (hK : K.K = X.K) (hu : X.A.units + 64 < cLine) : OpR X (compareOp .Eq) (rC K eqD) := by
  intro pins s σ H x y v u Q I rx ry ⟨F, rs, st, d, e, b, S, hd, he, hb, q⟩
  unfold eqD at hb
  split at hb
  · rename_i c
    rw [Bool.and_eq_true] at c
    cases hb
    have h1 := dp_vw S.sm hd c.1
    have h2 := dp_vw S.sm he c.2
    rw [hK] at h1 h2
    exact op_eqD hu pins s σ H x y v u Q I rx ry ⟨_, _, h1, h2, c.1, c.2, q⟩
  · cases hb
theorem op_neT {K : Kg} (hK : K.K = X.K) (hu : X.A.units + 64 < cLine) : OpR X (compareOp .NotEq) (rC K fun x y => (eqD x y).map not) := by
  intro pins s σ H x y v u Q I rx ry ⟨F, rs, st, d, e, b, S, hd, he, hb, q⟩
  change (eqD d e).map not = some b at hb
  unfold eqD at hb
  split at hb
  · rename_i c
    rw [Bool.and_eq_true] at c
    cases hb
    have h1 := dp_vw S.sm hd c.1
    have h2 := dp_vw S.sm he c.2
    rw [hK] at h1 h2
    exact op_neD hu pins s σ H x y v u Q I rx ry ⟨_, _, h1, h2, c.1, c.2, q⟩
  · cases hb
theorem tup_ints {K : Kg} {F H : Hp} {rs : List Addr} (sm : Same F H) {l : List D} {v : V} {ns : List Int} (h : Is K F rs (.tup l) v) (e : intsOf l = some ns) : ∃ a, v = .ref a ∧ SqT K.K H a (ns.map V.int) := by
  obtain ⟨a, vs, ev, q, r⟩ := h
  have := r.of_ints e
  subst this
  exact ⟨a, ev, SqT.of (sm _ _ q)⟩
theorem op_ltT' {K : Kg} (hK : K.K = X.K) (hu : X.A.units < cLine) : OpR X (compareOp .Lt) (rC K ltD) := by
  intro pins s σ H x y v u Q I rx ry ⟨F, rs, st, d, e, b, S, hd, he, hb, q⟩
  unfold ltD at hb
  split at hb
  · cases hb; cases hd; cases he
    exact op_lt pins s σ H _ _ v u Q I rx ry ⟨_, _, rfl, rfl, q⟩
  · cases hb; cases hd; cases he
    exact op_lt_str pins s σ H _ _ v u Q I rx ry ⟨_, _, rfl, rfl, q⟩
  · split at hb
    · rename_i a b ea eb
      cases hb
      obtain ⟨p, rfl, hp⟩ := tup_ints S.sm hd ea
      obtain ⟨p2, rfl, hp2⟩ := tup_ints S.sm he eb
      rw [hK] at hp hp2
      exact op_ltT hu pins s σ H _ _ v u Q I rx ry ⟨p, p2, _, _, rfl, rfl, hp, hp2, q⟩
    · cases hb
  · cases hb

/-! ### dicts -/
theorem get_rel {K : Kg} {F : Hp} {rs : List Addr} {A : Type} [DecidableEq A] (f : A → KD) (hf : ∀ a b, f a = f b → a = b) (j : A) : ∀ {js : List A} {ds : List D} {zs : List V}, Iss K F rs ds zs → js.length = zs.length →
    (getK (js.map f) ds (f j) = none ∧ valV (js.zip zs) j = none) ∨ ∃ d z, getK (js.map f) ds (f j) = some d ∧ valV (js.zip zs) j = some z ∧ Is K F rs d z
  | [], ds, zs, h, e => by
    cases zs with
    | nil => left; cases ds with
      | nil => exact ⟨rfl, rfl⟩
      | cons d ds => obtain ⟨_, _, e2, _⟩ := h; cases e2
    | cons z zs => cases e
  | a :: js, ds, zs, h, e => by
    cases ds with
    | nil => cases h; cases e
    | cons d ds =>
      obtain ⟨z, r, rfl, h1, h2⟩ := h
      by_cases q : a = j
      · subst q
        right
        exact ⟨d, z, by simp [getK], by simp [valV], h1⟩
      · have q' : ¬ f a = f j := fun w => q (hf _ _ w)
        have ih := get_rel f hf j (js := js) h2 (by simpa using e)
        have e1 : getK ((a :: js).map f) (d :: ds) (f j) = getK (js.map f) ds (f j) := by simp [getK, q']
        have e2 : valV ((a :: js).zip (z :: r)) j = valV (js.zip r) j := by simp [valV, List.find?_cons, q]
        rw [e1, e2]
        exact ih
theorem keyOf_is {K : Kg} {F : Hp} {rs : List Addr} {d : D} {k : Key} {v : V} (h : Is K F rs d v) (e : keyOf d = some k) : v = kV k := by
  cases d <;> simp [keyOf] at e
  · subst e; cases h; rfl
  · subst e; cases h; rfl
theorem keysOf_is {K : Kg} {F : Hp} {rs : List Addr} : ∀ {ds : List D} {ks : List Key} {vs : List V}, Iss K F rs ds vs → keysOf ds = some ks → vs = ks.map kV
  | [], ks, _, h, e => by cases h; simp [keysOf] at e; subst e; rfl
  | d :: ds, ks, _, ⟨v, r, rfl, h, t⟩, e => by
    unfold keysOf at e
    split at e
    · rename_i k ks' e1 e2
      cases e
      rw [keyOf_is h e1, keysOf_is t e2]
      rfl
    · cases e
/-- a look into a dict -/
theorem dget_of {K : Kg} {F H : Hp} {rs : List Addr} (sm : Same F H) {tk : Bool} {ks : List KD} {l : List D} {x y : V} {d : D} {k : KD} (h : Vw K F rs H (.dic tk ks l) x) (hk : Vw K F rs H d y) (e : kdOf d = some k) (f : fits tk k = true) :
    ∃ a o, x = .ref a ∧ DGet H a y o ∧ ((getK ks l k = none ∧ o = none) ∨ ∃ z w, getK ks l k = some z ∧ o = some w ∧ Is K F rs z w) := by
  obtain ⟨a, o, zs, rfl, ha, dc, r⟩ := h
  unfold DcOk at dc
  cases tk with
  | false =>
    rw [if_neg Bool.false_ne_true] at dc
    obtain ⟨js, rfl, hl, rfl⟩ := dc
    cases k with
    | inr _ => cases f
    | inl j =>
      have hy : y = kV j := by
        cases d <;> simp [kdOf] at e
        · subst e; cases hk; rfl
        · subst e; cases hk; rfl
      subst hy
      refine ⟨a, _, rfl, DGet.k ha, ?_⟩
      exact get_rel (Sum.inl (β := List Key)) (fun _ _ q => Sum.inl.inj q) j r hl
  | true =>
    rw [if_pos rfl] at dc
    obtain ⟨js, rfl, hl, rfl⟩ := dc
    cases k with
    | inl _ => cases f
    | inr j =>
      cases d <;> simp [kdOf] at e
      rename_i tl
      obtain ⟨b, vs, rfl, hb, hv⟩ := hk
      have := keysOf_is hv e
      subst this
      refine ⟨a, _, rfl, DGet.t ha (sm _ _ hb), ?_⟩
      exact get_rel (Sum.inr (α := Key)) (fun _ _ q => Sum.inr.inj q) j r hl
theorem op_inTup {K : Kg} (hK : K.K = X.K) (hu : X.A.units + 65 < cLine) {pins : List (Addr × Obj)} {s : Shared} {σ : L2.St} {H : Hp} {x y : V} {v u : Value} {Q : VK} (I : Inv X pins σ H s) (rx : RelV x v) (ry : RelV y u)
    {d : PyData} {ds : List PyData} (hd : Dp X.K H x d) (he : Dp X.K H y (.tuple ds)) (sd : SeqAt.shaped d = true) (se : SeqAt.shaped (.list ds) = true) :
    (Q (.bl (ds.any fun z => PyData.eqv z d)) H → wpAny (model X.prog X.w) X.A (compareOp .In v u) (EP X pins σ Q) X.xe s) ∧
    (Q (.bl (!ds.any fun z => PyData.eqv z d)) H → wpAny (model X.prog X.w) X.A (compareOp .NotIn v u) (EP X pins σ Q) X.xe s) := by
  obtain ⟨as, r1⟩ := Dp.reads I d x v hd rx
  obtain ⟨bs, r2⟩ := Dp.reads I (.tuple ds) y u he ry
  exact ⟨fun q => SeqAt.in_tuple_reads r2 r1 (SeqAt.canLay_of_shaped se) (SeqAt.canLay_of_shaped sd) (room_in_shaped sd hu) ⟨.bl _, H, I, rfl, q⟩,
    fun q => SeqAt.notIn_tuple_reads r2 r1 (SeqAt.canLay_of_shaped se) (SeqAt.canLay_of_shaped sd) (room_in_shaped sd hu) ⟨.bl _, H, I, rfl, q⟩⟩
theorem op_inT {K : Kg} (hK : K.K = X.K) (hu : X.A.units + 65 < cLine) : OpR X (compareOp .In) (rC K inD) ∧ OpR X (compareOp .NotIn) (rC K fun x y => (inD x y).map not) := by
  constructor
  · intro pins s σ H x y v u Q I rx ry ⟨F, rs, st, d, e, b, S, hd, he, hb, q⟩
    unfold inD at hb
    split at hb
    · rename_i l
      split at hb
      · rename_i c
        rw [Bool.and_eq_true] at c
        cases hb
        have h1 := dp_vw S.sm hd c.1
        have h2 : Dp K.K H y (D.py (.lst l)) := dp_vw S.sm he (by rw [D.py]; exact c.2)
        rw [D.py] at h2
        rw [hK] at h1 h2
        exact op_inD hu pins s σ H x y v u Q I rx ry ⟨_, _, h1, h2, c.1, c.2, q⟩
      · cases hb
    · rename_i l
      split at hb
      · rename_i c
        rw [Bool.and_eq_true] at c
        cases hb
        have h1 := dp_vw S.sm hd c.1
        obtain ⟨a, vs, rfl, ha, r⟩ := he
        have h2 : Dp K.K H (.ref a) (.tuple (pys l)) := .tup (SqT.of (S.sm _ _ ha)) (dps_of S.sm l vs r (SeqAt.canLay_of_shaped c.2))
        rw [hK] at h1 h2
        exact (op_inTup hK hu I rx ry h1 h2 c.1 c.2).1 q
      · cases hb
    · rename_i tk ks l
      split at hb
      · rename_i k ek
        split at hb
        · rename_i f
          cases hb
          obtain ⟨a, o, rfl, g, hg⟩ := dget_of S.sm he hd ek f
          cases ry
          refine d_in (by omega) I g rx fun s1 I1 => ⟨.bl _, H, I1, rfl, ?_⟩
          rcases hg with ⟨e1, e2⟩ | ⟨_, _, e1, e2, _⟩ <;> (rw [e1] at q; rw [e2]; exact q)
        · cases hb
      · cases hb
    · split at hb
      · cases hb; cases hd; cases he
        exact op_in_str pins s σ H _ _ v u Q I rx ry ⟨_, _, rfl, rfl, q⟩
      · cases hb
    · cases hb
  · intro pins s σ H x y v u Q I rx ry ⟨F, rs, st, d, e, b, S, hd, he, hb, q⟩
    change (inD d e).map not = some b at hb
    unfold inD at hb
    split at hb
    · rename_i l
      split at hb
      · rename_i c
        rw [Bool.and_eq_true] at c
        cases hb
        have h1 := dp_vw S.sm hd c.1
        have h2 : Dp K.K H y (D.py (.lst l)) := dp_vw S.sm he (by rw [D.py]; exact c.2)
        rw [D.py] at h2
        rw [hK] at h1 h2
        exact op_notInD hu pins s σ H x y v u Q I rx ry ⟨_, _, h1, h2, c.1, c.2, q⟩
      · cases hb
    · rename_i l
      split at hb
      · rename_i c
        rw [Bool.and_eq_true] at c
        cases hb
        have h1 := dp_vw S.sm hd c.1
        obtain ⟨a, vs, rfl, ha, r⟩ := he
        have h2 : Dp K.K H (.ref a) (.tuple (pys l)) := .tup (SqT.of (S.sm _ _ ha)) (dps_of S.sm l vs r (SeqAt.canLay_of_shaped c.2))
        rw [hK] at h1 h2
        exact (op_inTup hK hu I rx ry h1 h2 c.1 c.2).2 q
      · cases hb
    · rename_i tk ks l
      split at hb
      · rename_i k ek
        split at hb
        · rename_i f
          cases hb
          obtain ⟨a, o, rfl, g, hg⟩ := dget_of S.sm he hd ek f
          cases ry
          refine d_notIn (by omega) I g rx fun s1 I1 => ⟨.bl _, H, I1, rfl, ?_⟩
          rcases hg with ⟨e1, e2⟩ | ⟨_, _, e1, e2, _⟩ <;> (rw [e1] at q; rw [e2]; exact q)
        · cases hb
      · cases hb
    · split at hb
      · cases hb; cases hd; cases he
        exact op_notin_str pins s σ H _ _ v u Q I rx ry ⟨_, _, rfl, rfl, q⟩
      · cases hb
    · cases hb

/-- any comparison -/
theorem op_cmpT {K : Kg} (hK : K.K = X.K) (hu : X.A.units + 65 < cLine) (op : CmpOp) : OpR X (compareOp op) (rC K (cmpD op)) := by
  cases op with
  | Eq => exact op_eqT hK (by omega)
  | NotEq => exact op_neT hK (by omega)
  | Lt => exact op_ltT' hK (by omega)
  | In => exact (op_inT hK hu).1
  | NotIn => exact (op_inT hK hu).2
  | LtE =>
    intro pins s σ H x y v u Q I rx ry ⟨F, rs, st, d, e, b, S, hd, he, hb, q⟩
    simp only [cmpD] at hb
    split at hb
    · cases hb; cases hd; cases he
      exact op_le pins s σ H _ _ v u Q I rx ry ⟨_, _, rfl, rfl, q⟩
    · cases hb
  | Gt =>
    intro pins s σ H x y v u Q I rx ry ⟨F, rs, st, d, e, b, S, hd, he, hb, q⟩
    simp only [cmpD] at hb
    split at hb
    · cases hb; cases hd; cases he
      exact op_gt pins s σ H _ _ v u Q I rx ry ⟨_, _, rfl, rfl, q⟩
    · cases hb
  | GtE =>
    intro pins s σ H x y v u Q I rx ry ⟨F, rs, st, d, e, b, S, hd, he, hb, q⟩
    simp only [cmpD] at hb
    split at hb
    · cases hb; cases hd; cases he
      exact op_ge pins s σ H _ _ v u Q I rx ry ⟨_, _, rfl, rfl, q⟩
    · cases hb
  | Is =>
    intro pins s σ H x y v u Q I rx ry ⟨F, rs, st, d, e, b, S, hd, he, hb, q⟩
    simp only [cmpD] at hb
    split at hb <;> (try cases hb)
    · cases hd; cases he
      refine op_isBl pins s σ H _ _ v u Q I rx ry ⟨_, _, rfl, rfl, ?_⟩
      exact q
    · cases hd; cases he
      exact op_isN pins s σ H _ _ v u Q I rx ry ⟨rfl, q⟩
    · cases hd; cases he
      exact op_isN pins s σ H _ _ v u Q I rx ry ⟨rfl, q⟩
    · cases hd; cases he
      exact op_isN pins s σ H _ _ v u Q I rx ry ⟨rfl, q⟩
    · cases hd; cases he
      exact op_isN pins s σ H _ _ v u Q I rx ry ⟨rfl, q⟩
    · obtain ⟨a, _, rfl, _⟩ := hd; cases he
      exact op_isN pins s σ H _ _ v u Q I rx ry ⟨rfl, q⟩
    · obtain ⟨a, _, rfl, _⟩ := hd; cases he
      exact op_isN pins s σ H _ _ v u Q I rx ry ⟨rfl, q⟩
    · obtain ⟨a, _, _, rfl, _⟩ := hd; cases he
      exact op_isN pins s σ H _ _ v u Q I rx ry ⟨rfl, q⟩
    · obtain ⟨a, _, rfl⟩ := hd; cases he
      exact op_isN pins s σ H _ _ v u Q I rx ry ⟨rfl, q⟩
  | IsNot =>
    intro pins s σ H x y v u Q I rx ry ⟨F, rs, st, d, e, b, S, hd, he, hb, q⟩
    simp only [cmpD] at hb
    split at hb <;> (try cases hb)
    · cases hd; cases he
      refine op_notBl pins s σ H _ _ v u Q I rx ry ⟨_, _, rfl, rfl, ?_⟩
      exact q
    · cases hd; cases he
      exact op_notN pins s σ H _ _ v u Q I rx ry ⟨rfl, q⟩
    · cases hd; cases he
      exact op_notN pins s σ H _ _ v u Q I rx ry ⟨rfl, q⟩
    · cases hd; cases he
      exact op_notN pins s σ H _ _ v u Q I rx ry ⟨rfl, q⟩
    · cases hd; cases he
      exact op_notN pins s σ H _ _ v u Q I rx ry ⟨rfl, q⟩
    · obtain ⟨a, _, rfl, _⟩ := hd; cases he
      exact op_notN pins s σ H _ _ v u Q I rx ry ⟨rfl, q⟩
    · obtain ⟨a, _, rfl, _⟩ := hd; cases he
      exact op_notN pins s σ H _ _ v u Q I rx ry ⟨rfl, q⟩
    · obtain ⟨a, _, _, rfl, _⟩ := hd; cases he
      exact op_notN pins s σ H _ _ v u Q I rx ry ⟨rfl, q⟩
    · obtain ⟨a, _, rfl⟩ := hd; cases he
      exact op_notN pins s σ H _ _ v u Q I rx ry ⟨rfl, q⟩

/-! ### truth -/
theorem isEmpty_len {A B : Type} : ∀ {l : List A} {m : List B}, l.length = m.length → l.isEmpty = m.isEmpty
  | [], [], _ => rfl
  | _ :: _, _ :: _, _ => rfl
  | [], _ :: _, h => by cases h
  | _ :: _, [], h => by cases h
theorem tru_of {K : Kg} {F H : Hp} {rs : List Addr} (sm : Same F H) {d : D} {x : V} {b : Bool} (h : Vw K F rs H d x) (e : truD d = some b) : TruV K.K x H b := by
  unfold truD at e
  split at e
  · cases e; cases h; rfl
  · cases e; cases h; rfl
  · cases e; cases h; rfl
  · split at e
    · rename_i hl
      cases e; cases h
      exact ⟨by rw [line_eq]; exact hl, rfl⟩
    · cases e
  · cases e
    obtain ⟨a, vs, rfl, ha, r⟩ := h
    refine .inr (.inl ⟨vs, SqT.of (sm _ _ ha), ?_⟩)
    rw [isEmpty_len r.length]
  · cases e
    obtain ⟨a, vs, rfl, ha, r⟩ := h
    refine .inl ⟨vs, .inl ha, ?_⟩
    rw [isEmpty_len r.length]
  · cases e
    obtain ⟨a, o, zs, rfl, ha, dc, r⟩ := h
    unfold DcOk at dc
    rw [if_neg Bool.false_ne_true] at dc
    obtain ⟨js, rfl, hl, rfl⟩ := dc
    refine .inr (.inr ⟨_, ha, ?_⟩)
    rw [isEmpty_len (l := List.map Sum.inl js) (m := js.zip zs) (by simp; omega)]
  · cases e

/-! ### subscripts -/
theorem atI_rel {K : Kg} {F : Hp} {rs : List Addr} {l : List D} {vs : List V} {i : Int} {z : D} (r : Iss K F rs l vs) (e : atI l i = some z) : ∃ v, atI vs i = some v ∧ Is K F rs z v := by
  unfold atI at e ⊢
  rw [← r.length]
  cases q : ixN l.length i with
  | none => rw [q] at e; cases e
  | some j =>
    rw [q] at e
    exact r.get e
theorem ix_dict (hu : X.A.units + 1 < cLine) : IxR X (fun x y H Q => ∃ a v, x = .ref a ∧ DGet H a y (some v) ∧ Q v H) := by
  intro value slice pins s σ H x y v u Q I rx ry ⟨a, w, e, g, q⟩ hs
  subst e
  cases rx
  unfold subscriptTail
  refine wpAny_bind ?_
  have hT := dict_typeIs I g
  rw [getitemInPython_of_ne hT.not_modules]
  refine wpAny_bind (wpAny_specialOf hT PySem.F.slot_dict_getitem.lookup ?_)
  have fin : wpAny (model X.prog X.w) X.A (subscripted slice false (.ref a) u) (fun r s₃ => wpAny (model X.prog X.w) X.A (letTemporaryGo value (.ref a) r >>= fun _ => pure r) (EP X pins σ Q) X.xe s₃) X.xe s := by
    rw [hs]
    exact wpAny_operating (d_getItem hu I g ry fun w' s3 I3 rw' => wpAny_bind (wpAny_letTemporaryGo (wpAny_pure ⟨w, H, I3, rw', q⟩)))
  first
    | exact wpAny_pure (wpAny_bind fin)
    | exact wpAny_bind (wpAny_pure (wpAny_bind fin))
    | exact wpAny_bind fin
def rX (K : Kg) : R2 := fun x y H Q => ∃ (F : Hp) (rs : List Addr) (st : Store) (d e z : D), StOk K F rs H st ∧ Vw K F rs H d x ∧ Vw K F rs H e y ∧ idxD d e = some z ∧ ∀ v, Is K F rs z v → Q v H
theorem ix_all {K : Kg} (hK : K.K = X.K) (hu : X.A.units + 1 < cLine) : IxR X (rX K) := by
  intro value slice pins s σ H x y v u Q I rx ry ⟨F, rs, st, d, e, z, S, hd, he, hz, q⟩ hs
  unfold idxD at hz
  split at hz
  · obtain ⟨a, vs, rfl, ha, r⟩ := hd
    cases he
    obtain ⟨w, hw, iw⟩ := atI_rel r hz
    exact ix_list value slice pins s σ H _ _ v u Q I rx ry ⟨a, vs, _, w, rfl, rfl, .inl ha, hw, q w iw⟩ hs
  · obtain ⟨a, vs, rfl, ha, r⟩ := hd
    cases he
    obtain ⟨w, hw, iw⟩ := atI_rel r hz
    exact ix_tup value slice pins s σ H _ _ v u Q I rx ry ⟨a, vs, _, w, rfl, rfl, SqT.of (S.sm _ _ ha), hw, q w iw⟩ hs
  · split at hz
    · rename_i hl
      cases hd; cases he
      rw [Option.map_eq_some_iff] at hz
      obtain ⟨c, hc, rfl⟩ := hz
      exact ix_str value slice pins s σ H _ _ v u Q I rx ry ⟨_, _, c, rfl, rfl, by rw [line_eq]; exact hl, hc, q _ rfl⟩ hs
    · cases hz
  · split at hz
    · rename_i j ek
      split at hz
      · rename_i f
        have he' : Vw K F rs H e y := he
        obtain ⟨a, o, rfl, g, hg⟩ := dget_of S.sm hd he ek f
        rcases hg with ⟨e1, _⟩ | ⟨z', w, e1, e2, hw⟩
        · rw [e1] at hz; cases hz
        · rw [e1] at hz; cases hz
          subst e2
          exact ix_dict hu value slice pins s σ H _ _ v u Q I rx ry ⟨a, w, rfl, g, q w hw⟩ hs
      · cases hz
    · cases hz
  · cases hz
/-- a slice -/
def rSl (K : Kg) : V → Option Int → Option Int → Hp → VK → Prop := fun x lo hi H Q => ∃ (F : Hp) (rs : List Addr) (st : Store) (d z : D), StOk K F rs H st ∧ Vw K F rs H d x ∧ slcD d lo hi = some z ∧ Gives K F rs H st z Q
theorem cut_rel {K : Kg} {F : Hp} {rs : List Addr} {l : List D} {vs : List V} (r : Iss K F rs l vs) (lo hi : Option Int) : Iss K F rs (cutD l lo hi) (cutV vs lo hi) := by
  unfold cutD cutV
  rw [← r.length]
  exact (r.drop _).take _
theorem sl_all {K : Kg} (hK : K.K = X.K) : SlR X (rSl K) := by
  intro pins s σ H x v vl vu lo hi sl Q I rx hs pl pu ⟨F, rs, st, d, z, S, hd, hz, g⟩
  unfold slcD at hz
  split at hz
  · cases hz
    obtain ⟨a, vs, rfl, ha, r⟩ := hd
    exact sl_list pins s σ H _ v vl vu lo hi sl Q I rx hs pl pu ⟨a, vs, rfl, .inl ha, g.lst S (cut_rel r lo hi)⟩
  · cases hz
    obtain ⟨a, vs, rfl, ha, r⟩ := hd
    refine sl_tupA pins s σ H _ v vl vu lo hi sl Q I rx hs pl pu ⟨a, vs, rfl, SqT.of (S.sm _ _ ha), fun w => ?_, fun _ => g.tup S (cut_rel r lo hi)⟩
    refine g.flat S ⟨a, vs, rfl, ha, ?_⟩ rfl
    have e : cutV vs lo hi = vs := by
      unfold cutV
      rw [w.1, w.2]
      simp
    have q := cut_rel r lo hi
    rw [e] at q
    exact q
  · cases hz
end
end DI

set_option Elab.async false
set_option linter.all false
set_option maxRecDepth 100000
set_option maxHeartbeats 4000000
namespace DI
open PySem PySem.Spec PyProof.Rows L2
section
variable {prog : Program} {w : World} {A : Around} {E : Value → Shared → Prop} {s : Shared}
theorem collect_tup {l : Addr} {vs : List Value} {Q : List Value → Shared → Prop} (hl : IsTup s.heap l vs.toArray)
    (h : Q vs { s with heap := (s.heap.push (seqObj "list" #[] 0)).update s.heap.objs.size (Obj.mapSeq (· ++ vs.toArray)) }) (hsz : vs.length ≤ sizeLine) :
    wpAny (model prog w) A (collect (.ref l)) Q E s := by
  obtain ⟨o, ho, hc, n, hd⟩ := id hl
  unfold collect
  refine wpAny_bind (wpAny_runValue (codeAny_builtin entry_proto_collect' ?_))
  show wpAny _ _ (do again (.builtin "list.__iadd__" ⟨[← newList [], .ref l], []⟩)) _ _ s
  refine wpAny_bind (wpAny_newList (wpAny_pure ⟨Code.quiet_builtin _ (by decide +kernel), codeAny_builtin entry_list_iadd' ?_⟩))
  show wpAny _ _ (Builtin.List.listExtendWith (.ref s.heap.objs.size) (.ref l) (.ref s.heap.objs.size)) _ _ { s with heap := s.heap.push (seqObj "list" #[] 0) }
  unfold Builtin.List.listExtendWith
  have ho' : (s.heap.push (seqObj "list" #[] 0)).get? l = some o := Heap.get?_push_of_some _ ho
  refine wpAny_bind (wpAny_typeOf (T := "tuple") ⟨o, ho', hc⟩ ?_)
  have ht : (Value.type "tuple" == Value.type "tuple") = true := by rfl
  rw [if_pos (by rw [ht]; simp)]
  refine wpAny_bind (listItems_at ho' hd ?_)
  refine wpAny_bind (listItems_at (xs := #[]) (n := 0) (Heap.get?_push_size _ rfl) rfl ?_)
  rw [if_neg (by simp)]
  refine wpAny_bind (listUpdate_at (xs := #[]) (n := 0) (Heap.get?_push_size _ rfl) rfl ?_ (Nat.zero_le _) (by show (#[] ++ vs.toArray).size ≤ sizeLine + 1; simp only [Array.size_append, List.size_toArray, List.length_nil]; omega))
  refine wpAny_pure ?_
  show wpAny (model prog w) A (do
      let o ← load s.heap.objs.size
      match o.data with
      | .seq xs _ => pure xs.toList
      | _ => unsupported "internal:collect") Q E { s with heap := (s.heap.push (seqObj "list" #[] 0)).update s.heap.objs.size (Obj.mapSeq (· ++ vs.toArray)) }
  refine wpAny_bind (wpAny_load (get?_update_seq (Heap.get?_push_size _ rfl) _) ?_)
  show wpAny _ _ (pure ((#[] : Array Value) ++ vs.toArray).toList) Q E _
  rw [show ((#[] : Array Value) ++ vs.toArray).toList = vs by simp]
  exact wpAny_pure h
/-- sorted over a tuple -/
theorem sorted_ordT {l : Addr} {vs : List Value} {ltv : Value → Value → Bool} {Q : Value → Shared → Prop} (O : SrtO.Swo ltv) (hl : IsTup s.heap l vs.toArray) (hz : vs.length ≤ sizeLine)
    (hS : 2 ≤ vs.length → ∀ (h₁ : Heap) (a : Addr), h₁.get? a = some (seqObj "list" vs.toArray 0) → (∀ b o, s.heap.get? b = some o → b ≠ a ∧ h₁.get? b = some o) → SrtO.SortableO prog w A.in1.in1 { s with heap := h₁ } a vs ltv)
    (h : ∀ out : List Value, SrtO.Srtd ltv out → SrtO.Stb ltv out vs → Q (.ref (s.heap.objs.size + 1)) { s with heap := sortedAll s.heap vs out.toArray }) :
    wpAny (model prog w) A (call (.builtin "sorted") [.ref l]) Q E s := by
  refine Calls.call_function_entry kind_sorted plain_sorted entry_sorted (args_sorted1 _) ?_
  unfold Builtin.«sorted»
  refine wpAny_bind (m := checkCount "sorted" 1 1 _) (wpAny_pure ?_)
  refine wpAny_bind (collect_tup hl ?_ hz)
  refine wpAny_bind (wpAny_newList ?_ hz)
  have hsz : ((s.heap.push (seqObj "list" #[] 0)).update s.heap.objs.size (Obj.mapSeq (· ++ vs.toArray))).objs.size = s.heap.objs.size + 1 := by
    rw [Heap.size_update, PyProof.Rows.size_push']
  have hoL : (((s.heap.push (seqObj "list" #[] 0)).update s.heap.objs.size (Obj.mapSeq (· ++ vs.toArray))).push (seqObj "list" vs.toArray 0)).get? (s.heap.objs.size + 1) = some (seqObj "list" vs.toArray 0) := by
    rw [← hsz]; exact Heap.get?_push_size _ rfl
  have keep : ∀ b o, s.heap.get? b = some o → b ≠ s.heap.objs.size + 1 ∧ (((s.heap.push (seqObj "list" #[] 0)).update s.heap.objs.size (Obj.mapSeq (· ++ vs.toArray))).push (seqObj "list" vs.toArray 0)).get? b = some o := fun b o q => by
    have hlt : b < s.heap.objs.size := Heap.lt_size q
    refine ⟨Nat.ne_of_lt (Nat.lt_succ_of_lt hlt), Heap.get?_push_of_some _ ?_⟩
    rw [Heap.get?_update_ne _ _ _ _ (Nat.ne_of_lt hlt)]
    exact Heap.get?_push_of_some _ q
  show wpAny _ _ _ _ _ { s with heap := ((s.heap.push (seqObj "list" #[] 0)).update s.heap.objs.size (Obj.mapSeq (· ++ vs.toArray))).push (seqObj "list" vs.toArray 0) }
  rw [hsz]
  refine wpAny_bind (wpAny_holding (wpAny_call_entry slot_list_sort ⟨_, hoL, rfl⟩ entry_list_sort (SrtO.list_sort_ord O hoL hz (fun h2 => hS h2 _ _ hoL keep) fun out hs hb => ⟨_, rfl, ?_⟩) (args_list_sort _)))
  exact wpAny_pure ⟨_, rfl, h out hs hb⟩
end
section
variable {X : Cx}
theorem cr_sortedT' : CallR X (.builtin "sorted") (fun vs H Q => ∃ (a : Addr) (ns : List Int), vs = [V.ref a] ∧ SqT X.K H a (ns.map V.int) ∧
    ∀ (ns' : List Int) (p : Addr), ns'.Perm ns → ns'.Pairwise (· ≤ ·) → H p = none → Q (.ref p) (upd H p (.lst (ns'.map V.int)))) := by
  intro pins s σ H vs us Q I r h
  obtain ⟨a, ns, rfl, hs, q⟩ := h
  obtain ⟨its, rv, hl, hz⟩ := I.tuple hs
  rw [Vals.ref1 r]
  have hi := rv.ints
  refine sorted_ordT SrtO.swo_int hl (by rw [← rv.length]; exact hz) (fun h2 h₁ a' _ _ => SrtO.ints_sortable hi h2) fun out h1 h2 => ?_
  obtain ⟨k1, k2, k3⟩ := SrtO.ints_out hi h1 h2
  obtain ⟨ep, he'⟩ := PyProof.Rows.sortedAll_at s.heap its out.toArray
  have hlen : ((out.map SrtO.iv).map V.int).length ≤ sizeLine := by
    rw [List.length_map, k2.length_eq]
    rw [List.length_map] at hz
    exact hz
  exact ⟨.ref _, upd H (s.heap.objs.size + 1) (.lst ((out.map SrtO.iv).map V.int)), I.laid (t' := s.toks) (fun _ _ => PyProof.Rows.sortedAll_old) (Nat.le_succ _) ⟨hlen, out, ep, vals_of_ints k1, he'⟩, rfl, q _ _ k2 k3 (I.hok.fresh (Nat.le_succ _))⟩

/-! ### sorting by insertion is the one sorted list -/
theorem insI_perm (x : Int) : ∀ l : List Int, (insI x l).Perm (x :: l)
  | [] => List.Perm.refl _
  | y :: r => by
    unfold insI
    split
    · exact List.Perm.refl _
    · exact ((insI_perm x r).cons y).trans (List.Perm.swap x y r)
theorem sortI_perm : ∀ l : List Int, (sortI l).Perm l
  | [] => List.Perm.refl _
  | x :: r => (insI_perm x (sortI r)).trans ((sortI_perm r).cons x)
theorem insI_sorted (x : Int) : ∀ {l : List Int}, l.Pairwise (· ≤ ·) → (insI x l).Pairwise (· ≤ ·)
  | [], _ => List.pairwise_singleton _ _
  | y :: r, h => by
    unfold insI
    split
    · rename_i hxy
      refine List.pairwise_cons.mpr ⟨fun z hz => ?_, h⟩
      rcases List.mem_cons.mp hz with e | hz
      · rw [e]; exact hxy
      · exact Int.le_trans hxy ((List.pairwise_cons.mp h).1 z hz)
    · rename_i hxy
      have h' := List.pairwise_cons.mp h
      refine List.pairwise_cons.mpr ⟨fun z hz => ?_, insI_sorted x h'.2⟩
      rcases List.mem_cons.mp ((insI_perm x r).mem_iff.mp hz) with e | hz
      · rw [e]; omega
      · exact h'.1 z hz
theorem sortI_sorted : ∀ l : List Int, (sortI l).Pairwise (· ≤ ·)
  | [] => List.Pairwise.nil
  | x :: r => insI_sorted x (sortI_sorted r)
theorem sorted_one : ∀ {l m : List Int}, l.Perm m → l.Pairwise (· ≤ ·) → m.Pairwise (· ≤ ·) → l = m
  | [], m, p, _, _ => (List.Perm.nil_eq p)
  | x :: l, [], p, _, _ => absurd p.length_eq (by simp)
  | x :: l, y :: m, p, hl, hm => by
    have a := List.pairwise_cons.mp hl
    have b := List.pairwise_cons.mp hm
    have e : x = y := by
      have h1 : x ∈ y :: m := p.mem_iff.mp List.mem_cons_self
      have h2 : y ∈ x :: l := p.mem_iff.mpr List.mem_cons_self
      rcases List.mem_cons.mp h1 with e | h1
      · exact e
      · rcases List.mem_cons.mp h2 with e | h2
        · exact e.symm
        · have := a.1 y h2
          have := b.1 x h1
          omega
    subst e
    rw [sorted_one (List.Perm.cons_inv p) a.2 b.2]
theorem sortI_one {l ns : List Int} (p : l.Perm ns) (h : l.Pairwise (· ≤ ·)) : l = sortI ns := sorted_one (p.trans (sortI_perm ns).symm) h (sortI_sorted ns)
theorem maxI_spec : ∀ (l : List Int) (x : Int), maxI x l ∈ x :: l ∧ ∀ y, y ∈ x :: l → y ≤ maxI x l
  | [], x => ⟨List.mem_cons_self, fun y h => by simp at h; rw [h]; exact Int.le_refl _⟩
  | z :: r, x => by
    have ih := maxI_spec r (if z > x then z else x)
    unfold maxI
    refine ⟨?_, fun y h => ?_⟩
    · rcases List.mem_cons.mp ih.1 with e | h
      · rw [e]; split <;> simp
      · simp [h]
    · have hx := ih.2 _ List.mem_cons_self
      have h1 : x ≤ (if z > x then z else x) := by split <;> omega
      have h2 : z ≤ (if z > x then z else x) := by split <;> omega
      rcases List.mem_cons.mp h with e | h
      · rw [e]; exact Int.le_trans h1 hx
      · rcases List.mem_cons.mp h with e | h
        · rw [e]; exact Int.le_trans h2 hx
        · exact ih.2 y (List.mem_cons_of_mem _ h)
theorem minI_spec : ∀ (l : List Int) (x : Int), minI x l ∈ x :: l ∧ ∀ y, y ∈ x :: l → minI x l ≤ y
  | [], x => ⟨List.mem_cons_self, fun y h => by simp at h; rw [h]; exact Int.le_refl _⟩
  | z :: r, x => by
    have ih := minI_spec r (if z < x then z else x)
    unfold minI
    refine ⟨?_, fun y h => ?_⟩
    · rcases List.mem_cons.mp ih.1 with e | h
      · rw [e]; split <;> simp
      · simp [h]
    · have hx := ih.2 _ List.mem_cons_self
      have h1 : (if z < x then z else x) ≤ x := by split <;> omega
      have h2 : (if z < x then z else x) ≤ z := by split <;> omega
      rcases List.mem_cons.mp h with e | h
      · rw [e]; exact Int.le_trans hx h1
      · rcases List.mem_cons.mp h with e | h
        · rw [e]; exact Int.le_trans hx h2
        · exact ih.2 y (List.mem_cons_of_mem _ h)

section
variable {prog : Program} {w : World} {A : Around} {E : Value → Shared → Prop} {s : Shared} {l : Addr} {xs : Array (Int × Tok)}
theorem iter_intTup {Q : Value → Shared → Prop} (hl : s.heap.IsTuple l (intItems xs))
    (h : ∀ s₂ : Shared, s₂ = { s with heap := s.heap.push { cls := .type "tuple_iterator", data := .fields #[.ref l, .int 0 0] } } →
      (s₂.heap.IsTupleIter s.heap.objs.size l 0 ∧ s₂.heap.IsTuple l (intItems xs)) → (∀ b ∈ [s.heap.objs.size, l], b < s₂.heap.objs.size) → l ≠ s.heap.objs.size → Q (.ref s.heap.objs.size) s₂) :
    wpAny (model prog w) A (pyIter (.ref l)) Q E s := by
  have hlt : l < s.heap.objs.size := by obtain ⟨_, e, _⟩ := hl; exact Heap.lt_size e
  refine wpAny_pyIter_tuple hl (h _ rfl ⟨⟨_, Heap.get?_push_size _ rfl, rfl, rfl⟩, hl.push _⟩ (fun b hb => ?_) (Nat.ne_of_lt hlt))
  show b < (s.heap.push _).objs.size
  rw [Heap.size_push]
  rcases List.mem_cons.mp hb with rfl | hb
  · exact Nat.lt_succ_self _
  · rcases List.mem_cons.mp hb with rfl | hb
    · exact Nat.lt_succ_of_lt hlt
    · cases hb
theorem old_keptT {h' : Heap} (hk : ∀ b o, b ∉ [s.heap.objs.size] → (s.heap.push { cls := .type "tuple_iterator", data := .fields #[.ref l, .int 0 0] }).get? b = some o → h'.get? b = some o) :
    ∀ b o, s.heap.get? b = some o → h'.get? b = some o := fun b o e => by
  refine hk b o (fun hm => ?_) (Heap.get?_push_of_some _ e)
  rcases List.mem_cons.mp hm with e1 | hm
  · exact absurd (e1 ▸ Heap.lt_size e) (Nat.lt_irrefl _)
  · cases hm
theorem min_intTup {Q : Value → Shared → Prop} (hh : A.handled = none) (hl : s.heap.IsTuple l (intItems xs)) (hne : 0 < xs.size)
    (h : ∀ v h' tk, (intItems xs)[argBest (fun i j => decide (numAt xs i < numAt xs j)) (xs.size - 1)]? = some v → (∀ b o, s.heap.get? b = some o → h'.get? b = some o) → Q v { s with heap := h', toks := tk }) :
    wpAny (model prog w) A (call (.builtin "min") [.ref l]) Q E s := by
  refine call_min_walk (iter_intTup hl fun s₂ e st hfp hlI => ?_)
  subst e
  refine ⟨_, _, _, _, _, _, _, rfl, Walks.tuple (A := A.in1) hh _ l hlI (intItems xs), st, hfp, by simpa [intItems] using hne, CmpOf.ints_lt (numAt xs) (fun _ _ => intItems_at), fun v h' tk hP hk => ?_⟩
  exact h v h' tk (by simpa [intItems] using hP) (old_keptT hk)
theorem min_rawT {l : Addr} {vs : List Value} {ns : List Int} {Q : Value → Shared → Prop} (hh : A.handled = none) (hl : IsTup s.heap l vs.toArray) (hi : IntsAre vs ns) (hne : 0 < ns.length)
    (h : ∀ h' tk M t', (∀ b o, s.heap.get? b = some o → h'.get? b = some o) → M ∈ ns → (∀ a, a ∈ ns → M ≤ a) → Q (.int M t') { s with heap := h', toks := tk }) : wpAny (model prog w) A (call (.builtin "min") [.ref l]) Q E s := by
  obtain ⟨xs, e⟩ := hi.allInts.items
  have hns : ns = xs.toList.map (·.1) := by
    rw [← hi.numsOf, ← nums_intItems, ← e]
  subst hns
  rw [e] at hl
  have hsz : 0 < xs.size := by simpa using hne
  refine min_intTup hh (show s.heap.IsTuple l _ from hl) hsz fun v h' tk hv hk => ?_
  obtain ⟨t, rfl⟩ := intItems_at hv
  obtain ⟨h1, h2⟩ := argBest_lt (numAt xs) (xs.size - 1)
  refine h h' tk _ t hk ?_ fun a ha => ?_
  · rw [numAt_eq]; exact PySem.getD_mem (by rw [List.length_map, Array.length_toList]; omega)
  · obtain ⟨j, hj, rfl⟩ := mem_getD ha
    rw [List.length_map, Array.length_toList] at hj
    rw [← numAt_eq]; exact h2 j (by omega)
end
theorem cr_minT (hc : X.calm = true) : CallR X (.builtin "min") (fun vs H Q => ∃ (a : Addr) (ns : List Int), vs = [V.ref a] ∧ SqT X.K H a (ns.map V.int) ∧ 0 < ns.length ∧ ∀ m, m ∈ ns → (∀ y, y ∈ ns → m ≤ y) → Q (.int m) H) := by
  intro pins s σ H vs us Q I r h
  obtain ⟨a, ns, rfl, hs, hne, q⟩ := h
  obtain ⟨its, rv, hl, _⟩ := I.tuple hs
  rw [Vals.ref1 r]
  exact min_rawT (I.ok.hd hc) hl rv.ints hne fun h' tk m t' hk h1 h2 => ⟨.int _, H, I.kept hk, ⟨_, rfl⟩, q m h1 h2⟩
theorem least_one {n : Int} {ns : List Int} {m : Int} (h : m ∈ n :: ns) (k : ∀ y, y ∈ n :: ns → m ≤ y) : m = minI n ns := by
  have s := minI_spec ns n
  have := s.2 m h
  have := k _ s.1
  omega
theorem greatest_one {n : Int} {ns : List Int} {m : Int} (h : m ∈ n :: ns) (k : ∀ y, y ∈ n :: ns → y ≤ m) : m = maxI n ns := by
  have s := maxI_spec ns n
  have := s.2 m h
  have := k _ s.1
  omega
end
end DI

set_option Elab.async false
set_option linter.all false
set_option maxRecDepth 100000
set_option maxHeartbeats 4000000
namespace DI
open PySem PySem.Spec PyProof.Rows L2
/-! ### sorted over a tuple of tuples of ints -/
def IsI (h : Heap) (v : Value) (ns : List Int) : Prop := ∃ a o items n, v = .ref a ∧ h.get? a = some o ∧ o.cls = .type "tuple" ∧ o.data = .seq items n ∧ IntsAre items.toList ns
theorem IsI.keeps {h h' : Heap} {v : Value} {ns : List Int} (x : IsI h v ns) (k : ∀ b o, h.get? b = some o → o.cls = .type "tuple" → h'.get? b = some o) : IsI h' v ns := by
  obtain ⟨a, o, items, n, e, g, c, d, i⟩ := x
  exact ⟨a, o, items, n, e, k a o g c, c, d, i⟩
section
variable {prog : Program} {w : World} {A : Around} {s : Shared}
theorem kat_ints {Q : Bool → Shared → Prop} : ∀ (ns ms : List Int) (xs ys : List Value) (i : Nat), IntsAre xs ns → IntsAre ys ms → Q (HT.lexLt ns ms) s → PySem.W.KatLex prog w A true (decide (ns.length < ms.length)) Q (xs.zip ys) i s
  | [], [], _, _, i, .nil, .nil, h => PySem.W.kat_nil (by rw [HT.lexLt_nil_nil] at h; exact h)
  | [], m :: ms, _, _, i, .nil, .cons _ _ _, h => PySem.W.kat_nil (by rw [HT.lexLt_nil_cons] at h; exact h)
  | n :: ns, [], _, _, i, .cons _ _ _, .nil, h => PySem.W.kat_nil (by rw [HT.lexLt_cons_nil] at h; exact h)
  | n :: ns, m :: ms, _, _, i, .cons _ t r1, .cons _ u r2, h => by
    rw [HT.lexLt_cons] at h
    refine PySem.W.kat_cons (SeqAt.EqAt.int_int n t m u prog w _ _ ?_)
    refine PySem.W.kat_go (fun e1 => ?_) (fun e1 => ?_)
    · have ex : n = m := by simpa using e1
      rw [if_pos ex] at h
      have e2 : decide ((n :: ns).length < (m :: ms).length) = decide (ns.length < ms.length) := by simp
      rw [e2]
      exact PySem.W.kat_yes (kat_ints ns ms _ _ (i + 1) r1 r2 h)
    · have ex : ¬ n = m := by simpa using e1
      rw [if_neg ex] at h
      refine PySem.W.kat_no ?_
      cases hb : (true && i == 0) with
      | true => exact (PyProof.Rows.oneLt_int h)
      | false => exact PySem.W.kat_one _ _ (PyProof.Rows.lt_int h)
theorem tups_cmp {vs : List Value} {k : Value → List Int} (hp : ∀ v ∈ vs, IsI s.heap v (k v)) : SrtO.Cmp prog w A s (tuples' true) (fun p => p.1 ∈ vs) (SrtO.lt2 fun v u => HT.lexLt (k v) (k u)) := by
  intro p q h1 h2
  obtain ⟨a, o, items, n, e, g, c, d, i⟩ := hp p.1 h1
  obtain ⟨a', o', items', n', e', g', c', d', i'⟩ := hp q.1 h2
  show wpAny _ _ _ (fun r s' => s' = s ∧ r = HT.lexLt (k p.1) (k q.1)) _ _
  generalize k p.1 = ns at i ⊢
  generalize k q.1 = ms at i' ⊢
  rw [e, e']
  refine PySem.W.kat_lt g d g' d' ?_
  have hl := i.length
  have hl' := i'.length
  have e1 : decide (items.size < items'.size) = decide (ns.length < ms.length) := by
    simp only [Array.length_toList] at hl hl'
    rw [hl, hl']
  rw [e1]
  exact kat_ints ns ms _ _ 0 i i' ⟨rfl, rfl⟩
theorem firsts_ofI {h : Heap} {k : Value → List Int} : ∀ {vs : List Value}, (∀ v ∈ vs, IsI h v (k v) ∧ k v ≠ []) → ∃ fs, PySem.W.KatTups h vs fs ∧ fs.length = vs.length ∧ ∀ f ∈ fs, ∃ x t, f = Value.int x t
  | [], _ => ⟨[], PySem.W.KatTups.nil, rfl, by simp⟩
  | v :: vs, hp => by
    obtain ⟨fs, h1, h2, h3⟩ := firsts_ofI fun u hu => hp u (List.mem_cons_of_mem _ hu)
    obtain ⟨⟨a, o, items, n, e, g, c, d, i⟩, hne⟩ := hp v List.mem_cons_self
    generalize k v = ns at i hne
    cases ns with
    | nil => exact absurd rfl hne
    | cons x ns =>
      generalize hit : items.toList = its at i
      cases i with
      | cons _ t r =>
        have h0 : items[0]? = some (.int x t) := by
          rw [← Array.getElem?_toList, hit]
          rfl
        subst e
        exact ⟨.int x t :: fs, PySem.W.KatTups.cons g c d h0 h1, by simp [h2], fun f hf => by
          rcases List.mem_cons.mp hf with rfl | hf
          · exact ⟨x, t, rfl⟩
          · exact h3 f hf⟩
theorem tups_sortable {a : Addr} {vs : List Value} {k : Value → List Int} (h0 : 0 < vs.length) (hp : ∀ v ∈ vs, IsI s.heap v (k v) ∧ k v ≠ []) (ha : ∀ o, s.heap.get? a = some o → o.cls ≠ .type "tuple") : SrtO.SortableO prog w A s a vs fun v u => HT.lexLt (k v) (k u) := by
  intro h' keep
  have hp' : ∀ v ∈ vs, IsI h' v (k v) ∧ k v ≠ [] := fun v hm => ⟨(hp v hm).1.keeps fun b o e c => keep b o (fun z => by subst z; exact ha o e c) e, (hp v hm).2⟩
  obtain ⟨fs, h1, h2, h3⟩ := firsts_ofI hp'
  refine ⟨tuples' true, fun Q E hq => ?_, tups_cmp (s := { s with heap := h' }) fun v hm => (hp' v hm).1⟩
  refine PySem.W.kat_kind (T := .type "int") h1 (by omega) (fun f hm => ?_) (by rfl) ?_
  · obtain ⟨x, t, rfl⟩ := h3 f hm
    exact PySem.W.Looks.now
  · have e : (Value.type "int" != Value.type "tuple") = true := by first | decide +kernel | rfl | decide
    rw [e]
    exact hq
end
theorem insL_perm (x : List Int) : ∀ l : List (List Int), (insL x l).Perm (x :: l)
  | [] => List.Perm.refl _
  | y :: r => by
    rw [insL]
    split
    · exact List.Perm.refl _
    · exact ((insL_perm x r).cons y).trans (List.Perm.swap x y r)
theorem sortL_perm : ∀ l : List (List Int), (sortL l).Perm l
  | [] => List.Perm.refl _
  | x :: r => (insL_perm x (sortL r)).trans ((sortL_perm r).cons x)
abbrev leL (x y : List Int) : Prop := HT.lexLt y x = false
theorem leL_total {x y : List Int} (h : ¬ leL x y) : leL y x := by
  unfold leL at h ⊢
  cases q : HT.lexLt y x with
  | false => exact absurd q h
  | true => exact NtL.lex_asym _ _ q
theorem insL_sorted (x : List Int) : ∀ {l : List (List Int)}, l.Pairwise leL → (insL x l).Pairwise leL
  | [], _ => List.pairwise_singleton _ _
  | y :: r, h => by
    obtain ⟨h1, h2⟩ := List.pairwise_cons.mp h
    rw [insL]
    split
    · rename_i q
      refine List.pairwise_cons.mpr ⟨fun z hz => ?_, h⟩
      rcases List.mem_cons.mp hz with rfl | hz
      · exact q
      · exact NtL.lex_tr x y z q (h1 z hz)
    · rename_i q
      refine List.pairwise_cons.mpr ⟨fun z hz => ?_, insL_sorted x h2⟩
      rcases List.mem_cons.mp ((insL_perm x r).mem_iff.mp hz) with rfl | hz
      · exact leL_total q
      · exact h1 z hz
theorem sortL_sorted : ∀ l : List (List Int), (sortL l).Pairwise leL
  | [] => List.Pairwise.nil
  | x :: r => insL_sorted x (sortL_sorted r)
theorem leL_anti : ∀ {x y : List Int}, leL x y → leL y x → x = y
  | [], [], _, _ => rfl
  | [], y :: ys, h1, h2 => by unfold leL at h2; rw [HT.lexLt_nil_cons] at h2; cases h2
  | x :: xs, [], h1, h2 => by unfold leL at h1; rw [HT.lexLt_nil_cons] at h1; cases h1
  | x :: xs, y :: ys, h1, h2 => by
    unfold leL at h1 h2
    rw [HT.lexLt_cons] at h1 h2
    by_cases e : x = y
    · subst e
      rw [if_pos rfl] at h1 h2
      rw [leL_anti h1 h2]
    · rw [if_neg (Ne.symm e)] at h1
      rw [if_neg e] at h2
      have a := of_decide_eq_false h1
      have b := of_decide_eq_false h2
      omega
theorem sortedL_one : ∀ {l m : List (List Int)}, l.Perm m → l.Pairwise leL → m.Pairwise leL → l = m
  | [], m, p, _, _ => (List.Perm.eq_nil p.symm).symm
  | x :: l, [], p, _, _ => absurd p.length_eq (by simp)
  | x :: l, y :: m, p, h1, h2 => by
    obtain ⟨a1, a2⟩ := List.pairwise_cons.mp h1
    obtain ⟨b1, b2⟩ := List.pairwise_cons.mp h2
    have e : x = y := by
      rcases List.mem_cons.mp (p.mem_iff.mp (List.mem_cons_self (a := x) (l := l))) with e | hx
      · exact e
      · rcases List.mem_cons.mp (p.mem_iff.mpr (List.mem_cons_self (a := y) (l := m))) with e | hy
        · exact e.symm
        · exact leL_anti (a1 y hy) (b1 x hx)
    subst e
    rw [sortedL_one p.cons_inv a2 b2]
section
variable {X : Cx}
def kOf (s : Shared) (v : Value) : List Int := match v with
  | .ref a => match s.heap.get? a with
    | some o => match o.data with
      | .seq items _ => items.toList.filterMap fun
        | .int i _ => some i
        | _ => none
      | _ => []
    | none => []
  | _ => []
theorem ints_filter : ∀ {xs : List Value} {ns : List Int}, IntsAre xs ns → xs.filterMap (fun | .int i _ => some i | _ => none) = ns
  | _, _, .nil => rfl
  | _, _, .cons n t r => by
    rw [List.filterMap_cons]
    simp only []
    rw [ints_filter r]
theorem kOf_is {s : Shared} {v : Value} {ns : List Int} (h : IsI s.heap v ns) : kOf s v = ns := by
  obtain ⟨a, o, items, n, rfl, g, c, d, i⟩ := h
  unfold kOf
  simp only [g, d]
  exact ints_filter i
theorem cr_sortedTT : CallR X (.builtin "sorted") (fun vs H Q => ∃ (a : Addr) (xs : List V) (nss : List (List Int)), vs = [V.ref a] ∧ SqT X.K H a xs ∧ xs.length = nss.length ∧ (∀ (i : Nat) (x : V) (ns : List Int), xs[i]? = some x → nss[i]? = some ns → ns ≠ [] ∧ ∃ t, x = .ref t ∧ SqT X.K H t (ns.map V.int)) ∧
    ∀ (ys : List V) (p : Addr), ys.length = nss.length → (∀ (i : Nat) (y : V) (ns : List Int), ys[i]? = some y → (sortL nss)[i]? = some ns → ∃ j : Nat, xs[j]? = some y ∧ nss[j]? = some ns) → H p = none → Q (.ref p) (upd H p (.lst ys))) := by
  intro pins s σ H vs us Q I r h
  obtain ⟨a, xs, nss, rfl, hs, hlen, hx, q⟩ := h
  obtain ⟨its, rv, hl, hz⟩ := I.tuple hs
  rw [Vals.ref1 r]
  have hlv := rv.length
  -- the items as values
  have hp : ∀ (i : Nat) (v : Value), its[i]? = some v → ∃ x ns, xs[i]? = some x ∧ nss[i]? = some ns ∧ RelV x v ∧ IsI s.heap v ns ∧ ns ≠ [] := by
    intro i v hv
    have hi : i < its.length := (List.getElem?_eq_some_iff.mp hv).1
    have hix : xs[i]? = some xs[i] := List.getElem?_eq_getElem (by omega)
    have hin : nss[i]? = some nss[i] := List.getElem?_eq_getElem (by omega)
    obtain ⟨u, hu, ru⟩ := rv.get hix
    rw [hv] at hu
    cases hu
    obtain ⟨ne, t, et, ht⟩ := hx i _ _ hix hin
    rw [et] at ru
    cases ru
    obtain ⟨jts, rj, hj, _⟩ := I.tuple ht
    obtain ⟨o, ho, hc, n, hd⟩ := hj
    exact ⟨_, _, hix, hin, by rw [et]; rfl, ⟨t, o, jts.toArray, n, rfl, ho, hc, hd, by simpa using rj.ints⟩, ne⟩
  have hk : its.map (kOf s) = nss := by
    refine List.ext_getElem? fun i => ?_
    rw [List.getElem?_map]
    cases hv : its[i]? with
    | none =>
      have : its.length ≤ i := List.getElem?_eq_none_iff.mp hv
      rw [List.getElem?_eq_none (by omega)]
      rfl
    | some v =>
      obtain ⟨x, ns, _, hn, _, hI, _⟩ := hp i v hv
      rw [hn]
      show some (kOf s v) = _
      rw [kOf_is hI]
  have hI : ∀ v ∈ its, IsI s.heap v (kOf s v) ∧ kOf s v ≠ [] := by
    intro v hm
    obtain ⟨i, hv⟩ := List.mem_iff_getElem?.mp hm
    obtain ⟨x, ns, _, hn, _, hI, ne⟩ := hp i v hv
    rw [kOf_is hI]
    exact ⟨hI, ne⟩
  refine sorted_ordT (NtL.swo_lexL (kOf s)) hl (by rw [← hlv]; exact hz) (fun h2 h₁ a' g kp => tups_sortable (by omega) (fun v hm => ⟨(hI v hm).1.keeps fun b o e c => (kp b o e).2, (hI v hm).2⟩) fun o ho => ?_) fun out h1 h2 => ?_
  · rw [g] at ho
    cases ho
    exact fun z => absurd (Value.type.inj z) (by decide)
  · have pm := h2.perm
    have eo : out.map (kOf s) = sortL nss := by
      refine sortedL_one ?_ ?_ (sortL_sorted nss)
      · rw [← hk]
        exact (pm.map _).trans (sortL_perm _).symm
      · refine List.pairwise_map.mpr ?_
        exact h1
    -- the items as abstract values
    have hrel : ∀ v ∈ out, ∃ x, RelV x v := fun v hm => by
      obtain ⟨i, hv⟩ := List.mem_iff_getElem?.mp (pm.mem_iff.mp hm)
      obtain ⟨x, _, _, _, rx, _⟩ := hp i v hv
      exact ⟨x, rx⟩
    obtain ⟨ys, rys⟩ : ∃ ys, Vals ys out := by
      clear eo h1 h2 pm
      induction out with
      | nil => exact ⟨[], .nil⟩
      | cons v out ih =>
        obtain ⟨x, rx⟩ := hrel v List.mem_cons_self
        obtain ⟨ys, ry⟩ := ih fun u hu => hrel u (List.mem_cons_of_mem _ hu)
        exact ⟨x :: ys, .cons rx ry⟩
    have hyl := rys.length
    have hpl := pm.length_eq
    obtain ⟨ep, he'⟩ := PyProof.Rows.sortedAll_at s.heap its out.toArray
    refine ⟨.ref _, upd H (s.heap.objs.size + 1) (.lst ys), I.laid (t' := s.toks) (fun _ _ => PyProof.Rows.sortedAll_old) (Nat.le_succ _) ⟨by rw [hyl, hpl, ← hlv]; exact hz, out, ep, rys, he'⟩, rfl, q ys _ (by rw [hyl, hpl, ← hlv, hlen]) (fun i y ns hy hn => ?_) (I.hok.fresh (Nat.le_succ _))⟩
    obtain ⟨v, hv, ry⟩ := rys.get hy
    have hkv : kOf s v = ns := by
      have z : (out.map (kOf s))[i]? = some (kOf s v) := by rw [List.getElem?_map, hv]; rfl
      rw [eo, hn] at z
      exact (Option.some.inj z).symm
    obtain ⟨j, hj⟩ := List.mem_iff_getElem?.mp (pm.mem_iff.mp (List.mem_of_getElem? hv))
    obtain ⟨x, ms, hxj, hnj, rx, hIj, _⟩ := hp j v hj
    refine ⟨j, ?_, ?_⟩
    · rw [hxj, rx.inj ry]
    · rw [hnj, ← kOf_is hIj, hkv]
theorem cr_sortedTL : CallR X (.builtin "sorted") (fun vs H Q => ∃ (a : Addr) (xs : List V) (nss : List (List Int)), vs = [V.ref a] ∧ SqL X.K H a xs ∧ xs.length = nss.length ∧ (∀ (i : Nat) (x : V) (ns : List Int), xs[i]? = some x → nss[i]? = some ns → ns ≠ [] ∧ ∃ t, x = .ref t ∧ SqT X.K H t (ns.map V.int)) ∧
    ∀ (ys : List V) (p : Addr), ys.length = nss.length → (∀ (i : Nat) (y : V) (ns : List Int), ys[i]? = some y → (sortL nss)[i]? = some ns → ∃ j : Nat, xs[j]? = some y ∧ nss[j]? = some ns) → H p = none → Q (.ref p) (upd H p (.lst ys))) := by
  intro pins s σ H vs us Q I r h
  obtain ⟨a, xs, nss, rfl, hs, hlen, hx, q⟩ := h
  obtain ⟨its, rv, hl, hz⟩ := I.list hs
  rw [Vals.ref1 r]
  have hlv := rv.length
  -- the items as values
  have hp : ∀ (i : Nat) (v : Value), its[i]? = some v → ∃ x ns, xs[i]? = some x ∧ nss[i]? = some ns ∧ RelV x v ∧ IsI s.heap v ns ∧ ns ≠ [] := by
    intro i v hv
    have hi : i < its.length := (List.getElem?_eq_some_iff.mp hv).1
    have hix : xs[i]? = some xs[i] := List.getElem?_eq_getElem (by omega)
    have hin : nss[i]? = some nss[i] := List.getElem?_eq_getElem (by omega)
    obtain ⟨u, hu, ru⟩ := rv.get hix
    rw [hv] at hu
    cases hu
    obtain ⟨ne, t, et, ht⟩ := hx i _ _ hix hin
    rw [et] at ru
    cases ru
    obtain ⟨jts, rj, hj, _⟩ := I.tuple ht
    obtain ⟨o, ho, hc, n, hd⟩ := hj
    exact ⟨_, _, hix, hin, by rw [et]; rfl, ⟨t, o, jts.toArray, n, rfl, ho, hc, hd, by simpa using rj.ints⟩, ne⟩
  have hk : its.map (kOf s) = nss := by
    refine List.ext_getElem? fun i => ?_
    rw [List.getElem?_map]
    cases hv : its[i]? with
    | none =>
      have : its.length ≤ i := List.getElem?_eq_none_iff.mp hv
      rw [List.getElem?_eq_none (by omega)]
      rfl
    | some v =>
      obtain ⟨x, ns, _, hn, _, hI, _⟩ := hp i v hv
      rw [hn]
      show some (kOf s v) = _
      rw [kOf_is hI]
  have hI : ∀ v ∈ its, IsI s.heap v (kOf s v) ∧ kOf s v ≠ [] := by
    intro v hm
    obtain ⟨i, hv⟩ := List.mem_iff_getElem?.mp hm
    obtain ⟨x, ns, _, hn, _, hI, ne⟩ := hp i v hv
    rw [kOf_is hI]
    exact ⟨hI, ne⟩
  refine SrtO.sorted_ord (NtL.swo_lexL (kOf s)) hl.isList (by rw [← hlv]; exact hz) (fun h2 h₁ a' g kp => tups_sortable (by omega) (fun v hm => ⟨(hI v hm).1.keeps fun b o e c => (kp b o e).2, (hI v hm).2⟩) fun o ho => ?_) fun out h1 h2 => ?_
  · rw [g] at ho
    cases ho
    exact fun z => absurd (Value.type.inj z) (by decide)
  · have pm := h2.perm
    have eo : out.map (kOf s) = sortL nss := by
      refine sortedL_one ?_ ?_ (sortL_sorted nss)
      · rw [← hk]
        exact (pm.map _).trans (sortL_perm _).symm
      · refine List.pairwise_map.mpr ?_
        exact h1
    -- the items as abstract values
    have hrel : ∀ v ∈ out, ∃ x, RelV x v := fun v hm => by
      obtain ⟨i, hv⟩ := List.mem_iff_getElem?.mp (pm.mem_iff.mp hm)
      obtain ⟨x, _, _, _, rx, _⟩ := hp i v hv
      exact ⟨x, rx⟩
    obtain ⟨ys, rys⟩ : ∃ ys, Vals ys out := by
      clear eo h1 h2 pm
      induction out with
      | nil => exact ⟨[], .nil⟩
      | cons v out ih =>
        obtain ⟨x, rx⟩ := hrel v List.mem_cons_self
        obtain ⟨ys, ry⟩ := ih fun u hu => hrel u (List.mem_cons_of_mem _ hu)
        exact ⟨x :: ys, .cons rx ry⟩
    have hyl := rys.length
    have hpl := pm.length_eq
    obtain ⟨ep, he'⟩ := PyProof.Rows.sortedAll_at s.heap its out.toArray
    refine ⟨.ref _, upd H (s.heap.objs.size + 1) (.lst ys), I.laid (t' := s.toks) (fun _ _ => PyProof.Rows.sortedAll_old) (Nat.le_succ _) ⟨by rw [hyl, hpl, ← hlv]; exact hz, out, ep, rys, he'⟩, rfl, q ys _ (by rw [hyl, hpl, ← hlv, hlen]) (fun i y ns hy hn => ?_) (I.hok.fresh (Nat.le_succ _))⟩
    obtain ⟨v, hv, ry⟩ := rys.get hy
    have hkv : kOf s v = ns := by
      have z : (out.map (kOf s))[i]? = some (kOf s v) := by rw [List.getElem?_map, hv]; rfl
      rw [eo, hn] at z
      exact (Option.some.inj z).symm
    obtain ⟨j, hj⟩ := List.mem_iff_getElem?.mp (pm.mem_iff.mp (List.mem_of_getElem? hv))
    obtain ⟨x, ms, hxj, hnj, rx, hIj, _⟩ := hp j v hj
    refine ⟨j, ?_, ?_⟩
    · rw [hxj, rx.inj ry]
    · rw [hnj, ← kOf_is hIj, hkv]
/-- sum over a tuple of ints -/
theorem cr_sumT (hc : X.calm = true) : CallR X (.builtin "sum") (fun vs H Q => ∃ (a : Addr) (ns : List Int), vs = [V.ref a] ∧ SqT X.K H a (ns.map V.int) ∧ Q (.int ns.sum) H) := by
  intro pins s σ H vs us Q I r h
  obtain ⟨a, ns, rfl, hs, q⟩ := h
  obtain ⟨its, rv, hl, _⟩ := I.tuple hs
  rw [Vals.ref1 r]
  obtain ⟨xs, e⟩ := rv.ints.allInts.items
  have hn : numsOf (intItems xs).toList = ns := by rw [← e]; exact rv.ints.numsOf
  rw [nums_intItems] at hn
  rw [e] at hl
  refine PySem.W.ktm_sumG (I.ok.hd hc) (show s.heap.IsTuple a _ from hl) fun h' tk t' hk => ?_
  have z : EP X pins σ Q (.int ns.sum t') { s with heap := h', toks := tk } := ⟨.int _, H, I.kept hk, ⟨t', rfl⟩, q⟩
  rw [preSum_eq, List.take_of_length_le (by simp), hn]
  exact z
/-- repr of data -/
theorem cr_repr (hg : X.A.guards = some []) (hu : X.A.units + 65 < cLine) : CallR X (.builtin "repr") (fun vs H Q => ∃ (a : Addr) (d : PyData), vs = [V.ref a] ∧ Dp X.K H (.ref a) d ∧ d.showable = true ∧ SeqAt.shaped d = true ∧ d.hasDict = false ∧ d.shown.length ≤ sizeLine ∧ Q (.str d.shown) H) := by
  intro pins s σ H vs us Q I r h
  obtain ⟨a, d, rfl, hd, h1, h2, h3, h4, q⟩ := h
  rw [Vals.ref1 r]
  obtain ⟨as, rd⟩ := Dp.reads I d (.ref a) (.ref a) hd rfl
  have hdep : d.depth ≤ 64 := by
    unfold SeqAt.shaped at h2
    simp only [Bool.and_eq_true, decide_eq_true_eq] at h2
    omega
  refine repr_of_reads' rd h1 (fun z => by rw [h3] at z; cases z) hg (by omega) (fun b o e => e) (fun h' u tk hk => ⟨.str d.shown, H, I.kept hk, ⟨u, rfl⟩, q⟩) h4
end
end DI

set_option Elab.async false
set_option linter.all false
set_option maxRecDepth 100000
set_option maxHeartbeats 4000000
namespace DI
open PySem PySem.Spec PyProof.Rows L2
theorem intsOf_map : ∀ ns : List Int, intsOf (ns.map D.int) = some ns
  | [] => rfl
  | n :: ns => by
    rw [List.map_cons, intsOf, intsOf_map ns]
    rfl
theorem Iss.of_get {K : Kg} {F : Hp} {rs : List Addr} : ∀ {ds : List D} {vs : List V}, ds.length = vs.length → (∀ (i : Nat) (d : D) (v : V), ds[i]? = some d → vs[i]? = some v → Is K F rs d v) → Iss K F rs ds vs
  | [], [], _, _ => rfl
  | d :: ds, v :: vs, hl, h => ⟨v, vs, rfl, h 0 d v rfl rfl, Iss.of_get (by simpa using hl) fun i e u he hu => h (i + 1) e u (by simpa using he) (by simpa using hu)⟩
  | [], _ :: _, hl, _ => by simp at hl
  | _ :: _, [], hl, _ => by simp at hl
theorem tups_rel {K : Kg} {F : Hp} {rs : List Addr} : ∀ {l : List D} {vs : List V} {nss : List (List Int)}, Iss K F rs l vs → tupsOf l = some nss → vs.length = nss.length ∧ ∀ (i : Nat) (x : V) (ns : List Int), vs[i]? = some x → nss[i]? = some ns → ns ≠ [] ∧ Is K F rs (.tup (ns.map .int)) x
  | [], _, nss, h, e => by
    cases h
    simp [tupsOf] at e
    subst e
    exact ⟨rfl, by simp⟩
  | d :: l, _, nss, ⟨v, r, rfl, h, t⟩, e => by
    cases d <;> simp only [tupsOf] at e <;> try cases e
    rename_i m
    cases hm : intsOf m with
    | none => simp [hm] at e
    | some ns =>
      cases ns with
      | nil => simp [hm] at e
      | cons n ns =>
        simp only [hm] at e
        rw [Option.map_eq_some_iff] at e
        obtain ⟨rest, er, rfl⟩ := e
        obtain ⟨h1, h2⟩ := tups_rel t er
        refine ⟨by simp [h1], fun i x ks hx hk => ?_⟩
        cases i with
        | zero =>
          simp at hx hk
          subst hx hk
          refine ⟨by simp, ?_⟩
          obtain ⟨a, ws, e1, e2, e3⟩ := h
          have e4 := e3.of_ints hm
          subst e4
          exact ⟨a, _, e1, e2, Iss.ints⟩
        | succ i =>
          simp at hx hk
          exact h2 i x ks hx hk
section
variable {X : Cx}
/-- a tree's type -/
def D.typ : D → String
  | .non => "NoneType"
  | .bl _ => "bool"
  | .int _ => "int"
  | .str _ => "str"
  | .tup _ => "tuple"
  | .lst _ => "list"
  | .dic _ _ _ => "dict"
  | _ => ""
def D.typed : D → Bool
  | .non | .bl _ | .int _ | .str _ | .tup _ | .lst _ | .dic _ _ _ => true
  | _ => false
theorem ty_of {K : Kg} {F H : Hp} {rs : List Addr} (sm : Same F H) {d : D} {v : V} (h : Vw K F rs H d v) (t : d.typed = true) : TyX X.K H v (.type d.typ) := by
  cases d with
  | non => cases h; exact .base .non
  | bl b => cases h; exact .base (.bl b)
  | int i => cases h; exact .base (.int i)
  | str x => cases h; exact .base (.str x)
  | tup l =>
    obtain ⟨a, vs, rfl, ha, _⟩ := h
    exact .base (.tup (sm _ _ ha))
  | lst l =>
    obtain ⟨a, vs, rfl, ha, _⟩ := h
    rcases ha with ha | ⟨o, ha⟩
    · exact .base (.lst ha)
    · exact .base (.frz ha)
  | dic tk ks l =>
    obtain ⟨a, o, zs, rfl, ha, dc, _⟩ := h
    unfold DcOk at dc
    split at dc
    · obtain ⟨js, _, _, rfl⟩ := dc
      exact .base (.dT ha)
    · obtain ⟨js, _, _, rfl⟩ := dc
      exact .base (.dK ha)
  | _ => cases t
theorem isiD_kit {d : D} {n : String} {b : Bool} (h : isiD d n = some b) : d.typed = true ∧ kitB d.typ n = some b := by
  unfold isiD at h
  split at h <;> (try cases h) <;> refine ⟨rfl, ?_⟩ <;> simp only [D.typ] <;> decide +kernel
/-! ### the built-in functions -/
def Vws (K : Kg) (F : Hp) (rs : List Addr) (H : Hp) : List D → List V → Prop
  | [], vs => vs = []
  | d :: ds, vs => ∃ v r, vs = v :: r ∧ Vw K F rs H d v ∧ Vws K F rs H ds r
def Bi.val : Bi → Value
  | .len => .builtin "len"
  | .list => .type "list"
  | .tuple => .type "tuple"
  | .sum => .builtin "sum"
  | .all => .builtin "all"
  | .any => .builtin "any"
  | .min => .builtin "min"
  | .max => .builtin "max"
  | .sorted => .builtin "sorted"
  | .repr => .builtin "repr"
  | .abs => .builtin "abs"
  | .isi => .builtin "isinstance"
  | _ => .none
def rBi (K : Kg) (f : List D → Option D) : List V → Hp → VK → Prop := fun xs H Q => ∃ (F : Hp) (rs : List Addr) (st : Store) (ds : List D) (z : D), StOk K F rs H st ∧ Vws K F rs H ds xs ∧ f ds = some z ∧ Gives K F rs H st z Q
theorem call_one {f : Value} {K : Kg} {g : List D → Option D} (h : ∀ (F : Hp) (rs : List Addr) (st : Store) (H : Hp) (ds : List D) (z : D) (xs : List V) (Q : VK) (pins : List (Addr × Obj)) (s : Shared) (σ : L2.St) (us : List Value), Inv X pins σ H s → Vals xs us → StOk K F rs H st → Vws K F rs H ds xs → g ds = some z → Gives K F rs H st z Q →
    wpAny (model X.prog X.w) X.A (call f us) (EP X pins σ Q) X.xe s) : CallR X f (rBi K g) := by
  intro pins s σ H xs us Q I r ⟨F, rs, st, ds, z, S, hv, hz, g⟩
  exact h F rs st H ds z xs Q pins s σ us I r S hv hz g
theorem Vws.ints_lst {K : Kg} {F H : Hp} {rs : List Addr} {l : List D} {v : V} {ns : List Int} (h : Vw K F rs H (.lst l) v) (e : intsOf l = some ns) : ∃ a, v = .ref a ∧ Rd H a (.lst (ns.map V.int)) := by
  obtain ⟨a, vs, ev, q, r⟩ := h
  have := r.of_ints e
  subst this
  exact ⟨a, ev, q⟩
theorem Iss.intsD {K : Kg} {F : Hp} {rs : List Addr} {ns : List Int} : Iss K F rs (ns.map D.int) (ns.map V.int) := Iss.ints
theorem call_blt {K : Kg} (hK : K.K = X.K) (hc : X.calm = true) (hgd : X.A.guards = some []) (hu : X.A.units + 65 < cLine) (b : Bi) (h1 : b ≠ .listRg) (h2 : b ≠ .tupRg) (h3 : b ≠ .lenSet) : CallR X b.val (rBi K (bltD b)) := by
  refine call_one fun F rs st H ds z xs Q pins s σ us I r S hv hz g => ?_
  cases b with
  | listRg => exact absurd rfl h1
  | tupRg => exact absurd rfl h2
  | lenSet => exact absurd rfl h3
  | len =>
    simp only [bltD] at hz
    split at hz <;> try cases hz
    · obtain ⟨v, _, rfl, ⟨a, vs, rfl, ha, hr⟩, rfl⟩ := hv
      refine call_len pins s σ H _ us Q I r ⟨_, _, rfl, .inl ⟨vs, .inl ha, rfl⟩, ?_⟩
      rw [← hr.length]; exact g.flat S rfl rfl
    · obtain ⟨v, _, rfl, ⟨a, vs, rfl, ha, hr⟩, rfl⟩ := hv
      refine call_len pins s σ H _ us Q I r ⟨_, _, rfl, .inr ⟨vs, SqT.of (S.sm _ _ ha), rfl⟩, ?_⟩
      rw [← hr.length]; exact g.flat S rfl rfl
    · obtain ⟨v, _, rfl, ⟨a, o, zs, rfl, ha, dc, hr⟩, rfl⟩ := hv
      unfold DcOk at dc
      rw [if_neg Bool.false_ne_true] at dc
      obtain ⟨js, rfl, hl, rfl⟩ := dc
      obtain ⟨u, rfl, ru⟩ := vals1 r
      cases ru
      refine d_len I (.inl ha) fun t s1 I1 => ⟨.int _, H, I1, ⟨t, rfl⟩, ?_⟩
      have e : (js.zip zs).length = (List.map (Sum.inl (β := List Key)) js).length := by simp; omega
      rw [e]
      exact g.flat S rfl rfl
    · split at hz
      · rename_i hl; cases hz
        obtain ⟨v, _, rfl, hx, rfl⟩ := hv
        cases hx
        exact call_len pins s σ H _ us Q I r ⟨_, _, rfl, ⟨by rw [line_eq]; exact hl, rfl⟩, g.flat S rfl rfl⟩
      · cases hz
  | list =>
    simp only [bltD] at hz
    split at hz <;> try cases hz
    · obtain ⟨v, _, rfl, ⟨a, vs, rfl, ha, hr⟩, rfl⟩ := hv
      exact call_list_of pins s σ H _ us Q I r ⟨a, vs, rfl, .inl (.inl ha), g.lst S hr⟩
    · obtain ⟨v, _, rfl, ⟨a, vs, rfl, ha, hr⟩, rfl⟩ := hv
      exact call_list_of pins s σ H _ us Q I r ⟨a, vs, rfl, .inr (SqT.of (S.sm _ _ ha)), g.lst S hr⟩
  | tuple =>
    simp only [bltD] at hz
    split at hz <;> try cases hz
    · obtain ⟨v, _, rfl, ⟨a, vs, rfl, ha, hr⟩, rfl⟩ := hv
      exact call_tuple_of pins s σ H _ us Q I r ⟨a, vs, rfl, .inl ⟨.inl ha, g.tup S hr⟩⟩
    · obtain ⟨v, _, rfl, ⟨a, vs, rfl, ha, hr⟩, rfl⟩ := hv
      exact call_tuple_of pins s σ H _ us Q I r ⟨a, vs, rfl, .inr ⟨SqT.of (S.sm _ _ ha), g.flat S ⟨a, vs, rfl, ha, hr⟩ rfl⟩⟩
  | sum =>
    simp only [bltD] at hz
    split at hz <;> try cases hz
    · rw [Option.map_eq_some_iff] at hz
      obtain ⟨ns, en, rfl⟩ := hz
      obtain ⟨v, _, rfl, hx, rfl⟩ := hv
      obtain ⟨a, rfl, ha⟩ := Vws.ints_lst hx en
      exact cr_sum hc pins s σ H _ us Q I r ⟨a, ns, rfl, .inl ha, g.flat S rfl rfl⟩
    · rw [Option.map_eq_some_iff] at hz
      obtain ⟨ns, en, rfl⟩ := hz
      obtain ⟨v, _, rfl, hx, rfl⟩ := hv
      obtain ⟨a, rfl, ha⟩ := tup_ints S.sm hx en
      rw [hK] at ha
      exact cr_sumT hc pins s σ H _ us Q I r ⟨a, ns, rfl, ha, g.flat S rfl rfl⟩
  | repr =>
    simp only [bltD] at hz
    split at hz <;> try cases hz
    · split at hz
      · rename_i l hl
        cases hz
        simp only [Bool.and_eq_true, Bool.not_eq_true', decide_eq_true_eq] at hl
        obtain ⟨v, _, rfl, hx, rfl⟩ := hv
        have hd := dp_vw S.sm hx hl.1.1.2
        rw [hK] at hd
        obtain ⟨a, vs, rfl, _⟩ := hx
        exact cr_repr hgd hu pins s σ H _ us Q I r ⟨a, _, rfl, hd, hl.1.1.1, hl.1.1.2, hl.1.2, by rw [line_eq]; exact hl.2, g.flat S rfl rfl⟩
      · cases hz
    · split at hz
      · rename_i l hl
        cases hz
        simp only [Bool.and_eq_true, Bool.not_eq_true', decide_eq_true_eq] at hl
        obtain ⟨v, _, rfl, hx, rfl⟩ := hv
        have hd := dp_vw S.sm hx hl.1.1.2
        rw [hK] at hd
        obtain ⟨a, vs, rfl, _⟩ := hx
        exact cr_repr hgd hu pins s σ H _ us Q I r ⟨a, _, rfl, hd, hl.1.1.1, hl.1.1.2, hl.1.2, by rw [line_eq]; exact hl.2, g.flat S rfl rfl⟩
      · cases hz
  | all =>
    simp only [bltD] at hz
    split at hz <;> try cases hz
    rw [Option.map_eq_some_iff] at hz
    obtain ⟨ns, en, rfl⟩ := hz
    obtain ⟨v, _, rfl, ⟨a, vs, rfl, ha, hr⟩, rfl⟩ := hv
    have := hr.of_bls en
    subst this
    exact cr_all hc pins s σ H _ us Q I r ⟨a, ns, rfl, .inl ha, g.flat S rfl rfl⟩
  | any =>
    simp only [bltD] at hz
    split at hz <;> try cases hz
    rw [Option.map_eq_some_iff] at hz
    obtain ⟨ns, en, rfl⟩ := hz
    obtain ⟨v, _, rfl, ⟨a, vs, rfl, ha, hr⟩, rfl⟩ := hv
    have := hr.of_bls en
    subst this
    exact cr_any hc pins s σ H _ us Q I r ⟨a, ns, rfl, .inl ha, g.flat S rfl rfl⟩
  | min =>
    simp only [bltD] at hz
    split at hz <;> try cases hz
    · split at hz <;> try cases hz
      rename_i n ns en
      obtain ⟨v, _, rfl, hx, rfl⟩ := hv
      obtain ⟨a, rfl, ha⟩ := Vws.ints_lst hx en
      refine cr_min hc pins s σ H _ us Q I r ⟨a, _, rfl, .inl ha, by simp, fun m h1 h2 => ?_⟩
      rw [least_one h1 h2]
      exact g.flat S rfl rfl
    · split at hz <;> try cases hz
      rename_i n ns en
      obtain ⟨v, _, rfl, hx, rfl⟩ := hv
      obtain ⟨a, rfl, ha⟩ := tup_ints S.sm hx en
      rw [hK] at ha
      refine cr_minT hc pins s σ H _ us Q I r ⟨a, _, rfl, ha, by simp, fun m h1 h2 => ?_⟩
      rw [least_one h1 h2]
      exact g.flat S rfl rfl
    · obtain ⟨v, _, rfl, hx, w, _, rfl, hy, rfl⟩ := hv
      cases hx; cases hy
      exact call_min2 hc pins s σ H _ us Q I r ⟨_, _, rfl, g.flat S rfl rfl⟩
  | max =>
    simp only [bltD] at hz
    split at hz <;> try cases hz
    · split at hz <;> try cases hz
      rename_i n ns en
      obtain ⟨v, _, rfl, hx, rfl⟩ := hv
      obtain ⟨a, rfl, ha⟩ := Vws.ints_lst hx en
      refine cr_max hc pins s σ H _ us Q I r ⟨a, _, rfl, .inl ha, by simp, fun m h1 h2 => ?_⟩
      rw [greatest_one h1 h2]
      exact g.flat S rfl rfl
    · obtain ⟨v, _, rfl, hx, w, _, rfl, hy, rfl⟩ := hv
      cases hx; cases hy
      exact call_max2 hc pins s σ H _ us Q I r ⟨_, _, rfl, g.flat S rfl rfl⟩
  | sorted =>
    simp only [bltD] at hz
    split at hz <;> try cases hz
    · rename_i l
      cases en : intsOf l with
      | some ns =>
        simp only [en] at hz
        cases hz
        obtain ⟨v, _, rfl, hx, rfl⟩ := hv
        obtain ⟨a, rfl, ha⟩ := Vws.ints_lst hx en
        refine cr_sortedI pins s σ H _ us Q I r ⟨a, ns, rfl, .inl ha, fun ns' p hp hs hn => ?_⟩
        rw [sortI_one hp hs]
        exact g.lst S Iss.ints p hn
      | none =>
        simp only [en] at hz
        rw [Option.map_eq_some_iff] at hz
        obtain ⟨nss, et, rfl⟩ := hz
        obtain ⟨v, _, rfl, hx, rfl⟩ := hv
        obtain ⟨a, vs, rfl, ha, hi⟩ := hx
        obtain ⟨hl, ht⟩ := tups_rel hi et
        refine cr_sortedTL pins s σ H _ us Q I r ⟨a, vs, nss, rfl, .inl ha, hl, fun i x ns h1 h2 => ?_, fun ys p h1 h2 hn => g.lst S (Iss.of_get (by rw [List.length_map, (sortL_perm nss).length_eq, h1]) fun i d y hd hy => ?_) p hn⟩
        · obtain ⟨q1, t, ws, q2, q3, q4⟩ := ht i x ns h1 h2
          refine ⟨q1, t, q2, SqT.of (S.sm _ _ ?_)⟩
          rw [q3, q4.of_ints (intsOf_map ns)]
        · rw [List.getElem?_map] at hd
          cases hs : (sortL nss)[i]? with
          | none => rw [hs] at hd; cases hd
          | some ns =>
            rw [hs] at hd
            cases hd
            obtain ⟨j, j1, j2⟩ := h2 i y ns hy hs
            exact (ht j y ns j1 j2).2
    · rename_i l
      cases en : intsOf l with
      | some ns =>
        simp only [en] at hz
        cases hz
        obtain ⟨v, _, rfl, hx, rfl⟩ := hv
        obtain ⟨a, rfl, ha⟩ := tup_ints S.sm hx en
        rw [hK] at ha
        refine cr_sortedT' pins s σ H _ us Q I r ⟨a, ns, rfl, ha, fun ns' p hp hs hn => ?_⟩
        rw [sortI_one hp hs]
        exact g.lst S Iss.ints p hn
      | none =>
        simp only [en] at hz
        rw [Option.map_eq_some_iff] at hz
        obtain ⟨nss, et, rfl⟩ := hz
        obtain ⟨v, _, rfl, hx, rfl⟩ := hv
        obtain ⟨a, vs, rfl, ha, hi⟩ := hx
        obtain ⟨hl, ht⟩ := tups_rel hi et
        refine cr_sortedTT pins s σ H _ us Q I r ⟨a, vs, nss, rfl, SqT.of (S.sm _ _ ha), hl, fun i x ns h1 h2 => ?_, fun ys p h1 h2 hn => g.lst S (Iss.of_get (by rw [List.length_map, (sortL_perm nss).length_eq, h1]) fun i d y hd hy => ?_) p hn⟩
        · obtain ⟨q1, t, ws, q2, q3, q4⟩ := ht i x ns h1 h2
          refine ⟨q1, t, q2, SqT.of (S.sm _ _ ?_)⟩
          rw [q3, q4.of_ints (intsOf_map ns)]
        · rw [List.getElem?_map] at hd
          cases hs : (sortL nss)[i]? with
          | none => rw [hs] at hd; cases hd
          | some ns =>
            rw [hs] at hd
            cases hd
            obtain ⟨j, j1, j2⟩ := h2 i y ns hy hs
            exact (ht j y ns j1 j2).2
  | abs =>
    simp only [bltD] at hz
    split at hz <;> try cases hz
    obtain ⟨v, _, rfl, hx, rfl⟩ := hv
    cases hx
    exact call_abs pins s σ H _ us Q I r ⟨_, rfl, g.flat S rfl rfl⟩
  | isi =>
    simp only [bltD] at hz
    split at hz <;> try cases hz
    rename_i x n
    rw [Option.map_eq_some_iff] at hz
    obtain ⟨b, eb, rfl⟩ := hz
    obtain ⟨v, _, rfl, hx, w, _, rfl, hy, rfl⟩ := hv
    cases hy
    obtain ⟨t, k⟩ := isiD_kit eb
    exact call_isi pins s σ H _ us Q I r ⟨v, _, _, _, b, rfl, .ty n, ty_of S.sm hx t, kit_ty k, g.flat S rfl rfl⟩
end
end DI

set_option Elab.async false
set_option linter.all false
set_option maxRecDepth 100000
set_option maxHeartbeats 4000000
namespace DI
open PySem PySem.Spec PyProof.Rows L2

/-! ### ends of a run -/
/-- an exception as a tree: its class, its fields -/
def ExOk (K : Kg) (F : Hp) (rs : List Addr) (H : Hp) : D → Value → Option Addr → Prop
  | .ins c ks l, cls, dx => cls = .ref (K.ca c) ∧ ∃ p fs, dx = some p ∧ H p = some (.xd fs) ∧ fs.map (·.1) = ks ∧ Iss K F rs l (fs.map (·.2))
  | _, _, _ => False
/-- how what comes stands to its tree: the heap at the start, then F, rs, H -/
abbrev Rl (A B : Type) := Hp → Hp → List Addr → Hp → A → B → Prop
structure Up {A B : Type} (r : Rl A B) : Prop where
  up : ∀ (Hs Hs' F : Hp) (rs : List Addr) (H : Hp) (a : A) (b : B), (∀ p, Hs' p = none → Hs p = none) → r Hs' F rs H a b → r Hs F rs H a b
def Fin {A B : Type} (K : Kg) (r : Rl A B) (F : Hp) (rs : List Addr) (H : Hp) (x : R A) (Q : B → Hp → Prop) (E : XK) : Prop := match x with
  | .ok a st' => ∀ b F' rs' H', Step F rs H F' rs' H' → StOk K F' rs' H' st' → r H F' rs' H' a b → Q b H'
  | .err e st' => ∀ c dx F' rs' H', Step F rs H F' rs' H' → StOk K F' rs' H' st' → ExOk K F' rs' H' e c dx → E c dx H'
  | .no => False
def relK (K : Kg) : Rl D V := fun _ F rs _ d v => Is K F rs d v
def relP (K : Kg) : Rl D V := fun _ F rs H d v => Pk K F rs H d v
def relF (K : Kg) : Rl D V := fun Hs F rs H d v => (isBox d = false ∧ Is K F rs d v) ∨ ∃ p, v = .ref p ∧ Hs p = none ∧ Fresh K F rs H d p
def relL (K : Kg) : Rl (List D) (List V) := fun _ F rs _ d v => Iss K F rs d v
def Pks (K : Kg) (F : Hp) (rs : List Addr) (H : Hp) : List D → List V → Prop
  | [], vs => vs = []
  | d :: ds, vs => ∃ v r, vs = v :: r ∧ Pk K F rs H d v ∧ Pks K F rs H ds r
def relPs (K : Kg) : Rl (List D) (List V) := fun _ F rs H d v => Pks K F rs H d v
def relB : Rl Bool Bool := fun _ _ _ _ a b => a = b
theorem Up.k {K : Kg} : Up (relK K) := ⟨fun _ _ _ _ _ _ _ _ h => h⟩
theorem Up.p {K : Kg} : Up (relP K) := ⟨fun _ _ _ _ _ _ _ _ h => h⟩
theorem Up.l {K : Kg} : Up (relL K) := ⟨fun _ _ _ _ _ _ _ _ h => h⟩
theorem Up.ps {K : Kg} : Up (relPs K) := ⟨fun _ _ _ _ _ _ _ _ h => h⟩
theorem Up.b : Up relB := ⟨fun _ _ _ _ _ _ _ _ h => h⟩
theorem Up.f {K : Kg} : Up (relF K) := ⟨fun _ _ _ _ _ _ _ k h => by
  rcases h with h | ⟨p, e, hp, h⟩
  · exact .inl h
  · exact .inr ⟨p, e, k p hp, h⟩⟩
theorem Step.free {F F' H H' : Hp} {rs rs' : List Addr} (s : Step F rs H F' rs' H') : ∀ p, H' p = none → H p = none := fun p hp => by
  cases q : H p with
  | none => rfl
  | some o =>
    obtain ⟨o', e⟩ := s.al p o q
    rw [hp] at e; cases e
section
variable {K : Kg} {A B A' B' : Type} {r : Rl A B} {r' : Rl A' B'} {F F' H H' : Hp} {rs rs' : List Addr} {x : R A} {Q : B → Hp → Prop} {E : XK}
theorem Fin.step (u : Up r) (h : Fin K r F rs H x Q E) (s : Step F rs H F' rs' H') : Fin K r F' rs' H' x Q E := by
  cases x with
  | ok a st => exact fun b F2 rs2 H2 s2 S2 q => h b F2 rs2 H2 (s.trans s2) S2 (u.up _ _ _ _ _ _ _ s.free q)
  | err e st => exact fun c dx F2 rs2 H2 s2 S2 q => h c dx F2 rs2 H2 (s.trans s2) S2 q
  | no => exact h
theorem Fin.bind (u : Up r) {y : R A'} {f : A' → Store → R A} {Q' : B' → Hp → Prop} (h : Fin K r F rs H (y.bind f) Q E)
    (k : ∀ a st1 b F1 rs1 H1, Step F rs H F1 rs1 H1 → StOk K F1 rs1 H1 st1 → r' H F1 rs1 H1 a b → Fin K r F1 rs1 H1 (f a st1) Q E → Q' b H1) : Fin K r' F rs H y Q' E := by
  cases y with
  | ok a st => exact fun b F1 rs1 H1 s1 S1 q => k a st b F1 rs1 H1 s1 S1 q (Fin.step u (show Fin K r F rs H (f a st) Q E from h) s1)
  | err e st => exact h
  | no => exact h
theorem Fin.of {o : Option A} {st : Store} (h : Fin K r F rs H (R.of o st) Q E) : ∃ z, o = some z ∧ Fin K r F rs H (.ok z st) Q E := by
  cases o with
  | none => exact h.elim
  | some z => exact ⟨z, rfl, h⟩
theorem Fin.val {a : A} {b : B} {st : Store} (h : Fin K r F rs H (.ok a st) Q E) (S : StOk K F rs H st) (q : r H F rs H a b) : Q b H := h b F rs H Step.refl S q
/-- what may handle known things may handle new ones -/
theorem Fin.known {x : R D} {Q : VK} (h : Fin K (relK K) F rs H x Q E) : Fin K (relF K) F rs H x Q E := by
  cases x with
  | ok a st =>
    intro b F1 rs1 H1 s1 S1 q
    rcases q with ⟨_, q⟩ | ⟨p, rfl, hp, o, h1, h2, h3, h4⟩
    · exact h b F1 rs1 H1 s1 S1 q
    · exact h (.ref p) (upd F1 p o) rs1 H1 (s1.know hp h2) (S1.know h2 h3 h1) (Is.of_box h2 h4)
  | err e st => exact h
  | no => exact h
theorem Fin.peek {x : R D} {Q : VK} (h : Fin K (relP K) F rs H x Q E) : Fin K (relK K) F rs H x Q E := by
  cases x with
  | ok a st => exact fun b F1 rs1 H1 s1 S1 q => h b F1 rs1 H1 s1 S1 (.inl q)
  | err e st => exact h
  | no => exact h
/-- what an operation is to give -/
theorem Fin.gives {z : D} {st : Store} {Q : VK} (h : Fin K (relF K) F rs H (.ok z st) Q E) : Gives K F rs H st z Q :=
  ⟨fun v F' H' s S i b => h v F' rs H' s S (.inl ⟨b, i⟩), fun p H' hp s S f => h (.ref p) F rs H' s S (.inr ⟨p, rfl, hp, f⟩)⟩
end

/-! ### the names -/
/-- H0: the heap at the def's entry; G: which names own their box -/
structure EnvOk (K : Kg) (F : Hp) (rs : List Addr) (H H0 : Hp) (G : List Bool) (S : Env) (σ : L2.St) : Prop where
  len : S.length = σ.length
  loc : ∀ (i : Nat) (d : D), S[i]? = some (some d) → ∃ v, σ[i]? = some (some v) ∧ (if G.getD i false = true then ∃ p, v = .ref p ∧ Fresh K F rs H d p ∧ H0 p = none else Is K F rs d v)
  inj : ∀ (i j : Nat) (d e : D) (v : V), i ≠ j → G.getD i false = true → G.getD j false = true → S[i]? = some (some d) → S[j]? = some (some e) → σ[i]? = some (some v) → σ[j]? = some (some v) → False
theorem EnvOk.step {K : Kg} {F F' H H' H0 : Hp} {rs rs' : List Addr} {G : List Bool} {S : Env} {σ : L2.St} (e : EnvOk K F rs H H0 G S σ) (s : Step F rs H F' rs' H') : EnvOk K F' rs' H' H0 G S σ := by
  refine ⟨e.len, fun i d h => ?_, e.inj⟩
  obtain ⟨v, hv, c⟩ := e.loc i d h
  refine ⟨v, hv, ?_⟩
  split at c
  · rename_i g
    obtain ⟨p, e1, f, z⟩ := c
    rw [if_pos g]
    exact ⟨p, e1, f.step s, z⟩
  · rename_i g
    rw [if_neg g]
    exact c.mono s.sF s.pre _ _
theorem EnvOk.pk {K : Kg} {F H H0 : Hp} {rs : List Addr} {G : List Bool} {S : Env} {σ : L2.St} (e : EnvOk K F rs H H0 G S σ) {i : Nat} {d : D} (h : S[i]? = some (some d)) : ∃ v, σ[i]? = some (some v) ∧ Pk K F rs H d v := by
  obtain ⟨v, hv, c⟩ := e.loc i d h
  refine ⟨v, hv, ?_⟩
  split at c
  · obtain ⟨p, e1, f, z⟩ := c
    exact .inr ⟨p, e1, f⟩
  · exact .inl c
theorem EnvOk.is {K : Kg} {F H H0 : Hp} {rs : List Addr} {G : List Bool} {S : Env} {σ : L2.St} (e : EnvOk K F rs H H0 G S σ) {i : Nat} {d : D} (h : S[i]? = some (some d)) (g : G.getD i false = false) : ∃ v, σ[i]? = some (some v) ∧ Is K F rs d v := by
  obtain ⟨v, hv, c⟩ := e.loc i d h
  rw [g, if_neg Bool.false_ne_true] at c
  exact ⟨v, hv, c⟩

/-! ### readings -/
/-- what a piece of syntax is read with -/
structure Rd' where
  K : Kg
  P : Calls
  H0 : Hp
  G : List Bool
  W : WX
def tE (T : Rd') (r : Rl D V) (e : IE) : TE := fun σ H Q => ∃ F rs S st, EnvOk T.K F rs H T.H0 T.G S σ ∧ StOk T.K F rs H st ∧ Fin T.K r F rs H (ev T.P S e st) Q fun c dx H' => T.W c dx σ H'
def tL (T : Rd') (r : Rl (List D) (List V)) (es : IEs) : TA := fun σ H Q => ∃ F rs S st, EnvOk T.K F rs H T.H0 T.G S σ ∧ StOk T.K F rs H st ∧ Fin T.K r F rs H (evs T.P S es st) Q fun c dx H' => T.W c dx σ H'
/-- the truth of a tree's value -/
def evT (P : Calls) (S : Env) (e : IE) (st : Store) : R Bool := (ev P S e st).bind fun x st => .of (truD (see st x)) st
def tB' (T : Rd') (e : IE) : TT := fun σ H Q => ∃ F rs S st, EnvOk T.K F rs H T.H0 T.G S σ ∧ StOk T.K F rs H st ∧ Fin T.K relB F rs H (evT T.P S e st) Q fun c dx H' => T.W c dx σ H'
section
variable {X : Cx} {T : Rd'}
theorem PE.imp {e : Expr} {t t' : TE} (h : PE X e t) (hi : ∀ σ H Q, t' σ H Q → t σ H Q) : PE X e t' := ⟨fun pins s σ H Q I q => h.run pins s σ H Q I (hi σ H Q q)⟩
theorem PT.imp {e : Expr} {t t' : TT} (h : PT X e t) (hi : ∀ σ H Q, t' σ H Q → t σ H Q) : PT X e t' := ⟨fun pins s σ H Q I q => h.run pins s σ H Q I (hi σ H Q q)⟩
theorem PW.imp {e : Expr} {t t' : TT} (h : PW X e t) (hi : ∀ σ H Q, t' σ H Q → t σ H Q) : PW X e t' := ⟨fun wh pins s σ H Q I q => h.run wh pins s σ H Q I (hi σ H Q q)⟩
theorem PA.imp {es : List Expr} {t t' : TA} (h : PA X es t) (hi : ∀ σ H Q, t' σ H Q → t σ H Q) : PA X es t' := ⟨fun pos pins s σ H Q I q => h.run pos pins s σ H Q I (hi σ H Q q)⟩
theorem PS.imp {st : Stmt} {t t' : TS} (h : PS X st t) (hi : ∀ D σ H, t' D σ H → t D σ H) : PS X st t' := ⟨fun pins s σ H D I q => h.run pins s σ H D I (hi D σ H q)⟩
theorem PSs.imp {st : List Stmt} {t t' : TS} (h : PSs X st t) (hi : ∀ D σ H, t' D σ H → t D σ H) : PSs X st t' := ⟨fun pins s σ H D I q => h.run pins s σ H D I (hi D σ H q)⟩
theorem pe_know {e : Expr} {i : IE} (h : PE X e (tE T (relF T.K) i)) : PE X e (tE T (relK T.K) i) := PE.imp h fun σ H Q ⟨F, rs, S, st, a, b, c⟩ => ⟨F, rs, S, st, a, b, c.known⟩
theorem pe_peek {e : Expr} {i : IE} (h : PE X e (tE T (relK T.K) i)) : PE X e (tE T (relP T.K) i) := PE.imp h fun σ H Q ⟨F, rs, S, st, a, b, c⟩ => ⟨F, rs, S, st, a, b, c.peek⟩

/-! ### the rules by form -/
theorem lx_var {i : Nat} {x : Str} {pos : Pos} (hN : X.N[i]? = some x) (hv : Vis X.env.scope x) (hd : (x == ("__debug__" : Str)) = false) (hcd : (x == ("__classdict__" : Str)) = false) (g : T.G.getD i false = false) : PE X (.Name x pos) (tE T (relK T.K) (.var i)) := by
  refine PE.imp (pe_var hN hv hd hcd) fun σ H Q ⟨F, rs, S, st, a, b, c⟩ => ?_
  rw [ev] at c
  cases q : S[i]? with
  | none => rw [q] at c; exact c.elim
  | some o =>
    cases o with
    | none => rw [q] at c; exact c.elim
    | some d =>
      rw [q] at c
      obtain ⟨v, hv, i⟩ := a.is q g
      exact ⟨v, hv, c.val b i⟩
theorem lx_varP {i : Nat} {x : Str} {pos : Pos} (hN : X.N[i]? = some x) (hv : Vis X.env.scope x) (hd : (x == ("__debug__" : Str)) = false) (hcd : (x == ("__classdict__" : Str)) = false) : PE X (.Name x pos) (tE T (relP T.K) (.var i)) := by
  refine PE.imp (pe_var hN hv hd hcd) fun σ H Q ⟨F, rs, S, st, a, b, c⟩ => ?_
  rw [ev] at c
  cases q : S[i]? with
  | none => rw [q] at c; exact c.elim
  | some o =>
    cases o with
    | none => rw [q] at c; exact c.elim
    | some d =>
      rw [q] at c
      obtain ⟨v, hv, i⟩ := a.pk q
      exact ⟨v, hv, c.val b i⟩
/-- a flat value -/
theorem lx_con {e : Expr} {v : V} {d : D} (h : PE X e (tC v)) (hd : ∀ F rs, Is T.K F rs d v) : PE X e (tE T (relK T.K) (.con d)) :=
  PE.imp h fun σ H Q ⟨F, rs, S, st, a, b, c⟩ => by
    rw [ev] at c
    exact c.val b (hd F rs)
variable {a b c : Expr} {pos : Pos} {ia ib ic : IE}
theorem lx_bin (hK : T.K.K = X.K) {op : Operator} (ha : PE X a (tE T (relP T.K) ia)) (hb : PE X b (tE T (relP T.K) ib)) : PE X (.BinOp a op b pos) (tE T (relF T.K) (.bin op ia ib)) := by
  refine PE.imp (pe_op (op_binD hK op) ha hb) fun σ H Q ⟨F, rs, S, st, ea, sa, fa⟩ => ?_
  rw [ev] at fa
  refine ⟨F, rs, S, st, ea, sa, fa.bind Up.f fun x st1 v F1 rs1 H1 s1 S1 q1 f1 => ?_⟩
  refine ⟨F1, rs1, S, st1, ea.step s1, S1, f1.bind Up.f fun y st2 u F2 rs2 H2 s2 S2 q2 f2 => ?_⟩
  obtain ⟨z, hz, f2⟩ := f2.of
  exact ⟨F2, rs2, st2, _, _, z, S2, Pk.see S2 (q1.step s2), Pk.see S2 q2, hz, f2.gives⟩
theorem lx_cmp (hK : T.K.K = X.K) (hu : X.A.units + 65 < cLine) {op : CmpOp} (hm : behindInMarks op b = false) (ha : PE X a (tE T (relP T.K) ia)) (hb : PE X b (tE T (relP T.K) ib)) : PE X (.Compare a [op] [b] pos) (tE T (relF T.K) (.cmp op ia ib)) := by
  refine PE.imp (pe_cmpR (op_cmpT hK hu op) ha hb hm) fun σ H Q ⟨F, rs, S, st, ea, sa, fa⟩ => ?_
  rw [ev] at fa
  refine ⟨F, rs, S, st, ea, sa, fa.bind Up.f fun x st1 v F1 rs1 H1 s1 S1 q1 f1 => ?_⟩
  refine ⟨F1, rs1, S, st1, ea.step s1, S1, f1.bind Up.f fun y st2 u F2 rs2 H2 s2 S2 q2 f2 => ?_⟩
  obtain ⟨z, hz, f2⟩ := f2.of
  rw [Option.map_eq_some_iff] at hz
  obtain ⟨k, hk, rfl⟩ := hz
  exact ⟨F2, rs2, st2, _, _, k, S2, Pk.see S2 (q1.step s2), Pk.see S2 q2, hk, f2.val S2 (.inl ⟨rfl, rfl⟩)⟩
theorem lx_idx (hK : T.K.K = X.K) (hu : X.A.units + 1 < cLine) (hs : PlainIx b) (ha : PE X a (tE T (relP T.K) ia)) (hb : PE X b (tE T (relP T.K) ib)) : PE X (.Subscript a b pos) (tE T (relK T.K) (.idx ia ib)) := by
  refine PE.imp (pe_ix (ix_all hK hu) ha hb hs) fun σ H Q ⟨F, rs, S, st, ea, sa, fa⟩ => ?_
  rw [ev] at fa
  refine ⟨F, rs, S, st, ea, sa, fa.bind Up.k fun x st1 v F1 rs1 H1 s1 S1 q1 f1 => ?_⟩
  refine ⟨F1, rs1, S, st1, ea.step s1, S1, f1.bind Up.k fun y st2 u F2 rs2 H2 s2 S2 q2 f2 => ?_⟩
  obtain ⟨z, hz, f2⟩ := f2.of
  exact ⟨F2, rs2, st2, _, _, z, S2, Pk.see S2 (q1.step s2), Pk.see S2 q2, hz, fun v i => f2.val S2 i⟩
end
end DI

set_option Elab.async false
set_option linter.all false
set_option maxRecDepth 100000
set_option maxHeartbeats 4000000
namespace DI
open PySem PySem.Spec PyProof.Rows L2
section
variable {X : Cx} {T : Rd'} {a b c : Expr} {pos : Pos} {ia ib ic : IE}
theorem lx_neg (ha : PE X a (tE T (relP T.K) ia)) : PE X (.UnaryOp .USub a pos) (tE T (relF T.K) (.neg ia)) := by
  refine PE.imp (pe_un un_neg ha) fun σ H Q ⟨F, rs, S, st, ea, sa, fa⟩ => ?_
  rw [ev] at fa
  refine ⟨F, rs, S, st, ea, sa, fa.bind Up.f fun x st1 v F1 rs1 H1 s1 S1 q1 f1 => ?_⟩
  cases x with
  | int i =>
    rcases q1 with q1 | ⟨p, _, o, _, _, _, q⟩
    · cases q1
      exact ⟨i, rfl, f1.val S1 (.inl ⟨rfl, rfl⟩)⟩
    · exact q.elim
  | _ => exact f1.elim
theorem lx_not (hK : T.K.K = X.K) (ha : PE X a (tE T (relP T.K) ia)) : PE X (.UnaryOp .Not a pos) (tE T (relF T.K) (.not ia)) := by
  refine PE.imp (pe_notT ha) fun σ H Q ⟨F, rs, S, st, ea, sa, fa⟩ => ?_
  rw [ev] at fa
  refine ⟨F, rs, S, st, ea, sa, fa.bind Up.f fun x st1 v F1 rs1 H1 s1 S1 q1 f1 => ?_⟩
  obtain ⟨z, hz, f1⟩ := f1.of
  rw [Option.map_eq_some_iff] at hz
  obtain ⟨k, hk, rfl⟩ := hz
  exact ⟨k, by rw [← hK]; exact tru_of S1.sm (Pk.see S1 q1) hk, f1.val S1 (.inl ⟨rfl, rfl⟩)⟩
theorem lx_chn (hK : T.K.K = X.K) (hu : X.A.units + 65 < cLine) {op op' : CmpOp} (hm : lastMarks [op, op'] [b, c] = false) (ha : PE X a (tE T (relP T.K) ia)) (hb : PE X b (tE T (relP T.K) ib)) (hc : PE X c (tE T (relP T.K) ic)) :
    PE X (.Compare a [op, op'] [b, c] pos) (tE T (relF T.K) (.chn op op' ia ib ic)) := by
  refine PE.imp (pe_chain (op_cmpT hK hu op) (op_cmpT hK hu op') ha hb hc hm) fun σ H Q ⟨F, rs, S, st, ea, sa, fa⟩ => ?_
  rw [ev] at fa
  refine ⟨F, rs, S, st, ea, sa, fa.bind Up.f fun x st1 v F1 rs1 H1 s1 S1 q1 f1 => ?_⟩
  refine ⟨F1, rs1, S, st1, ea.step s1, S1, f1.bind Up.f fun y st2 u F2 rs2 H2 s2 S2 q2 f2 => ?_⟩
  cases hz : cmpD op (see st2 x) (see st2 y) with
  | none => rw [hz] at f2; exact f2.elim
  | some k =>
    rw [hz] at f2
    refine ⟨F2, rs2, st2, _, _, k, S2, Pk.see S2 (q1.step s2), Pk.see S2 q2, hz, k, rfl, ?_⟩
    cases k with
    | false =>
      rw [if_neg Bool.false_ne_true]
      exact f2.val S2 (.inl ⟨rfl, rfl⟩)
    | true =>
      rw [if_pos rfl]
      refine ⟨F2, rs2, S, st2, (ea.step s1).step s2, S2, f2.bind Up.f fun z st3 w F3 rs3 H3 s3 S3 q3 f3 => ?_⟩
      obtain ⟨o, ho, f3⟩ := f3.of
      rw [Option.map_eq_some_iff] at ho
      obtain ⟨k', hk', rfl⟩ := ho
      exact ⟨F3, rs3, st3, _, _, k', S3, Pk.see S3 (q2.step s3), Pk.see S3 q3, hk', f3.val S3 (.inl ⟨rfl, rfl⟩)⟩
/-- and, or as values: r what is asked of a value -/
theorem lx_and (hK : T.K.K = X.K) {r : Rl D V} (u : Up r) (hr : ∀ Hs F rs H d v, r Hs F rs H d v → Pk T.K F rs H d v) {rest : List Expr} (ha : PE X a (tE T r ia)) (hb : PE X (.BoolOp .And (b :: rest) pos) (tE T r ib)) :
    PE X (.BoolOp .And (a :: b :: rest) pos) (tE T r (.and ia ib)) := by
  refine PE.imp (pe_andT ha hb) fun σ H Q ⟨F, rs, S, st, ea, sa, fa⟩ => ?_
  rw [ev] at fa
  refine ⟨F, rs, S, st, ea, sa, ?_⟩
  cases hx : ev T.P S ia st with
  | no => rw [hx] at fa; exact fa.elim
  | err e st1 => rw [hx] at fa; exact fa
  | ok x st1 =>
    rw [hx] at fa
    intro v F1 rs1 H1 s1 S1 q1
    change Fin T.K r F rs H (match truD (see st1 x) with | some true => ev T.P S ib st1 | some false => .ok x st1 | none => .no) Q _ at fa
    cases hk : truD (see st1 x) with
    | none => rw [hk] at fa; exact fa.elim
    | some k =>
      rw [hk] at fa
      refine ⟨k, by rw [← hK]; exact tru_of S1.sm (Pk.see S1 (hr _ _ _ _ _ _ q1)) hk, ?_⟩
      cases k with
      | true => rw [if_pos rfl]; exact ⟨F1, rs1, S, st1, ea.step s1, S1, fa.step u s1⟩
      | false => rw [if_neg Bool.false_ne_true]; exact fa v F1 rs1 H1 s1 S1 q1
theorem lx_or (hK : T.K.K = X.K) {r : Rl D V} (u : Up r) (hr : ∀ Hs F rs H d v, r Hs F rs H d v → Pk T.K F rs H d v) {rest : List Expr} (ha : PE X a (tE T r ia)) (hb : PE X (.BoolOp .Or (b :: rest) pos) (tE T r ib)) :
    PE X (.BoolOp .Or (a :: b :: rest) pos) (tE T r (.or ia ib)) := by
  refine PE.imp (pe_orT ha hb) fun σ H Q ⟨F, rs, S, st, ea, sa, fa⟩ => ?_
  rw [ev] at fa
  refine ⟨F, rs, S, st, ea, sa, ?_⟩
  cases hx : ev T.P S ia st with
  | no => rw [hx] at fa; exact fa.elim
  | err e st1 => rw [hx] at fa; exact fa
  | ok x st1 =>
    rw [hx] at fa
    intro v F1 rs1 H1 s1 S1 q1
    change Fin T.K r F rs H (match truD (see st1 x) with | some true => .ok x st1 | some false => ev T.P S ib st1 | none => .no) Q _ at fa
    cases hk : truD (see st1 x) with
    | none => rw [hk] at fa; exact fa.elim
    | some k =>
      rw [hk] at fa
      refine ⟨k, by rw [← hK]; exact tru_of S1.sm (Pk.see S1 (hr _ _ _ _ _ _ q1)) hk, ?_⟩
      cases k with
      | false => rw [if_neg Bool.false_ne_true]; exact ⟨F1, rs1, S, st1, ea.step s1, S1, fa.step u s1⟩
      | true => rw [if_pos rfl]; exact fa v F1 rs1 H1 s1 S1 q1
theorem lx_ite {r : Rl D V} (u : Up r) (hc : PT X c (tB' T ic)) (ha : PE X a (tE T r ia)) (hb : PE X b (tE T r ib)) : PE X (.IfExp c a b pos) (tE T r (.ite ic ia ib)) := by
  refine PE.imp (pe_ifExp hc ha hb) fun σ H Q ⟨F, rs, S, st, ea, sa, fa⟩ => ?_
  rw [ev] at fa
  refine ⟨F, rs, S, st, ea, sa, ?_⟩
  unfold evT
  cases hx : ev T.P S ic st with
  | no => rw [hx] at fa; exact fa.elim
  | err e st1 => rw [hx] at fa; exact fa
  | ok x st1 =>
    rw [hx] at fa
    change Fin T.K r F rs H (match truD (see st1 x) with | some true => ev T.P S ia st1 | some false => ev T.P S ib st1 | none => .no) Q _ at fa
    change Fin T.K relB F rs H (R.of (truD (see st1 x)) st1) _ _
    cases hk : truD (see st1 x) with
    | none => rw [hk] at fa; exact fa.elim
    | some k =>
      rw [hk] at fa
      intro k' F1 rs1 H1 s1 S1 q1
      have q1 : k = k' := q1
      subst q1
      cases k with
      | true => rw [if_pos rfl]; exact ⟨F1, rs1, S, st1, ea.step s1, S1, fa.step u s1⟩
      | false => rw [if_neg Bool.false_ne_true]; exact ⟨F1, rs1, S, st1, ea.step s1, S1, fa.step u s1⟩

/-! ### tests -/
theorem lt_val (hK : T.K.K = X.K) (ha : PE X a (tE T (relP T.K) ia)) (he : ∀ whole, isTrue a X.env whole = (do let v ← whole; standAt a.pos; holding [v] (truthy v))) : PT X a (tB' T ia) := by
  refine PT.imp (pt_truth ha he) fun σ H Q ⟨F, rs, S, st, ea, sa, fa⟩ => ?_
  refine ⟨F, rs, S, st, ea, sa, Fin.bind Up.b fa fun x st1 v F1 rs1 H1 s1 S1 q1 f1 => ?_⟩
  obtain ⟨k, hk, f1⟩ := f1.of
  exact ⟨k, by rw [← hK]; exact tru_of S1.sm (Pk.see S1 q1) hk, f1.val S1 rfl⟩
theorem lt_cmp (hK : T.K.K = X.K) (hu : X.A.units + 65 < cLine) {op : CmpOp} (hm : behindInMarks op b = false) (ha : PE X a (tE T (relP T.K) ia)) (hb : PE X b (tE T (relP T.K) ib)) : PT X (.Compare a [op] [b] pos) (tB' T (.cmp op ia ib)) := by
  refine PT.imp (pt_cmpR (op_cmpT hK hu op) ha hb hm) fun σ H Q ⟨F, rs, S, st, ea, sa, fa⟩ => ?_
  unfold evT at fa
  rw [ev] at fa
  refine ⟨F, rs, S, st, ea, sa, ?_⟩
  have fa' : Fin T.K relB F rs H ((ev T.P S ia st).bind fun x st => (ev T.P S ib st).bind fun y st => R.of (cmpD op (see st x) (see st y)) st) Q fun c dx H' => T.W c dx σ H' := by
    have e : (((ev T.P S ia st).bind fun x st => (ev T.P S ib st).bind fun y st => R.of ((cmpD op (see st x) (see st y)).map D.bl) st).bind fun x st => R.of (truD (see st x)) st) =
        ((ev T.P S ia st).bind fun x st => (ev T.P S ib st).bind fun y st => R.of (cmpD op (see st x) (see st y)) st) := by
      cases ev T.P S ia st with
      | ok x st1 =>
        show ((ev T.P S ib st1).bind _).bind _ = (ev T.P S ib st1).bind _
        cases ev T.P S ib st1 with
        | ok y st2 =>
          show (R.of ((cmpD op (see st2 x) (see st2 y)).map D.bl) st2).bind _ = R.of (cmpD op (see st2 x) (see st2 y)) st2
          cases cmpD op (see st2 x) (see st2 y) <;> rfl
        | err _ _ => rfl
        | no => rfl
      | err _ _ => rfl
      | no => rfl
    rw [e] at fa
    exact fa
  refine Fin.bind Up.b fa' fun x st1 v F1 rs1 H1 s1 S1 q1 f1 => ?_
  refine ⟨F1, rs1, S, st1, ea.step s1, S1, Fin.bind Up.b f1 fun y st2 u F2 rs2 H2 s2 S2 q2 f2 => ?_⟩
  obtain ⟨k, hk, f2⟩ := f2.of
  exact ⟨F2, rs2, st2, _, _, k, S2, Pk.see S2 (q1.step s2), Pk.see S2 q2, hk, k, rfl, f2.val S2 rfl⟩
theorem lt_chn (hK : T.K.K = X.K) (hu : X.A.units + 65 < cLine) {op op' : CmpOp} (hm : lastMarks [op, op'] [b, c] = false) (ha : PE X a (tE T (relP T.K) ia)) (hb : PE X b (tE T (relP T.K) ib)) (hc : PE X c (tE T (relP T.K) ic)) :
    PT X (.Compare a [op, op'] [b, c] pos) (tB' T (.chn op op' ia ib ic)) := by
  refine PT.imp (pt_chain (op_cmpT hK hu op) (op_cmpT hK hu op') ha hb hc hm) fun σ H Q ⟨F, rs, S, st, ea, sa, fa⟩ => ?_
  unfold evT at fa
  rw [ev] at fa
  have e : (((ev T.P S ia st).bind fun x st => (ev T.P S ib st).bind fun y st => match cmpD op (see st x) (see st y) with
      | some true => (ev T.P S ic st).bind fun z st => R.of ((cmpD op' (see st y) (see st z)).map D.bl) st
      | some false => R.ok (D.bl false) st
      | none => .no).bind fun x st => R.of (truD (see st x)) st) =
      ((ev T.P S ia st).bind fun x st => (ev T.P S ib st).bind fun y st => match cmpD op (see st x) (see st y) with
      | some true => (ev T.P S ic st).bind fun z st => R.of (cmpD op' (see st y) (see st z)) st
      | some false => R.ok false st
      | none => .no) := by
    cases ev T.P S ia st with
    | ok x st1 =>
      show ((ev T.P S ib st1).bind _).bind _ = (ev T.P S ib st1).bind _
      cases ev T.P S ib st1 with
      | ok y st2 =>
        simp only [R.bind]
        cases cmpD op (see st2 x) (see st2 y) with
        | none => rfl
        | some k =>
          cases k with
          | false => rfl
          | true =>
            show ((ev T.P S ic st2).bind _).bind _ = (ev T.P S ic st2).bind _
            cases ev T.P S ic st2 with
            | ok z st3 =>
              show (R.of ((cmpD op' (see st3 y) (see st3 z)).map D.bl) st3).bind _ = R.of (cmpD op' (see st3 y) (see st3 z)) st3
              cases cmpD op' (see st3 y) (see st3 z) <;> rfl
            | err _ _ => rfl
            | no => rfl
      | err _ _ => rfl
      | no => rfl
    | err _ _ => rfl
    | no => rfl
  replace fa := (congrArg (fun z => Fin T.K relB F rs H z Q (fun c dx H' => T.W c dx σ H')) e).mp fa
  refine ⟨F, rs, S, st, ea, sa, Fin.bind Up.b fa fun x st1 v F1 rs1 H1 s1 S1 q1 f1 => ?_⟩
  refine ⟨F1, rs1, S, st1, ea.step s1, S1, Fin.bind Up.b f1 fun y st2 u F2 rs2 H2 s2 S2 q2 f2 => ?_⟩
  cases hz : cmpD op (see st2 x) (see st2 y) with
  | none => rw [hz] at f2; exact f2.elim
  | some k =>
    rw [hz] at f2
    refine ⟨F2, rs2, st2, _, _, k, S2, Pk.see S2 (q1.step s2), Pk.see S2 q2, hz, k, rfl, ?_⟩
    cases k with
    | false =>
      rw [if_neg Bool.false_ne_true]
      exact ⟨false, rfl, f2.val S2 rfl⟩
    | true =>
      rw [if_pos rfl]
      refine ⟨F2, rs2, S, st2, (ea.step s1).step s2, S2, Fin.bind Up.b f2 fun z st3 w F3 rs3 H3 s3 S3 q3 f3 => ?_⟩
      obtain ⟨k', hk', f3⟩ := f3.of
      exact ⟨F3, rs3, st3, _, _, k', S3, Pk.see S3 (q2.step s3), Pk.see S3 q3, hk', k', rfl, f3.val S3 rfl⟩
theorem lt_not (ha : PT X a (tB' T ia)) : PT X (.UnaryOp .Not a pos) (tB' T (.not ia)) := by
  refine PT.imp (pt_not ha) fun σ H Q ⟨F, rs, S, st, ea, sa, fa⟩ => ?_
  refine ⟨F, rs, S, st, ea, sa, ?_⟩
  unfold evT at fa ⊢
  rw [ev] at fa
  cases hx : ev T.P S ia st with
  | no => rw [hx] at fa; exact fa.elim
  | err e st1 => rw [hx] at fa; exact fa
  | ok x st1 =>
    rw [hx] at fa
    change Fin T.K relB F rs H ((R.of ((truD (see st1 x)).map fun b => D.bl (!b)) st1).bind fun x st => R.of (truD (see st x)) st) Q _ at fa
    change Fin T.K relB F rs H (R.of (truD (see st1 x)) st1) _ _
    cases hk : truD (see st1 x) with
    | none => rw [hk] at fa; exact fa.elim
    | some k =>
      rw [hk] at fa
      intro k' F1 rs1 H1 s1 S1 q1
      have q1 : k = k' := q1
      subst q1
      exact fa (!k) F1 rs1 H1 s1 S1 rfl
theorem lw_and1 {r : List Expr} (ha : PT X a (tB' T ia)) : PW X (.BoolOp .And [a] pos) (tB' T ia) := pw_and1 ha
theorem evT_and (P : Calls) (S : Env) (a b : IE) (st : Store) : evT P S (.and a b) st = (evT P S a st).bind fun k st => if k = true then evT P S b st else .ok false st := by
  unfold evT
  rw [ev]
  cases ev P S a st with
  | ok x st1 =>
    simp only [R.bind]
    cases hk : truD (see st1 x) with
    | none => rfl
    | some k =>
      cases k with
      | true => rfl
      | false =>
        simp only [R.of]
        rw [hk]
        rfl
  | err _ _ => rfl
  | no => rfl
theorem evT_or (P : Calls) (S : Env) (a b : IE) (st : Store) : evT P S (.or a b) st = (evT P S a st).bind fun k st => if k = true then .ok true st else evT P S b st := by
  unfold evT
  rw [ev]
  cases ev P S a st with
  | ok x st1 =>
    simp only [R.bind]
    cases hk : truD (see st1 x) with
    | none => rfl
    | some k =>
      cases k with
      | false => rfl
      | true =>
        simp only [R.of]
        rw [hk]
        rfl
  | err _ _ => rfl
  | no => rfl
theorem lw_and {rest : List Expr} (ha : PT X a (tB' T ia)) (hb : PW X (.BoolOp .And (b :: rest) pos) (tB' T ib)) : PW X (.BoolOp .And (a :: b :: rest) pos) (tB' T (.and ia ib)) := by
  refine PW.imp (pw_and ha hb) fun σ H Q ⟨F, rs, S, st, ea, sa, fa⟩ => ?_
  rw [evT_and] at fa
  refine ⟨F, rs, S, st, ea, sa, Fin.bind Up.b fa fun x st1 v F1 rs1 H1 s1 S1 q1 f1 => ?_⟩
  have q1 : x = v := q1
  subst q1
  cases x with
  | true =>
    rw [if_pos rfl] at f1 ⊢
    exact ⟨F1, rs1, S, st1, ea.step s1, S1, f1⟩
  | false =>
    rw [if_neg Bool.false_ne_true] at f1 ⊢
    exact f1.val S1 rfl
theorem lw_or {rest : List Expr} (ha : PT X a (tB' T ia)) (hb : PW X (.BoolOp .Or (b :: rest) pos) (tB' T ib)) : PW X (.BoolOp .Or (a :: b :: rest) pos) (tB' T (.or ia ib)) := by
  refine PW.imp (pw_or ha hb) fun σ H Q ⟨F, rs, S, st, ea, sa, fa⟩ => ?_
  rw [evT_or] at fa
  refine ⟨F, rs, S, st, ea, sa, Fin.bind Up.b fa fun x st1 v F1 rs1 H1 s1 S1 q1 f1 => ?_⟩
  have q1 : x = v := q1
  subst q1
  cases x with
  | true =>
    rw [if_pos rfl] at f1 ⊢
    exact f1.val S1 rfl
  | false =>
    rw [if_neg Bool.false_ne_true] at f1 ⊢
    exact ⟨F1, rs1, S, st1, ea.step s1, S1, f1⟩

/-! ### lists of arguments, displays -/
variable {es : List Expr} {ies : IEs}
theorem la_nil {r : Rl (List D) (List V)} (h : ∀ Hs F rs H, r Hs F rs H [] []) : PA X [] (tL T r .nil) :=
  PA.imp pa_nil fun σ H Q ⟨F, rs, S, st, ea, sa, fa⟩ => by
    rw [evs] at fa
    exact fa.val sa (h _ _ _ _)
theorem la_cons (hs : starEach (a :: es) X.env = (false, eval a X.env) :: starEach es X.env) (ha : PE X a (tE T (relK T.K) ia)) (hr : PA X es (tL T (relL T.K) ies)) : PA X (a :: es) (tL T (relL T.K) (.cons ia ies)) := by
  refine PA.imp (pa_cons ha hr hs) fun σ H Q ⟨F, rs, S, st, ea, sa, fa⟩ => ?_
  rw [evs] at fa
  refine ⟨F, rs, S, st, ea, sa, fa.bind Up.l fun x st1 v F1 rs1 H1 s1 S1 q1 f1 => ?_⟩
  refine ⟨F1, rs1, S, st1, ea.step s1, S1, f1.bind Up.l fun y st2 u F2 rs2 H2 s2 S2 q2 f2 => ?_⟩
  exact f2.val S2 ⟨v, u, rfl, Is.mono s2.sF s2.pre _ _ q1, q2⟩
theorem Pks.step {K : Kg} {F F' H H' : Hp} {rs rs' : List Addr} (s : Step F rs H F' rs' H') : ∀ {ds : List D} {vs : List V}, Pks K F rs H ds vs → Pks K F' rs' H' ds vs
  | [], _, h => h
  | _ :: _, _, ⟨v, r, e, h, t⟩ => ⟨v, r, e, h.step s, Pks.step s t⟩
theorem la_consP (hs : starEach (a :: es) X.env = (false, eval a X.env) :: starEach es X.env) (ha : PE X a (tE T (relP T.K) ia)) (hr : PA X es (tL T (relPs T.K) ies)) : PA X (a :: es) (tL T (relPs T.K) (.cons ia ies)) := by
  refine PA.imp (pa_cons ha hr hs) fun σ H Q ⟨F, rs, S, st, ea, sa, fa⟩ => ?_
  rw [evs] at fa
  refine ⟨F, rs, S, st, ea, sa, fa.bind Up.ps fun x st1 v F1 rs1 H1 s1 S1 q1 f1 => ?_⟩
  refine ⟨F1, rs1, S, st1, ea.step s1, S1, f1.bind Up.ps fun y st2 u F2 rs2 H2 s2 S2 q2 f2 => ?_⟩
  exact f2.val S2 ⟨v, u, rfl, Pk.step q1 s2, q2⟩
theorem lx_tup {k : Nat} (h : PA X es (tL T (relL T.K) ies)) : PE X (.Tuple es k pos) (tE T (relF T.K) (.tup ies)) := by
  refine PE.imp (pe_tup h) fun σ H Q ⟨F, rs, S, st, ea, sa, fa⟩ => ?_
  rw [ev] at fa
  refine ⟨F, rs, S, st, ea, sa, fa.bind Up.f fun l st1 vs F1 rs1 H1 s1 S1 q1 f1 => ?_⟩
  by_cases hl : l.length ≤ 16777216
  · rw [if_pos hl] at f1
    exact ⟨by rw [← Iss.length q1, line_eq]; exact hl, f1.gives.tup S1 q1⟩
  · rw [if_neg hl] at f1
    exact f1.elim
theorem lx_lst (h : PA X es (tL T (relL T.K) ies)) : PE X (.List es pos) (tE T (relF T.K) (.lst ies)) := by
  refine PE.imp (pe_lst h) fun σ H Q ⟨F, rs, S, st, ea, sa, fa⟩ => ?_
  rw [ev] at fa
  refine ⟨F, rs, S, st, ea, sa, fa.bind Up.f fun l st1 vs F1 rs1 H1 s1 S1 q1 f1 => ?_⟩
  by_cases hl : l.length ≤ 16777216
  · rw [if_pos hl] at f1
    exact ⟨by rw [← Iss.length q1, line_eq]; exact hl, f1.gives.lst S1 q1⟩
  · rw [if_neg hl] at f1
    exact f1.elim
theorem lx_dnew {tk : Bool} : PE X (.Dict [] [] pos) (tE T (relF T.K) (.dnw tk)) := by
  cases tk with
  | false =>
    refine PE.imp pe_dnewK fun σ H Q ⟨F, rs, S, st, ea, sa, fa⟩ => ?_
    rw [ev] at fa
    exact fa.gives.box sa ⟨[], by unfold DcOk; rw [if_neg Bool.false_ne_true]; exact ⟨[], rfl, rfl, rfl⟩, rfl⟩
  | true =>
    refine PE.imp pe_dnewT fun σ H Q ⟨F, rs, S, st, ea, sa, fa⟩ => ?_
    rw [ev] at fa
    exact fa.gives.box sa ⟨[], by unfold DcOk; rw [if_pos rfl]; exact ⟨[], rfl, rfl, rfl⟩, rfl⟩
end
end DI

set_option Elab.async false
set_option linter.all false
set_option maxRecDepth 100000
set_option maxHeartbeats 4000000
namespace DI
open PySem PySem.Spec PyProof.Rows L2
/-! ### what a loop walks -/
/-- J gives l's items, one a turn, whatever is done to the heap between the turns -/
def Walk (K : Kg) (l : List D) (F1 : Hp) (rs1 : List Addr) (H1 : Hp) (J : It) : Prop :=
  ∀ F rs H st, Same F1 F → Pre rs1 rs → StOk K F rs H st → ∀ i : Nat,
    (∀ d, l[i]? = some d → J.go i H ∧ ∀ x H', J.yld i H x H' → ∃ F', Step F rs H F' rs H' ∧ StOk K F' rs H' st ∧ Is K F' rs d x) ∧ (l.length ≤ i → J.stop i H)
def relW (K : Kg) : Rl (List D) It := fun _ F rs H l J => Walk K l F rs H J
theorem Up.w {K : Kg} : Up (relW K) := ⟨fun _ _ _ _ _ _ _ _ h => h⟩
section
variable {K : Kg} {F1 H1 : Hp} {rs1 : List Addr} {K' : PySem.W.Frag} {a b : Addr} {vs ws : List V} {l m : List D}
theorem walk_lst (r : SqL K' F1 a vs) (q : Iss K F1 rs1 l vs) : Walk K l F1 rs1 H1 (Itl K' a) := by
  intro F rs H st sF sp S i
  have hR : SqL K' H a vs := S.sm.seqL (sF.seqL r)
  refine ⟨fun d hd => ?_, fun hl => ⟨vs, hR, by rw [← q.length]; exact hl⟩⟩
  obtain ⟨v, hv, iv⟩ := q.get hd
  refine ⟨⟨vs, v, hR, hv⟩, fun x H' ⟨e, y⟩ => ?_⟩
  have y := y vs hR
  rw [hv] at y
  cases y
  subst e
  exact ⟨F, Step.refl, S, iv.mono sF sp _ _⟩
theorem walk_tup (r : F1 a = some (.tup vs)) (q : Iss K F1 rs1 l vs) : Walk K l F1 rs1 H1 (Itt K' a) := by
  intro F rs H st sF sp S i
  have hR : SqT K' H a vs := SqT.of (S.sm _ _ (sF _ _ r))
  refine ⟨fun d hd => ?_, fun hl => ⟨vs, hR, by rw [← q.length]; exact hl⟩⟩
  obtain ⟨v, hv, iv⟩ := q.get hd
  refine ⟨⟨vs, v, hR, hv⟩, fun x H' ⟨e, y⟩ => ?_⟩
  have y := y vs hR
  rw [hv] at y
  cases y
  subst e
  exact ⟨F, Step.refl, S, iv.mono sF sp _ _⟩
theorem walk_rng {lo hi : Int} : Walk K (rangeD lo hi) F1 rs1 H1 (Itr lo (hi - lo).toNat) := by
  intro F rs H st sF sp S i
  have hl : (rangeD lo hi).length = (hi - lo).toNat := by simp [rangeD]
  refine ⟨fun d hd => ?_, fun h => by rw [hl] at h; exact h⟩
  have hi' : i < (hi - lo).toNat := by rw [← hl]; exact (List.getElem?_eq_some_iff.mp hd).1
  refine ⟨hi', fun x H' ⟨e, y⟩ => ?_⟩
  subst e
  refine ⟨F, Step.refl, S, ?_⟩
  have hd' : (rangeD lo hi)[i]? = some (.int (lo + (i : Int))) := by
    unfold rangeD
    rw [List.getElem?_map, List.getElem?_range hi']
    rfl
  rw [hd'] at hd
  cases hd
  exact y
/-- the items with their numbers -/
def enumD (l : List D) : List D := (List.range l.length).zipWith (fun (i : Nat) d => D.tup [.int i, d]) l
theorem enumD_len (l : List D) : (enumD l).length = l.length := by simp [enumD]
theorem enumD_get {l : List D} {i : Nat} {d : D} (h : (enumD l)[i]? = some d) : ∃ e, l[i]? = some e ∧ d = .tup [.int i, e] := by
  have hl : i < l.length := by rw [← enumD_len]; exact (List.getElem?_eq_some_iff.mp h).1
  unfold enumD at h
  rw [List.getElem?_zipWith, List.getElem?_range hl, List.getElem?_eq_getElem hl] at h
  simp at h
  exact ⟨_, List.getElem?_eq_getElem hl, h.symm⟩
/-- a new tuple comes to stand -/
theorem tup_new {F H : Hp} {rs : List Addr} {st : Store} {T : Addr} {xs : List V} {ds : List D} (S : StOk K F rs H st) (hT : H T = none) (q : Iss K F rs ds xs) :
    ∃ F', Step F rs H F' rs (upd H T (.tup xs)) ∧ StOk K F' rs (upd H T (.tup xs)) st ∧ Is K F' rs (.tup ds) (.ref T) := by
  have hF := S.freeF hT
  have st' : Step F rs H (upd F T (.tup xs)) rs (upd H T (.tup xs)) := Step.new hT hF
  exact ⟨_, st', S.new hT, T, xs, rfl, upd_same, q.mono st'.sF (Pre.refl _) _ _⟩
theorem walk_enumL (r : SqL K' F1 a vs) (q : Iss K F1 rs1 l vs) : Walk K (enumD l) F1 rs1 H1 (Ite K' a) := by
  intro F rs H st sF sp S i
  have hR : SqL K' H a vs := S.sm.seqL (sF.seqL r)
  refine ⟨fun d hd => ?_, fun hl => ⟨vs, hR, by rw [← q.length, ← enumD_len]; exact hl⟩⟩
  obtain ⟨e, he, rfl⟩ := enumD_get hd
  obtain ⟨v, hv, iv⟩ := q.get he
  refine ⟨⟨vs, v, hR, hv⟩, fun x H' ⟨T, y, e1, e2, e3, e4⟩ => ?_⟩
  have e4 := e4 vs hR
  rw [hv] at e4
  cases e4
  subst e1 e3
  exact tup_new S e2 ⟨_, _, rfl, rfl, _, _, rfl, iv.mono sF sp _ _, rfl⟩
/-- a tuple's items with their numbers -/
def ItE (K : PySem.W.Frag) (a : Addr) : It :=
  ⟨fun i H => ∃ (xs : List V) (x : V), SqT K H a xs ∧ xs[i]? = some x,
    fun i H v H' => ∃ T x, v = .ref T ∧ H T = none ∧ H' = upd H T (.tup [.int (i : Nat), x]) ∧ ∀ xs, SqT K H a xs → xs[i]? = some x,
    fun i H => ∃ xs : List V, SqT K H a xs ∧ xs.length ≤ i⟩
theorem walk_enumT (r : F1 a = some (.tup vs)) (q : Iss K F1 rs1 l vs) : Walk K (enumD l) F1 rs1 H1 (ItE K' a) := by
  intro F rs H st sF sp S i
  have hR : SqT K' H a vs := SqT.of (S.sm _ _ (sF _ _ r))
  refine ⟨fun d hd => ?_, fun hl => ⟨vs, hR, by rw [← q.length, ← enumD_len]; exact hl⟩⟩
  obtain ⟨e, he, rfl⟩ := enumD_get hd
  obtain ⟨v, hv, iv⟩ := q.get he
  refine ⟨⟨vs, v, hR, hv⟩, fun x H' ⟨T, y, e1, e2, e3, e4⟩ => ?_⟩
  have e4 := e4 vs hR
  rw [hv] at e4
  cases e4
  subst e1 e3
  exact tup_new S e2 ⟨_, _, rfl, rfl, _, _, rfl, iv.mono sF sp _ _, rfl⟩
def zipD (l m : List D) : List D := l.zipWith (fun c d => D.tup [c, d]) m
theorem zipD_get {l m : List D} {i : Nat} {d : D} (h : (zipD l m)[i]? = some d) : ∃ c e, l[i]? = some c ∧ m[i]? = some e ∧ d = .tup [c, e] := by
  unfold zipD at h
  rw [List.getElem?_zipWith] at h
  cases h1 : l[i]? with
  | none => rw [h1] at h; simp at h
  | some c =>
    cases h2 : m[i]? with
    | none => rw [h1, h2] at h; simp at h
    | some e =>
      rw [h1, h2] at h
      simp at h
      exact ⟨c, e, rfl, rfl, h.symm⟩
theorem walk_zipL (r : Rd F1 a (.lst vs)) (q : Iss K F1 rs1 l vs) (r2 : Rd F1 b (.lst ws)) (q2 : Iss K F1 rs1 m ws) : Walk K (zipD l m) F1 rs1 H1 (Itz K' a b) := by
  intro F rs H st sF sp S i
  have hR : SqL K' H a vs := .inl (S.sm.rd (sF.rd r))
  have hR2 : SqL K' H b ws := .inl (S.sm.rd (sF.rd r2))
  refine ⟨fun d hd => ?_, fun hl => ⟨vs, ws, hR, hR2, ?_⟩⟩
  · obtain ⟨c, e, hc, he, rfl⟩ := zipD_get hd
    obtain ⟨v, hv, iv⟩ := q.get hc
    obtain ⟨u, hu, iu⟩ := q2.get he
    refine ⟨⟨vs, ws, v, u, hR, hR2, hv, hu⟩, fun x H' ⟨T, y, z, e1, e2, e3, e4, e5⟩ => ?_⟩
    have e4 := e4 vs hR
    have e5 := e5 ws hR2
    rw [hv] at e4
    rw [hu] at e5
    cases e4
    cases e5
    subst e1 e3
    exact tup_new S e2 ⟨_, _, rfl, iv.mono sF sp _ _, _, _, rfl, iu.mono sF sp _ _, rfl⟩
  · rw [zipD, List.length_zipWith] at hl
    rw [← q.length, ← q2.length]
    omega
theorem walk_zipT (r : F1 a = some (.tup vs)) (q : Iss K F1 rs1 l vs) (r2 : F1 b = some (.tup ws)) (q2 : Iss K F1 rs1 m ws) : Walk K (zipD l m) F1 rs1 H1 (RZ.ItzT K' a b) := by
  intro F rs H st sF sp S i
  have hR : SqT K' H a vs := SqT.of (S.sm _ _ (sF _ _ r))
  have hR2 : SqT K' H b ws := SqT.of (S.sm _ _ (sF _ _ r2))
  refine ⟨fun d hd => ?_, fun hl => ⟨vs, ws, hR, hR2, ?_⟩⟩
  · obtain ⟨c, e, hc, he, rfl⟩ := zipD_get hd
    obtain ⟨v, hv, iv⟩ := q.get hc
    obtain ⟨u, hu, iu⟩ := q2.get he
    refine ⟨⟨vs, ws, v, u, hR, hR2, hv, hu⟩, fun x H' ⟨T, y, z, e1, e2, e3, e4, e5⟩ => ?_⟩
    have e4 := e4 vs hR
    have e5 := e5 ws hR2
    rw [hv] at e4
    rw [hu] at e5
    cases e4
    cases e5
    subst e1 e3
    exact tup_new S e2 ⟨_, _, rfl, iv.mono sF sp _ _, _, _, rfl, iu.mono sF sp _ _, rfl⟩
  · rw [zipD, List.length_zipWith] at hl
    rw [← q.length, ← q2.length]
    omega
end
/-! ### enumerate over a tuple -/
section
variable {prog : Program} {w : World} {A : Around} {E : Value → Shared → Prop} {s : Shared}
theorem meets_enumT (t : Addr) (items : Array Value) :
    Meets (Builtin.«enumerate.__new__» ⟨[.type "enumerate", .ref t], []⟩) (fun _ R s => s.heap.IsTuple t items ∧
      R (.ok (.ret (.ref (s.heap.push { cls := .type "tuple_iterator", data := .fields #[.ref t, .int 0 0] }).objs.size)))
        { s with heap := (s.heap.push { cls := .type "tuple_iterator", data := .fields #[.ref t, .int 0 0] }).push { cls := .type "enumerate", data := .fields #[.none, .bool false, .ref s.heap.objs.size, rawInt 0, .none, .none] } }) :=
  .of_wp fun prog w A R s h => by
    obtain ⟨hp, g, d, tk, os⟩ := s
    obtain ⟨h1, h⟩ := h
    have hsub := sub_enumerate
    have q1 : ∀ {A' : Around} {E : Value → Shared → Prop} {Q : Value → Shared → Prop}, Q (.ref hp.objs.size) ⟨hp.push { cls := .type "tuple_iterator", data := .fields #[.ref t, .int 0 0] }, g, d, tk, os⟩ → wpAny (model prog w) A' (pyIter (.ref t)) Q E ⟨hp, g, d, tk, os⟩ :=
      fun q => (begins_tuple t items).iter prog w _ _ ⟨hp, g, d, tk, os⟩ _ h1 q
    wp_walk using q1
    refine wpAny_stack_any fun st => wpAny_pure ?_
    split
    · rename_i c _ _ _ _ _
      cases (c == Value.type "enumerate")
      · wp_walk using q1
        exact ⟨_, rfl, h⟩
      · wp_walk using q1
        exact ⟨_, rfl, h⟩
    · wp_walk using q1
      exact ⟨_, rfl, h⟩
theorem call_enumT {t : Addr} {items : Array Value} {Q : Value → Shared → Prop} (hL : s.heap.IsTuple t items)
    (h : ∀ h', IsEnum h' (s.heap.objs.size + 1) s.heap.objs.size 0 .none → h'.IsTupleIter s.heap.objs.size t 0 → h'.objs.size = s.heap.objs.size + 2 →
      (∀ b o, s.heap.get? b = some o → h'.get? b = some o) → Q (.ref (s.heap.objs.size + 1)) { s with heap := h' }) :
    wpAny (model prog w) A (call (.type "enumerate") [.ref t]) Q E s := by
  refine callType_new F.called_enumerate (by decide) (F.typeCall_enumerate_1 _) (F.newCall_enumerate_1 _) (fun obj => F.args_object_init_2 obj _) F.entry_enumerate_new (meets_enumT t items) ⟨hL, ?_⟩
  generalize hP : s.heap.push { cls := .type "tuple_iterator", data := .fields #[.ref t, .int 0 0] } = P
  have hz : P.objs.size = s.heap.objs.size + 1 := by rw [← hP]; exact Heap.size_push ..
  have h0 : P.get? s.heap.objs.size = some { cls := .type "tuple_iterator", data := .fields #[.ref t, .int 0 0] } := by rw [← hP]; exact Heap.get?_push_size _ rfl
  have hk : ∀ b o, s.heap.get? b = some o → P.get? b = some o := fun b o x => by rw [← hP]; exact Heap.get?_push_of_some _ x
  show _ ∧ _
  have he : IsEnum (P.push { cls := .type "enumerate", data := .fields #[.none, .bool false, .ref s.heap.objs.size, rawInt 0, .none, .none] }) (s.heap.objs.size + 1) s.heap.objs.size 0 .none := by
    have z := Heap.get?_push_size P (o := { cls := .type "enumerate", data := .fields #[.none, .bool false, .ref s.heap.objs.size, rawInt 0, .none, .none] }) rfl
    rw [hz] at z
    exact z
  rw [hz]
  exact ⟨⟨_, he, rfl⟩, h _ he ⟨_, Heap.get?_push_of_some _ h0, rfl, rfl⟩ (by rw [Heap.size_push, hz]) fun b o x => Heap.get?_push_of_some _ (hk b o x)⟩
end
end DI

set_option Elab.async false
set_option linter.all false
set_option maxRecDepth 100000
set_option maxHeartbeats 4000000
namespace DI
open PySem PySem.Spec PyProof.Rows L2
theorem turn_enumT {P : Program} {w : World} {K : PySem.W.Frag} {elts : List Expr} {kk : Nat} {tpos : Pos} (a e it : Addr) :
    Turn P w K (.Tuple elts kk tpos) (ItE K a) [e, it] e (fun i h => (∃ old, IsEnum h e it ((i : Nat) : Int) old) ∧ h.IsTupleIter it a i ∧ e ≠ it ∧ a ≠ it ∧ e ≠ a) where
  mem := by simp
  obj := fun i h ⟨⟨old, he⟩, ⟨o, ho, hc, hd⟩, _⟩ b hb => by
    rcases (show b = e ∨ b = it by simpa using hb) with z | z
    · rw [z]; exact ⟨_, he, fun v q => nomatch q⟩
    · rw [z]; exact ⟨o, ho, fun v q => by rw [hd] at q; cases q⟩
  keep := fun i h h' ⟨⟨old, he⟩, hi, hne⟩ k => ⟨⟨old, k e (by simp) _ he⟩, hi.at fun o q => k it (by simp) o q, hne⟩
  item := by
    intro X hP hw hK hc i pins s σ H E I hf st hg
    subst hP hw hK
    obtain ⟨⟨old, he⟩, hit, hne, hai, hea⟩ := st
    obtain ⟨xs, x, hq, hx⟩ := hg
    obtain ⟨its, rv, p, hz⟩ := I.tuple hq
    obtain ⟨u, hu, ru⟩ := rv.get hx
    have hel : e < s.heap.objs.size := Heap.lt_size he
    have hil : it < s.heap.objs.size := by obtain ⟨_, q, _⟩ := hit; exact Heap.lt_size q
    have hiz : i < its.toArray.size := by
      have z := (List.getElem?_eq_some_iff.mp hu).1
      simpa using z
    have hu' : its.toArray[i]? = some u := by simpa using hu
    have D := Draws.tuple (prog := X.prog) (w := X.w) (A := X.A.in1) (I.ok.hd hc) it a hai its.toArray
    refine wpAny_pyNext_enum_itemD D he ⟨hit, p⟩ hiz hne (by simp [hne, hea]) fun v h' tk hv ho hst hT hsz hk => ?_
    rw [hu'] at hv
    cases hv
    refine ⟨_, rfl, wpAny_letOwnedTupleGo_enum (s := { s with heap := h', toks := tk + 1 }) ho fun h2 he2 sb => ?_⟩
    have hT2 : h2.get? s.heap.objs.size = some { cls := .type "tuple", data := .seq #[.int i tk, u] } := (sb.2 _ (Nat.ne_of_gt hel)).trans hT
    have new : ObjOk X.prog X.w (upd H s.heap.objs.size (.tup [.int (i : Nat), x])) h2 s.heap.objs.size (.tup [.int (i : Nat), x]) :=
      ⟨by show 2 ≤ sizeLine; decide, [.int i tk, u], .cons ⟨_, rfl⟩ (.cons ru .nil), ⟨_, hT2, rfl, _, rfl⟩⟩
    have I1 : Inv X pins σ (upd H s.heap.objs.size (.tup [.int (i : Nat), x])) { s with heap := h2, toks := tk + 1 } :=
      I.turnedNew (ch := [e, it]) (fun b ob hb q => (sb.2 b (fun z => hb (by simp [z]))).trans (hk b ob (fun z => hb (by simp [z])) (fun z => hb (by simp [z])) q)) hf (Nat.le_refl _) new
    refine ⟨.ref s.heap.objs.size, _, I1, rfl, ⟨_, x, rfl, I.hok.fresh (Nat.le_refl _), rfl, fun ys hy => by rw [I.tuple_inj hy hq]; exact hx⟩, ⟨⟨u, ?_⟩, hst.1.at fun o q => (sb.2 it (Ne.symm hne)).trans q, hne, hai, hea⟩, fun b hb => ?_⟩
    · have e1 : ((i + 1 : Nat) : Int) = (i : Int) + 1 := by omega
      rw [e1]; exact he2
    · have hb' : b < s.heap.objs.size := by
        rcases (show b = e ∨ b = it by simpa using hb) with z | z
        · rw [z]; exact hel
        · rw [z]; exact hil
      rw [upd_ne (Nat.ne_of_lt hb')]
      exact (hf b hb).1
  done := by
    intro X hP hw hK hc i pins s σ H E I hf st hg
    subst hP hw hK
    obtain ⟨⟨old, he⟩, hit, hne, hai, hea⟩ := st
    obtain ⟨xs, hq, hx⟩ := hg
    obtain ⟨its, rv, p, hz⟩ := I.tuple hq
    obtain ⟨f0, f1, f2, f3, f4, f5⟩ := hf it (by simp)
    have hl := rv.length
    have hT : s.TypeIs (.ref e) "enumerate" := ⟨_, he, rfl⟩
    unfold pyNext
    refine wpAny_bind (wpAny_attempt (wpAny_callSpecial?_slot (name := Str.ofString "__next__") hT F.slot_enumerate_next (wpAny_call_entry F.slot_enumerate_next hT F.entry_enumerate_next ?_ (F.args_enumerate_next_1 _))))
    show wpAny _ _ (field (.ref e) 2 >>= _) _ _ _
    refine wpAny_bind (wpAny_field he rfl (x := .ref it) rfl ?_)
    refine wpAny_bind (wpAny_nextOf_tuple_end (A := X.A.in1) (I.ok.hd hc) hit p (by simp; omega) fun h' x he' hx' => ?_)
    obtain ⟨o, ho, hcl⟩ := hx'
    refine wpAny_bind (wpAny_isInstance (T := "StopIteration") (b := true) ⟨o, ho, hcl⟩ isSubtype_stop ?_)
    exact wpAny_pure ⟨rfl, I.turned (t' := s.toks) (fun b o hb q => he' b o hb q) f0 f1 f3 f4 f5⟩
  self := fun A i s Q E ⟨⟨_, he⟩, _⟩ h => wpAny_pyIter_enum he h
section
variable {X : Cx} {tg : Expr}
/-- a list or a tuple, walked -/
theorem pi_any {l : Expr} {tl : TE} (hl : PE X l tl) : PI X tg l (fun σ H R => tl σ H fun x H1 => ∃ a, x = .ref a ∧ ((∃ xs, SqL X.K H1 a xs ∧ R (Itl X.K a) H1) ∨ ∃ xs, SqT X.K H1 a xs ∧ R (Itt X.K a) H1)) := by
  refine ⟨fun pins s σ H R I h => thn (hl.run pins s σ H _ I h) fun v s1 ⟨x, H1, I1, r1, a, e, q⟩ => ?_⟩
  subst e
  cases r1
  rcases q with ⟨xs, hq, q⟩ | ⟨xs, hq, q⟩
  · obtain ⟨its, rv, p, hz⟩ := I1.list hq
    exact wpAny_pyIter_list p.isList (pi_one (tk := s1.toks) I1 _ (turn_list a _) ⟨_, Heap.get?_push_size _ rfl, rfl, rfl⟩ q)
  · obtain ⟨its, rv, p, hz⟩ := I1.tuple hq
    exact wpAny_pyIter_tuple (show s1.heap.IsTuple a its.toArray from p) (pi_one (tk := s1.toks) I1 _ (turn_tuple a _) ⟨_, Heap.get?_push_size _ rfl, rfl, rfl⟩ q)
/-- enumerate over a list or a tuple -/
theorem pi_enumA {e : Expr} {te : TE} {p pos tpos : Pos} {elts : List Expr} {kk : Nat} (hg : Gl X "enumerate") (hm : X.mg "enumerate" = none) (he : PE X e te) (hs : starEach [e] X.env = [(false, eval e X.env)]) :
    PI X (.Tuple elts kk tpos) (.Call (.Name "enumerate" p) [e] [] pos) (fun σ H R => te σ H fun x H1 => ∃ a, x = .ref a ∧ ((∃ xs, SqL X.K H1 a xs ∧ R (Ite X.K a) H1) ∨ ∃ xs, SqT X.K H1 a xs ∧ R (ItE X.K a) H1)) := by
  refine ⟨fun pins s σ H R I h => ?_⟩
  have ha : PA X [e] (tCons te tNil) := pa_cons he pa_nil hs
  refine Call_ (ld_blt I hg hm boot_enumerate (PyProof.Rows.callWith_type1 (thn (ha.run pos pins s σ H (fun vs H1 => ∃ a, vs = [.ref a] ∧ ((∃ xs, SqL X.K H1 a xs ∧ R (Ite X.K a) H1) ∨ ∃ xs, SqT X.K H1 a xs ∧ R (ItE X.K a) H1)) I ?_) fun us s1 ⟨vs, H1, I1, r1, a, ev, q⟩ => ?_) hs rfl))
  · show te σ H _
    refine Eq.mp ?_ h
    congr 1
    funext x H1
    apply propext
    constructor
    · rintro ⟨a, rfl, q⟩
      exact ⟨a, rfl, q⟩
    · rintro ⟨a, e, q⟩
      exact ⟨a, by simpa using e, q⟩
  · subst ev
    cases r1 with
    | cons r rr =>
      cases rr
      cases r
      rcases q with ⟨xs, hq, q⟩ | ⟨xs, hq, q⟩
      · obtain ⟨its, rv, p', hz⟩ := I1.list hq
        refine call_enumerate_list p'.isList fun h' he hit hsz hk => wpAny_pyIter_enum he ?_
        have I2 : Inv X pins σ H1 { s1 with heap := h' } := I1.kept (t' := s1.toks) hk
        refine ⟨s1.heap.objs.size + 1, [s1.heap.objs.size + 1, s1.heap.objs.size], _, _, H1, rfl, I2, turn_enum a (s1.heap.objs.size + 1) s1.heap.objs.size, ⟨⟨.none, he⟩, hit, Nat.succ_ne_self _⟩, fun b hb => ?_, q⟩
        have hle : s1.heap.objs.size ≤ b := by
          rcases (show b = s1.heap.objs.size + 1 ∨ b = s1.heap.objs.size by simpa using hb) with z | z
          · rw [z]; exact Nat.le_add_right _ _
          · rw [z]; exact Nat.le_refl _
        exact I1.fpOk hle (I1.hok.fresh hle)
      · obtain ⟨its, rv, p', hz⟩ := I1.tuple hq
        have hal : a < s1.heap.objs.size := by obtain ⟨o, ho, _⟩ := p'; exact Heap.lt_size ho
        refine call_enumT (show s1.heap.IsTuple a its.toArray from p') fun h' he hit hsz hk => wpAny_pyIter_enum he ?_
        have I2 : Inv X pins σ H1 { s1 with heap := h' } := I1.kept (t' := s1.toks) hk
        refine ⟨s1.heap.objs.size + 1, [s1.heap.objs.size + 1, s1.heap.objs.size], _, _, H1, rfl, I2, turn_enumT a (s1.heap.objs.size + 1) s1.heap.objs.size, ⟨⟨.none, he⟩, hit, Nat.succ_ne_self _, Nat.ne_of_lt hal, Ne.symm (Nat.ne_of_lt (Nat.lt_succ_of_lt hal))⟩, fun b hb => ?_, q⟩
        have hle : s1.heap.objs.size ≤ b := by
          rcases (show b = s1.heap.objs.size + 1 ∨ b = s1.heap.objs.size by simpa using hb) with z | z
          · rw [z]; exact Nat.le_add_right _ _
          · rw [z]; exact Nat.le_refl _
        exact I1.fpOk hle (I1.hok.fresh hle)
end
/-! ### by the tree -/
def tI (T : Rd') (it : II) : TI := fun σ H R => ∃ F rs S st, EnvOk T.K F rs H T.H0 T.G S σ ∧ StOk T.K F rs H st ∧ Fin T.K (relW T.K) F rs H (itm T.P S it st) R fun c dx H' => T.W c dx σ H'
section
variable {X : Cx} {T : Rd'} {tg a b : Expr} {pos p : Pos} {ia ib : IE}
theorem PI.imp {it : Expr} {t t' : TI} (h : PI X tg it t) (hi : ∀ σ H R, t' σ H R → t σ H R) : PI X tg it t' := ⟨fun pins s σ H R I q => h.run pins s σ H R I (hi σ H R q)⟩
theorem li_val (hK : T.K.K = X.K) (ha : PE X a (tE T (relK T.K) ia)) : PI X tg a (tI T (.val ia)) := by
  refine PI.imp (pi_any ha) fun σ H R ⟨F, rs, S, st, ea, sa, fa⟩ => ?_
  rw [itm] at fa
  refine ⟨F, rs, S, st, ea, sa, fa.bind Up.w fun x st1 v F1 rs1 H1 s1 S1 q1 f1 => ?_⟩
  cases x with
  | lst l =>
    obtain ⟨c, vs, rfl, r, q⟩ := id q1
    exact ⟨c, rfl, .inl ⟨vs, .inl (S1.sm.rd r), f1.val S1 (walk_lst (.inl r) q)⟩⟩
  | tup l =>
    obtain ⟨c, vs, rfl, r, q⟩ := id q1
    exact ⟨c, rfl, .inr ⟨vs, SqT.of (S1.sm _ _ r), f1.val S1 (walk_tup r q)⟩⟩
  | scr ns =>
    obtain ⟨c, rfl, r⟩ := id q1
    rw [hK] at r
    exact ⟨c, rfl, .inl ⟨_, S1.sm.seqL r, f1.val S1 (walk_lst r Iss.ints)⟩⟩
  | _ => exact f1.elim
theorem li_enm (hK : T.K.K = X.K) {elts : List Expr} {kk : Nat} {tpos : Pos} (hg : Gl X "enumerate") (hm : X.mg "enumerate" = none) (hs : starEach [a] X.env = [(false, eval a X.env)]) (ha : PE X a (tE T (relK T.K) ia)) :
    PI X (.Tuple elts kk tpos) (.Call (.Name "enumerate" p) [a] [] pos) (tI T (.enm ia)) := by
  refine PI.imp (pi_enumA hg hm ha hs) fun σ H R ⟨F, rs, S, st, ea, sa, fa⟩ => ?_
  rw [itm] at fa
  refine ⟨F, rs, S, st, ea, sa, fa.bind Up.w fun x st1 v F1 rs1 H1 s1 S1 q1 f1 => ?_⟩
  cases x with
  | lst l =>
    obtain ⟨c, vs, rfl, r, q⟩ := id q1
    exact ⟨c, rfl, .inl ⟨vs, .inl (S1.sm.rd r), f1.val S1 (walk_enumL (.inl r) q)⟩⟩
  | tup l =>
    obtain ⟨c, vs, rfl, r, q⟩ := id q1
    exact ⟨c, rfl, .inr ⟨vs, SqT.of (S1.sm _ _ r), f1.val S1 (walk_enumT r q)⟩⟩
  | scr ns =>
    obtain ⟨c, rfl, r⟩ := id q1
    rw [hK] at r
    exact ⟨c, rfl, .inl ⟨_, S1.sm.seqL r, f1.val S1 (walk_enumL r Iss.ints)⟩⟩
  | _ => exact f1.elim
theorem li_zip {elts : List Expr} {kk : Nat} {tpos : Pos} (hg : Gl X "zip") (hm : X.mg "zip" = none) (hs : starEach [a, b] X.env = (false, eval a X.env) :: starEach [b] X.env) (hs2 : starEach [b] X.env = (false, eval b X.env) :: starEach [] X.env) (hpl : (backTo pos (starEach [b] X.env)).any (·.1) = false)
    (ha : PE X a (tE T (relK T.K) ia)) (hb : PE X b (tE T (relK T.K) ib)) : PI X (.Tuple elts kk tpos) (.Call (.Name "zip" p) [a, b] [] pos) (tI T (.zip ia ib)) := by
  refine PI.imp (RZ.pi_zipA hg hm (pa_cons ha (pa_cons hb pa_nil hs2) hs) hs hpl) fun σ H R ⟨F, rs, S, st, ea, sa, fa⟩ => ?_
  rw [itm] at fa
  refine ⟨F, rs, S, st, ea, sa, fa.bind Up.w fun x st1 v F1 rs1 H1 s1 S1 q1 f1 => ?_⟩
  refine ⟨F1, rs1, S, st1, ea.step s1, S1, f1.bind Up.w fun y st2 u F2 rs2 H2 s2 S2 q2 f2 => ?_⟩
  have q1 := Is.mono s2.sF s2.pre _ _ q1
  cases x with
  | lst l =>
    cases y with
    | lst m =>
      obtain ⟨c, vs, rfl, r, q⟩ := id q1
      obtain ⟨d, ws, rfl, r', q'⟩ := id q2
      exact ⟨c, d, vs, ws, rfl, .inl ⟨.inl (S2.sm.rd r), .inl (S2.sm.rd r'), f2.val S2 (walk_zipL r q r' q')⟩⟩
    | _ => exact f2.elim
  | tup l =>
    cases y with
    | tup m =>
      obtain ⟨c, vs, rfl, r, q⟩ := id q1
      obtain ⟨d, ws, rfl, r', q'⟩ := id q2
      exact ⟨c, d, vs, ws, rfl, .inr ⟨SqT.of (S2.sm _ _ r), SqT.of (S2.sm _ _ r'), f2.val S2 (walk_zipT r q r' q')⟩⟩
    | _ => exact f2.elim
  | _ => exact f2.elim
theorem fin_bind_one {K : Kg} {A B : Type} {r : Rl A B} {F H : Hp} {rs : List Addr} {x : R D} {st : Store} {f : List D → Store → R A} {Q : B → Hp → Prop} {E : XK} (h : Fin K r F rs H ((x.bind fun d st => (R.ok [] st).bind fun l st => .ok (d :: l) st).bind f) Q E) :
    Fin K r F rs H (x.bind fun d st => f [d] st) Q E := by
  cases x with
  | ok a st => exact h
  | err e st => exact h
  | no => exact h
theorem fin_bind_two {K : Kg} {A B : Type} {r : Rl A B} {F H : Hp} {rs : List Addr} {x : R D} {y : Store → R D} {f : List D → Store → R A} {Q : B → Hp → Prop} {E : XK}
    (h : Fin K r F rs H ((x.bind fun d st => ((y st).bind fun d st => (R.ok [] st).bind fun l st => .ok (d :: l) st).bind fun l st => .ok (d :: l) st).bind f) Q E) :
    Fin K r F rs H (x.bind fun d st => (y st).bind fun e st => f [d, e] st) Q E := by
  cases x with
  | ok a st =>
    simp only [R.bind] at h ⊢
    cases hy : y st with
    | ok b st => rw [hy] at h; exact h
    | err e st => rw [hy] at h; exact h
    | no => rw [hy] at h; exact h
  | err e st => exact h
  | no => exact h
theorem li_rng1 (hg : Gl X "range") (hm : X.mg "range" = none) (hs : starEach [a] X.env = [(false, eval a X.env)]) (ha : PE X a (tE T (relP T.K) ia)) :
    PI X tg (.Call (.Name "range" p) [a] [] pos) (tI T (.rng (.cons ia .nil))) := by
  refine PI.imp (pi_range1 hg hm (pa_cons ha pa_nil hs) hs) fun σ H R ⟨F, rs, S, st, ea, sa, fa⟩ => ?_
  rw [itm] at fa
  unfold evs at fa
  unfold evs at fa
  replace fa := fin_bind_one (st := st) fa
  refine ⟨F, rs, S, st, ea, sa, fa.bind Up.w fun x st1 v F1 rs1 H1 s1 S1 q1 f1 => ?_⟩
  obtain ⟨l, hl, f1⟩ := f1.of
  cases x with
  | int j =>
    rcases q1 with q1 | ⟨_, _, _, _, _, _, q1⟩
    · cases q1
      simp only [rngD] at hl
      split at hl
      · rename_i g
        cases hl
        refine ⟨j, rfl, g.1, g.2, ?_⟩
        have z := f1.val S1 (walk_rng (K := T.K) (F1 := F1) (rs1 := rs1) (H1 := H1) (lo := 0) (hi := j))
        rw [Int.sub_zero] at z
        exact z
      · cases hl
    · exact q1.elim
  | _ => cases hl
theorem li_rng2 (hg : Gl X "range") (hm : X.mg "range" = none) (hs : starEach [a, b] X.env = (false, eval a X.env) :: starEach [b] X.env) (hs2 : starEach [b] X.env = [(false, eval b X.env)]) (ha : PE X a (tE T (relP T.K) ia)) (hb : PE X b (tE T (relP T.K) ib)) :
    PI X tg (.Call (.Name "range" p) [a, b] [] pos) (tI T (.rng (.cons ia (.cons ib .nil)))) := by
  refine PI.imp (pi_range2 hg hm (pa_cons ha (pa_cons hb pa_nil hs2) hs) (by rw [hs, hs2]) hs2) fun σ H R0 ⟨F, rs, S, st, ea, sa, fa⟩ => ?_
  rw [itm] at fa
  unfold evs at fa
  unfold evs at fa
  unfold evs at fa
  replace fa := fin_bind_two (y := fun st => ev T.P S ib st) fa
  refine ⟨F, rs, S, st, ea, sa, fa.bind Up.w fun x st1 v F1 rs1 H1 s1 S1 q1 f1 => ?_⟩
  refine ⟨F1, rs1, S, st1, ea.step s1, S1, f1.bind Up.w fun y st2 u F2 rs2 H2 s2 S2 q2 f2 => ?_⟩
  obtain ⟨l, hl, f2⟩ := f2.of
  cases x with
  | int i =>
    cases y with
    | int j =>
      rcases q1 with q1 | ⟨_, _, _, _, _, _, q1⟩
      · rcases q2 with q2 | ⟨_, _, _, _, _, _, q2⟩
        · cases q1
          cases q2
          simp only [rngD] at hl
          split at hl
          · rename_i g
            cases hl
            exact ⟨i, j, rfl, ⟨g.1.1, g.1.2, g.2.1, g.2.2⟩, f2.val S2 walk_rng⟩
          · cases hl
        · exact q2.elim
      · exact q1.elim
    | _ => cases hl
  | _ => cases hl
end
end DI

set_option Elab.async false
set_option linter.all false
set_option maxRecDepth 100000
set_option maxHeartbeats 4000000
/-! a tuple backwards: t[::-1] -/
namespace DI
open PySem PySem.Spec PyProof.Rows L2 HT
section
variable {prog : Program} {w : World} {A : Around} {E : Value → Shared → Prop} {s : Shared}
theorem adjust_rev (n : Nat) : Builtin.Slice.sliceAdjust none none (-1) (n : Int) = ((n : Int) - 1, -1) := by
  unfold Builtin.Slice.sliceAdjust
  simp
theorem places_rev (n : Nat) : Builtin.Slice.slicePlaces ((n : Int) - 1) (-1) (-1) = n := by
  unfold Builtin.Slice.slicePlaces
  have h1 : ¬ ((-1 : Int) > 0) := by omega
  have h2 : (-(-1) : Int) = 1 := rfl
  simp only [h1, if_false, h2, Int.ediv_one]
  split <;> omega
theorem fm_congr {α β : Type} {f g : α → Option β} : ∀ {l : List α}, (∀ x ∈ l, f x = g x) → l.filterMap f = l.filterMap g
  | [], _ => rfl
  | x :: l, h => by rw [List.filterMap_cons, List.filterMap_cons, h x List.mem_cons_self, fm_congr fun y hy => h y (List.mem_cons_of_mem _ hy)]
theorem sliceApplied_rev {sl : Addr} {vl vu vs : Value} {n : Nat} {Q : Int × Int × Nat → Shared → Prop} (hs : s.heap.IsSliceOf sl vl vu vs) (pl : IsPart vl none) (pu : IsPart vu none) (ps : IsPart vs (some (-1)))
    (h : Q ((n : Int) - 1, -1, n) s) : wpAny (model prog w) A (Builtin.Slice.sliceApplied (.ref sl) (pure (n : Int))) Q E s := by
  obtain ⟨os, hos, hcs, hds⟩ := id hs
  unfold Builtin.Slice.sliceApplied Builtin.Slice.sliceFields
  refine wpAny_bind (wpAny_bind (wpAny_field hos hds (x := vl) rfl (wpAny_bind (wpAny_field hos hds (x := vu) rfl (wpAny_bind (wpAny_field hos hds (x := vs) rfl (wpAny_pure ?_)))))))
  refine wpAny_bind (slicePart_ ps ?_)
  show wpAny _ _ (if ((-1 : Int) == 0) = true then _ else _) _ _ s
  rw [if_neg (by decide)]
  refine wpAny_bind (slicePart_ pl (wpAny_bind (slicePart_ pu (wpAny_bind (wpAny_pure ?_)))))
  show wpAny _ _ (match Builtin.Slice.sliceAdjust none none (-1) (n : Int) with | (lo, hi) => pure (lo, (-1 : Int), Builtin.Slice.slicePlaces lo hi (-1))) _ _ s
  rw [adjust_rev]
  show wpAny _ _ (pure ((n : Int) - 1, (-1 : Int), Builtin.Slice.slicePlaces ((n : Int) - 1) (-1) (-1))) _ _ s
  rw [places_rev]
  exact wpAny_pure h
theorem pick_rev (xs : Array Value) : ((List.range xs.size).filterMap fun (m : Nat) => xs[(((xs.size : Int) - 1) + (m : Int) * (-1)).toNat]?).toArray = xs.toList.reverse.toArray := by
  congr 1
  have w : ∀ l : List Value, (List.range l.length).filterMap (fun (m : Nat) => l[(((l.length : Int) - 1) + (m : Int) * (-1)).toNat]?) = l.reverse := by
    intro l
    have e : (List.range l.length).filterMap (fun (m : Nat) => l[(((l.length : Int) - 1) + (m : Int) * (-1)).toNat]?) = (List.range l.length).filterMap fun m => l.reverse[m]? := by
      refine fm_congr fun m hm => ?_
      have hm := List.mem_range.mp hm
      rw [List.getElem?_reverse (by omega)]
      congr 1
      omega
    rw [e]
    have q : ∀ (k : List Value), (List.range k.length).filterMap (fun m => k[m]?) = k := fun k => by
      induction k with
      | nil => rfl
      | cons x k ih =>
        rw [List.length_cons, List.range_succ_eq_map, List.filterMap_cons, List.filterMap_map]
        exact congrArg (x :: ·) ih
    have := q l.reverse
    rw [List.length_reverse] at this
    exact this
  have := w xs.toList
  rw [Array.length_toList] at this
  rw [← this]
  refine fm_congr fun m _ => ?_
  rw [Array.getElem?_toList]
theorem getItem_tuple_rev {t sl : Addr} {items : Array Value} {vl vu vs : Value} {Q : Value → Shared → Prop} (ht : IsTup s.heap t items) (hs : s.heap.IsSliceOf sl vl vu vs) (pl : IsPart vl none) (pu : IsPart vu none) (ps : IsPart vs (some (-1)))
    (h : Q (.ref s.heap.objs.size) { s with heap := s.heap.push { cls := .type "tuple", data := .seq items.toList.reverse.toArray } })
    (hsz : items.size ≤ sizeLine) : wpAny (model prog w) A (getItem (.ref t) (.ref sl)) Q E s := by
  have htake : sizeOk (.seq items.toList.reverse.toArray) := by
    show items.toList.reverse.toArray.size ≤ sizeLine
    rw [List.size_toArray, List.length_reverse, Array.length_toList]
    exact hsz
  obtain ⟨os, hos, hcs, hds⟩ := id hs
  have hTs : s.TypeIs (.ref sl) "slice" := ⟨os, hos, hcs⟩
  unfold getItem
  try with_reducible refine wpAny_holding ?_
  first | refine wpAny_bind (wpAny_pure ?_) | skip
  refine wpAny_bind (wpAny_sequenceKey ht.typeIs (by decide) ?_)
  refine wpAny_bind (wpAny_callSpecial?_slot (name := Str.ofString "__getitem__") ht.typeIs PyProof.Rows.slot_tuple_getitem
    (wpAny_call_entry PyProof.Rows.slot_tuple_getitem ht.typeIs entry_tuple_getitem ?_ (args_tuple_getitem _ _)))
  show wpAny _ _ (Builtin.Tuple.tupleItemsOf (.ref t) >>= _) _ _ s
  refine wpAny_bind (tupleItemsOf_ ht ?_)
  refine wpAny_bind (wpAny_typeOf hTs ?_)
  rw [if_pos (by decide)]
  refine wpAny_bind (sliceApplied_rev hs pl pu ps ?_)
  have hno : ¬ ((((items.size : Int) - 1) == 0 && (-1 : Int) == 1 && items.size == items.size) = true) := by
    intro q
    rw [Bool.and_eq_true, Bool.and_eq_true] at q
    have q1 : (-1 : Int) = 1 := eq_of_beq q.1.2
    omega
  show wpAny _ _ (if (((items.size : Int) - 1) == 0 && (-1 : Int) == 1 && items.size == items.size) = true then _ else _) _ _ s
  rw [if_neg hno, pick_rev]
  first
    | exact wpAny_bind (m := Builtin.Tuple.tupleExact _) (wpAny_newObj_type (wpAny_pure ⟨_, rfl, wpAny_pure h⟩) htake)
    | exact wpAny_bind (m := Builtin.Tuple.tupleExact _) (wpAny_newObj_type (wpAny_bind (wpAny_pure (wpAny_pure ⟨_, rfl, wpAny_pure h⟩))) htake)
    | exact wpAny_bind (wpAny_bind (m := Builtin.Tuple.tupleExact _) (wpAny_newObj_type (wpAny_pure (wpAny_pure ⟨_, rfl, wpAny_pure h⟩)) htake))
    | exact wpAny_bind (wpAny_bind (m := Builtin.Tuple.tupleExact _) (wpAny_newObj_type (wpAny_pure ⟨_, rfl, wpAny_pure h⟩) htake))
end
section
variable {X : Cx}
def tRevT (K : PySem.W.Frag) (te : TE) : TE := fun σ H Q => te σ H fun x H1 => ∃ a xs, x = .ref a ∧ SqT K H1 a xs ∧ ∀ p, H1 p = none → Q (.ref p) (upd H1 p (.tup xs.reverse))
theorem pe_revT {e : Expr} {te : TE} {k : Nat} {p1 p2 p3 pos : Pos} (he : PE X e te) : PE X (.Subscript e (.Slice none none (some (.UnaryOp .USub (.Constant (.int 1) k p1) p2)) p3) pos) (tRevT X.K te) := by
  refine ⟨fun pins s σ H Q I h => ?_⟩
  refine Subscript_ (thn (he.run pins s σ H _ I h) fun v s1 ⟨x, H1, I1, r1, q1⟩ => ?_)
  obtain ⟨a, xs, ex, hx, q⟩ := q1
  subst ex
  cases r1
  have hst : PO X (some (.UnaryOp .USub (.Constant (.int 1) k p1) p2)) (tPart (tUn (rU fun i => .int (-i)) (tC (.int 1)))) := po_some (pe_un un_neg pe_int)
  refine wpAny_Slice (thn (po_none.run pins s1 σ H1 (fun o H2 => o = none ∧ H2 = H1) I1 ⟨rfl, rfl⟩) fun vl s2 ⟨l, H2, I2, pl, el, e2⟩ => ?_)
  subst el e2
  refine thn (po_none.run pins s2 σ H2 (fun o H3 => o = none ∧ H3 = H2) I2 ⟨rfl, rfl⟩) fun vu s3 ⟨u, H3, I3, pu, eu, e3⟩ => ?_
  subst eu e3
  refine thn (hst.run pins s3 σ H3 (fun o H4 => o = some (-1) ∧ H4 = H3) I3 ⟨1, rfl, -1, rfl, rfl, rfl⟩) fun vs s4 ⟨o, H4, I4, ps, eo, e4⟩ => ?_
  subst eo e4
  have I5 : L2.Inv X pins σ H4 { s4 with heap := s4.heap.push { cls := .type "slice", data := .fields #[vl, vu, vs] } } := I4.kept (t' := s4.toks) fun b ob q => Heap.get?_push_of_some _ q
  obtain ⟨its, r, ht, hz⟩ := I5.tuple hx
  show wpAny (model X.prog X.w) X.A (subscriptTail e (.Slice none none (some (.UnaryOp .USub (.Constant (.int 1) k p1) p2)) p3) (.ref a) (.ref s4.heap.objs.size)) (EP X pins σ Q) X.xe { s4 with heap := s4.heap.push { cls := .type "slice", data := .fields #[vl, vu, vs] } }
  have hlen := r.length
  refine tail_any (ops := [.ref a, .ref s4.heap.objs.size]) ht.typeIs (PyProof.Rows.slot_tuple_getitem.lookup) ?_ (by with_unfolding_all rfl)
  refine getItem_tuple_rev ht (Heap.IsSliceOf.new _ vl vu vs) pl pu ps ?_ (by rw [List.size_toArray]; omega)
  refine ⟨.ref _, _, I5.laid (t' := s4.toks) (o := .tup xs.reverse) (fun b ob q => Heap.get?_push_of_some _ q) (Nat.le_refl _) ?_, rfl, q _ (I5.hok.fresh (Nat.le_refl _))⟩
  exact ⟨by rw [List.length_reverse]; exact hz, _, r.reverse, IsTup.new _ _⟩
end
end DI

set_option Elab.async false
set_option linter.all false
set_option maxRecDepth 100000
set_option maxHeartbeats 4000000
namespace DI
open PySem PySem.Spec PyProof.Rows L2
/-! ### slices -/
def relO : Rl (Option Int) (Option Int) := fun _ _ _ _ a b => a = b
theorem Up.o : Up relO := ⟨fun _ _ _ _ _ _ _ _ h => h⟩
def evO (P : Calls) (S : Env) (e : IE) (st : Store) : R (Option Int) := if isGap e then R.ok none st else (ev P S e st).bind intR
def tO (T : Rd') (e : IE) : TO := fun σ H Q => ∃ F rs S st, EnvOk T.K F rs H T.H0 T.G S σ ∧ StOk T.K F rs H st ∧ Fin T.K relO F rs H (evO T.P S e st) Q fun c dx H' => T.W c dx σ H'
section
variable {X : Cx} {T : Rd'} {a b c : Expr} {pos p p2 : Pos} {ia ib ic : IE}
theorem PO.imp {e : Option Expr} {t t' : TO} (h : PO X e t) (hi : ∀ σ H Q, t' σ H Q → t σ H Q) : PO X e t' := ⟨fun pins s σ H Q I q => h.run pins s σ H Q I (hi σ H Q q)⟩
theorem lo_none : PO X none (tO T .gap) := PO.imp po_none fun σ H Q ⟨F, rs, S, st, ea, sa, fa⟩ => fa.val sa rfl
theorem lo_some (hg : isGap ia = false) (ha : PE X a (tE T (relP T.K) ia)) : PO X (some a) (tO T ia) := by
  refine PO.imp (po_some ha) fun σ H Q ⟨F, rs, S, st, ea, sa, fa⟩ => ?_
  unfold evO at fa
  rw [hg, if_neg Bool.false_ne_true] at fa
  refine ⟨F, rs, S, st, ea, sa, fa.bind Up.o fun x st1 v F1 rs1 H1 s1 S1 q1 f1 => ?_⟩
  cases x with
  | int i =>
    rcases q1 with q1 | ⟨_, _, _, _, _, _, q⟩
    · cases q1
      exact ⟨i, rfl, f1.val S1 rfl⟩
    · exact q.elim
  | _ => exact f1.elim
theorem lx_slc (hK : T.K.K = X.K) {lo hi : Option Expr} {il ih : IE} (ha : PE X a (tE T (relP T.K) ia)) (hl : PO X lo (tO T il)) (hh : PO X hi (tO T ih)) : PE X (.Subscript a (.Slice lo hi none p2) pos) (tE T (relF T.K) (.slc ia il ih)) := by
  refine PE.imp (pe_slice (sl_all hK) ha hl hh) fun σ H Q ⟨F, rs, S, st, ea, sa, fa⟩ => ?_
  rw [ev] at fa
  refine ⟨F, rs, S, st, ea, sa, fa.bind Up.f fun x st1 v F1 rs1 H1 s1 S1 q1 f1 => ?_⟩
  refine ⟨F1, rs1, S, st1, ea.step s1, S1, Fin.bind Up.f f1 fun y st2 u F2 rs2 H2 s2 S2 q2 f2 => ?_⟩
  refine ⟨F2, rs2, S, st2, (ea.step s1).step s2, S2, Fin.bind Up.f f2 fun z st3 w F3 rs3 H3 s3 S3 q3 f3 => ?_⟩
  obtain ⟨o, ho, f3⟩ := f3.of
  have e1 : y = u := q2
  have e2 : z = w := q3
  subst e1 e2
  exact ⟨F3, rs3, st3, _, o, S3, Pk.see S3 ((q1.step s2).step s3), ho, f3.gives⟩
theorem lx_rev (ha : PE X a (tE T (relP T.K) ia)) {k : Nat} {p1 p3 p4 : Pos} : PE X (.Subscript a (.Slice none none (some (.UnaryOp .USub (.Constant (.int 1) k p1) p3)) p4) pos) (tE T (relF T.K) (.rev ia)) := by
  refine ⟨fun pins s σ H Q I ⟨F, rs, S, st, ea, sa, fa⟩ => ?_⟩
  rw [ev] at fa
  cases hx : ev T.P S ia st with
  | err e st1 => rw [hx] at fa; exact (pe_revL ha).run pins s σ H Q I ⟨F, rs, S, st, ea, sa, by rw [hx]; exact fa⟩
  | no => rw [hx] at fa; exact fa.elim
  | ok x st1 =>
    rw [hx] at fa
    have fa : Fin T.K (relF T.K) F rs H (match see st1 x with
      | .lst l => R.ok (.lst l.reverse) st1
      | .tup l => .ok (.tup l.reverse) st1
      | _ => .no) Q fun c dx H' => T.W c dx σ H' := fa
    cases hz : see st1 x with
    | lst l =>
      rw [hz] at fa
      refine (pe_revL ha).run pins s σ H Q I ⟨F, rs, S, st, ea, sa, ?_⟩
      rw [hx]
      intro v F1 rs1 H1 s1 S1 q1
      have z := Pk.see S1 q1
      rw [hz] at z
      obtain ⟨a, vs, rfl, r, q⟩ := z
      exact ⟨a, vs, rfl, .inl r, (Fin.step Up.f fa s1).gives.lst S1 q.reverse⟩
    | tup l =>
      rw [hz] at fa
      refine (pe_revT ha).run pins s σ H Q I ⟨F, rs, S, st, ea, sa, ?_⟩
      rw [hx]
      intro v F1 rs1 H1 s1 S1 q1
      have z := Pk.see S1 q1
      rw [hz] at z
      obtain ⟨a, vs, rfl, r, q⟩ := z
      exact ⟨a, vs, rfl, SqT.of (S1.sm _ _ r), (Fin.step Up.f fa s1).gives.tup S1 q.reverse⟩
    | _ => rw [hz] at fa; exact fa.elim
/-! ### built-in functions -/
def Bi.nm : Bi → Str
  | .len => "len" | .list => "list" | .tuple => "tuple" | .sum => "sum" | .all => "all" | .any => "any" | .min => "min" | .max => "max" | .sorted => "sorted" | .repr => "repr" | .abs => "abs" | .isi => "isinstance"
  | .listRg => "list" | .tupRg => "tuple" | .lenSet => "len"
theorem vws_of {K : Kg} {F H : Hp} {rs : List Addr} {st : Store} (S : StOk K F rs H st) : ∀ {ds : List D} {vs : List V}, Pks K F rs H ds vs → Vws K F rs H (ds.map (see st)) vs
  | [], _, h => h
  | _ :: _, _, ⟨v, r, e, h, t⟩ => ⟨v, r, e, Pk.see S h, vws_of S t⟩
theorem lx_bltI {es : List Expr} {ies : IEs} {bi : Bi} (h : PE X c (tCB (rBi T.K (bltD bi)) (tL T (relPs T.K) ies))) : PE X c (tE T (relF T.K) (.blt bi ies)) := by
  refine PE.imp h fun σ H Q ⟨F, rs, S, st, ea, sa, fa⟩ => ?_
  rw [ev] at fa
  refine ⟨F, rs, S, st, ea, sa, fa.bind Up.f fun x st1 v F1 rs1 H1 s1 S1 q1 f1 => ?_⟩
  obtain ⟨z, hz, f1⟩ := f1.of
  exact ⟨F1, rs1, st1, _, z, S1, vws_of S1 q1, hz, f1.gives⟩
theorem lx_blt (hK : T.K.K = X.K) (hc : X.calm = true) (hgd : X.A.guards = some []) (hu : X.A.units + 65 < cLine) {bi : Bi} (h1 : bi ≠ .listRg) (h2 : bi ≠ .tupRg) (h3 : bi ≠ .lenSet) {es : List Expr} {ies : IEs} (hg : Gl X bi.nm) (hm : X.mg bi.nm = none)
    (he : starEach (a :: es) X.env = (false, eval a X.env) :: starEach es X.env) (hpl : (backTo pos (starEach es X.env)).any (·.1) = false) (ha : PA X (a :: es) (tL T (relPs T.K) ies)) :
    PE X (.Call (.Name bi.nm p) (a :: es) [] pos) (tE T (relF T.K) (.blt bi ies)) := by
  refine lx_bltI (es := es) ?_
  have z := call_blt hK hc hgd hu bi h1 h2 h3
  cases bi with
  | len => exact pe_callB z hg hm PySem.boot_len ha (by decide) (by decide) he hpl
  | list => exact pe_callTy z hg hm PyProof.Rows.boot_list ha (by decide) (by decide) he hpl
  | tuple => exact pe_callTy z hg hm PyProof.Rows.boot_tuple ha (by decide) (by decide) he hpl
  | sum => exact pe_callB z hg hm (by decide +kernel) ha (by decide) (by decide) he hpl
  | all => exact pe_callB z hg hm (by decide +kernel) ha (by decide) (by decide) he hpl
  | any => exact pe_callB z hg hm (by decide +kernel) ha (by decide) (by decide) he hpl
  | min => exact pe_callB z hg hm (by decide +kernel) ha (by decide) (by decide) he hpl
  | max => exact pe_callB z hg hm (by decide +kernel) ha (by decide) (by decide) he hpl
  | sorted => exact pe_callB z hg hm (by decide +kernel) ha (by decide) (by decide) he hpl
  | repr => exact pe_callB z hg hm (by decide +kernel) ha (by decide) (by decide) he hpl
  | abs => exact pe_callB z hg hm (by decide +kernel) ha (by decide) (by decide) he hpl
  | isi => exact pe_callB z hg hm (by decide +kernel) ha (by decide) (by decide) he hpl
  | listRg => exact absurd rfl h1
  | tupRg => exact absurd rfl h2
  | lenSet => exact absurd rfl h3
end
end DI

set_option Elab.async false
set_option linter.all false
set_option maxRecDepth 100000
set_option maxHeartbeats 4000000
namespace DI
open PySem PySem.Spec PyProof.Rows L2
section
variable {X : Cx} {T : Rd'} {a b c : Expr} {pos p p2 q0 : Pos} {ia ib ic : IE}
theorem iss_rg {K : Kg} {F : Hp} {rs : List Addr} (lo hi : Int) : Iss K F rs (rangeD lo hi) (rgV lo hi) := by
  unfold rangeD rgV
  generalize List.range (hi - lo).toNat = l
  induction l with
  | nil => rfl
  | cons n l ih => exact ⟨_, _, rfl, rfl, ih⟩
theorem pk_int {K : Kg} {F H : Hp} {rs : List Addr} {i : Int} {v : V} (h : Pk K F rs H (.int i) v) : v = .int i := by
  rcases h with h | ⟨_, _, _, _, _, _, q⟩
  · exact h
  · exact q.elim
theorem see_int {st : Store} {d : D} {i : Int} (h : see st d = .int i) : d = .int i := by
  cases d with
  | obj n =>
    cases hq : st[n]? with
    | none => simp [see, hq] at h
    | some c => cases c <;> simp [see, hq] at h
  | _ => exact h
theorem rngD_1 {st : Store} {d : D} {l : List D} (h : rngD [see st d] = some l) : ∃ j : Int, d = .int j ∧ l = rangeD 0 j ∧ -(2 ^ 62) ≤ j ∧ j < 2 ^ 62 := by
  cases e : see st d with
  | int j =>
    rw [e] at h
    simp only [rngD] at h
    split at h
    · rename_i g
      cases h
      exact ⟨j, see_int e, rfl, g.1, g.2⟩
    · cases h
  | _ => rw [e] at h; cases h
theorem rngD_2 {st : Store} {d e : D} {l : List D} (h : rngD [see st d, see st e] = some l) : ∃ i j : Int, d = .int i ∧ e = .int j ∧ l = rangeD i j ∧ -(2 ^ 62) ≤ i ∧ i < 2 ^ 62 ∧ -(2 ^ 62) ≤ j ∧ j < 2 ^ 62 := by
  cases h1 : see st d with
  | int i =>
    cases h2 : see st e with
    | int j =>
      rw [h1, h2] at h
      simp only [rngD] at h
      split at h
      · rename_i g
        cases h
        exact ⟨i, j, see_int h1, see_int h2, rfl, g.1.1, g.1.2, g.2.1, g.2.2⟩
      · cases h
    | _ => rw [h1, h2] at h; cases h
  | _ => rw [h1] at h; cases h
theorem rangeD_len (lo hi : Int) : (rangeD lo hi).length = (hi - lo).toNat := by simp [rangeD]
/-- list(range(..)), tuple(range(..)): r what the range's bounds ask -/
theorem lx_rg1 (hc : X.calm = true) {t : Bool} (hg : Gl X (if t then "tuple" else "list")) (hm : X.mg (if t then "tuple" else "list") = none) (hg2 : Gl X "range") (hm2 : X.mg "range" = none)
    (na : starEach [.Call (.Name "range" p2) [a] [] q0] X.env = (false, eval (.Call (.Name "range" p2) [a] [] q0) X.env) :: starEach [] X.env) (na2 : starEach [a] X.env = (false, eval a X.env) :: starEach [] X.env) (ha : PE X a (tE T (relP T.K) ia)) :
    PE X (.Call (.Name (if t then "tuple" else "list") p) [.Call (.Name "range" p2) [a] [] q0] [] pos) (tE T (relF T.K) (.blt (if t then .tupRg else .listRg) (.cons ia .nil))) := by
  cases t with
  | false =>
    refine PE.imp (pe_listRg hc hg hm (prg_1 hg2 hm2 ha na2) na) fun σ H Q ⟨F, rs, S, st, ea, sa, fa⟩ => ?_
    rw [ev] at fa
    unfold evs at fa
    unfold evs at fa
    replace fa := fin_bind_one (st := st) fa
    refine ⟨F, rs, S, st, ea, sa, fa.bind Up.f fun x st1 v F1 rs1 H1 s1 S1 q1 f1 => ?_⟩
    obtain ⟨z, hz, f1⟩ := f1.of
    simp only [if_neg Bool.false_ne_true, bltD, List.map_cons, List.map_nil] at hz
    cases hr : rngD [see st1 x] with
    | none => simp only [hr] at hz; cases hz
    | some l =>
      simp only [hr] at hz
      split at hz
      · rename_i g
        cases hz
        obtain ⟨j, rfl, rfl, h1, h2⟩ := rngD_1 hr
        rw [rangeD_len] at g
        exact ⟨j, pk_int q1, ⟨by omega, by omega, h1, h2, by omega⟩, f1.gives.lst S1 (iss_rg 0 j)⟩
      · cases hz
  | true =>
    refine PE.imp (pe_tupRg hc hg hm (prg_1 hg2 hm2 ha na2) na) fun σ H Q ⟨F, rs, S, st, ea, sa, fa⟩ => ?_
    rw [ev] at fa
    unfold evs at fa
    unfold evs at fa
    replace fa := fin_bind_one (st := st) fa
    refine ⟨F, rs, S, st, ea, sa, fa.bind Up.f fun x st1 v F1 rs1 H1 s1 S1 q1 f1 => ?_⟩
    obtain ⟨z, hz, f1⟩ := f1.of
    simp only [if_pos, bltD, List.map_cons, List.map_nil] at hz
    cases hr : rngD [see st1 x] with
    | none => simp only [hr] at hz; cases hz
    | some l =>
      simp only [hr] at hz
      split at hz
      · rename_i g
        cases hz
        obtain ⟨j, rfl, rfl, h1, h2⟩ := rngD_1 hr
        rw [rangeD_len] at g
        exact ⟨j, pk_int q1, ⟨by omega, by omega, h1, h2, by omega⟩, f1.gives.tup S1 (iss_rg 0 j)⟩
      · cases hz
theorem lx_rg2 (hc : X.calm = true) {t : Bool} (hg : Gl X (if t then "tuple" else "list")) (hm : X.mg (if t then "tuple" else "list") = none) (hg2 : Gl X "range") (hm2 : X.mg "range" = none)
    (na : starEach [.Call (.Name "range" p2) [a, b] [] q0] X.env = (false, eval (.Call (.Name "range" p2) [a, b] [] q0) X.env) :: starEach [] X.env) (na2 : starEach [a, b] X.env = (false, eval a X.env) :: starEach [b] X.env) (nb : starEach [b] X.env = (false, eval b X.env) :: starEach [] X.env)
    (hp : (backTo q0 (starEach [b] X.env)).any (·.1) = false) (ha : PE X a (tE T (relP T.K) ia)) (hb : PE X b (tE T (relP T.K) ib)) :
    PE X (.Call (.Name (if t then "tuple" else "list") p) [.Call (.Name "range" p2) [a, b] [] q0] [] pos) (tE T (relF T.K) (.blt (if t then .tupRg else .listRg) (.cons ia (.cons ib .nil)))) := by
  cases t with
  | false =>
    refine PE.imp (pe_listRg hc hg hm (prg_2 hg2 hm2 ha hb na2 nb hp) na) fun σ H Q ⟨F, rs, S, st, ea, sa, fa⟩ => ?_
    rw [ev] at fa
    unfold evs at fa
    unfold evs at fa
    unfold evs at fa
    replace fa := fin_bind_two (y := fun st => ev T.P S ib st) fa
    refine ⟨F, rs, S, st, ea, sa, fa.bind Up.f fun x st1 v F1 rs1 H1 s1 S1 q1 f1 => ?_⟩
    refine ⟨F1, rs1, S, st1, ea.step s1, S1, f1.bind Up.f fun y st2 u F2 rs2 H2 s2 S2 q2 f2 => ?_⟩
    obtain ⟨z, hz, f2⟩ := f2.of
    simp only [if_neg Bool.false_ne_true, bltD, List.map_cons, List.map_nil] at hz
    cases hr : rngD [see st2 x, see st2 y] with
    | none => simp only [hr] at hz; cases hz
    | some l =>
      simp only [hr] at hz
      split at hz
      · rename_i g
        cases hz
        obtain ⟨i, j, rfl, rfl, rfl, h0, h1, h2, h3⟩ := rngD_2 hr
        rw [rangeD_len] at g
        exact ⟨i, j, pk_int q1, pk_int q2, ⟨h0, h1, h2, h3, by omega⟩, f2.gives.lst S2 (iss_rg i j)⟩
      · cases hz
  | true =>
    refine PE.imp (pe_tupRg hc hg hm (prg_2 hg2 hm2 ha hb na2 nb hp) na) fun σ H Q ⟨F, rs, S, st, ea, sa, fa⟩ => ?_
    rw [ev] at fa
    unfold evs at fa
    unfold evs at fa
    unfold evs at fa
    replace fa := fin_bind_two (y := fun st => ev T.P S ib st) fa
    refine ⟨F, rs, S, st, ea, sa, fa.bind Up.f fun x st1 v F1 rs1 H1 s1 S1 q1 f1 => ?_⟩
    refine ⟨F1, rs1, S, st1, ea.step s1, S1, f1.bind Up.f fun y st2 u F2 rs2 H2 s2 S2 q2 f2 => ?_⟩
    obtain ⟨z, hz, f2⟩ := f2.of
    simp only [if_pos, bltD, List.map_cons, List.map_nil] at hz
    cases hr : rngD [see st2 x, see st2 y] with
    | none => simp only [hr] at hz; cases hz
    | some l =>
      simp only [hr] at hz
      split at hz
      · rename_i g
        cases hz
        obtain ⟨i, j, rfl, rfl, rfl, h0, h1, h2, h3⟩ := rngD_2 hr
        rw [rangeD_len] at g
        exact ⟨i, j, pk_int q1, pk_int q2, ⟨h0, h1, h2, h3, by omega⟩, f2.gives.tup S2 (iss_rg i j)⟩
      · cases hz
theorem nodupB_ok : ∀ {l : List Int}, nodupB l = true → l.Nodup
  | [], _ => List.nodup_nil
  | x :: r, h => by
    simp only [nodupB, Bool.and_eq_true, Bool.not_eq_true'] at h
    refine List.nodup_cons.mpr ⟨fun hm => ?_, nodupB_ok h.2⟩
    have z := h.1
    rw [List.contains_iff_mem.mpr hm] at z
    cases z
theorem lx_lenSet (hK : T.K.K = X.K) (hc : X.calm = true) (hg : Gl X "len") (hm : X.mg "len" = none) (hg2 : Gl X "set") (hm2 : X.mg "set" = none) (na : starEach [a] X.env = (false, eval a X.env) :: starEach [] X.env) (ha : PE X a (tE T (relP T.K) ia)) :
    PE X (.Call (.Name "len" p) [.Call (.Name "set" p2) [a] [] q0] [] pos) (tE T (relF T.K) (.blt .lenSet (.cons ia .nil))) := by
  refine PE.imp (RZ.pe_lenSetI hg hm hg2 hm2 ha hc na) fun σ H Q ⟨F, rs, S, st, ea, sa, fa⟩ => ?_
  rw [ev] at fa
  unfold evs at fa
  unfold evs at fa
  replace fa := fin_bind_one (st := st) fa
  refine ⟨F, rs, S, st, ea, sa, fa.bind Up.f fun x st1 v F1 rs1 H1 s1 S1 q1 f1 => ?_⟩
  obtain ⟨z, hz, f1⟩ := f1.of
  have w := Pk.see S1 q1
  simp only [bltD, List.map_cons, List.map_nil] at hz
  cases hx : see st1 x with
  | lst l =>
    rw [hx] at w
    simp only [hx] at hz
    cases hi : intsOf l with
    | none => simp only [hi] at hz; cases hz
    | some ns =>
      simp only [hi] at hz
      split at hz
      · rename_i g
        cases hz
        obtain ⟨a, vs, rfl, r, qi⟩ := w
        have e := qi.of_ints hi
        subst e
        exact ⟨a, ns, rfl, .inl r, nodupB_ok g.2, by omega, f1.val S1 (.inl ⟨rfl, rfl⟩)⟩
      · cases hz
  | _ => simp only [hx] at hz; cases hz
/-! ### calls of the text's own defs -/
/-- what a def promises -/
def spD (K : Kg) (P : Calls) (f : Nat) : Sp := fun vs H Q E => ∃ F rs ds st, StOk K F rs H st ∧ Iss K F rs ds vs ∧ Fin K (relK K) F rs H (P f ds st) Q E
end
end DI

set_option Elab.async false
set_option linter.all false
set_option maxRecDepth 100000
set_option maxHeartbeats 4000000
namespace DI
open PySem PySem.Spec PyProof.Rows L2
/-! ### room, and calls where nothing is being shown -/
/-- ahead of a call -/
structure Rm (k : Nat) (A : Around) : Prop where
  gd : A.guards = some []
  hd : A.handled = none
  dp : A.depth + 6 * k + 5 < recursionLimit
  un : A.units + 32 * k + 300 < cLine
/-- within a body -/
structure RmB (k : Nat) (A : Around) : Prop where
  gd : A.guards = some []
  hd : A.handled = none
  dp : A.depth + 6 * k + 9 < recursionLimit
  un : A.units + 32 * k + 320 < cLine
theorem RmB.rm {k : Nat} {A : Around} (r : RmB k A) : Rm k A := ⟨r.gd, r.hd, by have := r.dp; omega, by have := r.un; omega⟩
theorem RmB.in1 {k : Nat} {A : Around} (r : RmB k A) : Rm k A.in1 := ⟨r.gd, r.hd, by have := r.dp; show A.depth + 6 * k + 5 < _; omega, by have := r.un; show A.units + 1 + 32 * k + 300 < _; omega⟩
theorem Rm.deeper {k : Nat} {A : Around} (r : Rm (k + 1) A) (env : PySem.Env) : RmB k (A.deeper env) :=
  ⟨r.gd, r.hd, by have := r.dp; show A.depth + 1 + 6 * k + 9 < _; omega, by have := r.un; show A.units + 3 + 32 * k + 320 < _; omega⟩
theorem under_guards {A : Around} {C : Addr} {us : List Value} : (A.under (.builtin "type.__call__" ⟨.ref C :: us, []⟩)).guards = A.guards := by
  first
    | rfl
    | (simp [Around.under, Code.guards, Code.isGuard, pushGuards, guardIds]; done)
    | (cases h : A.guards <;> simp [Around.under, Code.guards, Code.isGuard, pushGuards, guardIds, h])
theorem RmB.make {k : Nat} {A : Around} (r : RmB k A) (C : Addr) (us : List Value) : Rm k (A.under (.builtin "type.__call__" ⟨.ref C :: us, []⟩)) :=
  ⟨under_guards.trans r.gd, r.hd, by have := r.dp; rw [make_depth]; omega, by have := r.un; rw [make_units]; omega⟩
theorem RmB.room {k : Nat} {A : Around} (r : RmB k A) : Room k A := ⟨r.hd, by have := r.dp; omega, by have := r.un; omega⟩
theorem Rm.room {k : Nat} {A : Around} (r : Rm k A) : Room k A := ⟨r.hd, by have := r.dp; omega, by have := r.un; omega⟩
/-- what a def keeps of its promise, by position -/
def FnG (P : Program) (w : World) (K : PySem.W.Frag) (mg : Str → Option Value) (base : Heap) (k : Nat) (f : Addr) (sp : Sp) : Prop :=
  ∀ (A : Around) (stk : List PySem.Env) (s : Shared) (H : Hp) (args : List Value) (ws : List V) (Q : VK) (E : XK), Rm k A → Env0 P w K mg base A stk s H → Vals ws args → sp ws H Q E → codeAny (model P w) A (.call (.ref f) ⟨args, []⟩) (CR CX0 stk P w H s Q E) s
section
variable {P : Program} {w : World} {K : PySem.W.Frag} {mg : Str → Option Value} {base : Heap} {k : Nat} {f : Addr} {sp sp2 : Sp}
theorem FnG.imp (F : FnG P w K mg base k f sp) (h : ∀ ws H Q E, sp2 ws H Q E → sp ws H Q E) : FnG P w K mg base k f sp2 :=
  fun A stk s H args ws Q E r e v q => F A stk s H args ws Q E r e v (h ws H Q E q)
end
section
variable {X : Cx} {pins : List (Addr × Obj)} {σ : L2.St} {H : Hp} {s : Shared} {k : Nat} {f C p g a dx : Addr} {sp : Sp} {fs : List (Str × V)} {x : Str}
/-- how such a call ends -/
theorem end_fn {Q : VK} {A : Around} (I : Inv X pins σ H s) {code : Code} (h : codeAny (model X.prog X.w) A code (CR CX0 X.stack X.prog X.w H s Q E0) s) {R : Result → Shared → Prop}
    (hR : ∀ u s', EP X pins σ Q u s' → R (.ok (.ret u)) s') : codeAny (model X.prog X.w) A code R s := by
  refine codeAny_mono h fun r s1 hq => ?_
  match r, hq with
  | .ok (.ret u), hq => exact hR u s1 (I.after hq)
  | .ok .next, hq => exact hq.elim
  | .ok .brk, hq => exact hq.elim
  | .ok .cont, hq => exact hq.elim
  | .error z, hq => exact False.elim hq
theorem run_fnG {Q : VK} {args : List Value} {ws : List V} {Er : Value → Shared → Prop} (F : FnG X.prog X.w X.K X.mg X.base k f sp) (hr : RmB k X.A) (I : Inv X pins σ H s) (r : Vals ws args) (h : sp ws H Q E0) :
    wpAny (model X.prog X.w) X.A (call (.ref f) args) (EP X pins σ Q) Er s :=
  wpAny_call (end_fn I (F X.A X.stack s H args ws Q E0 hr.rm I.env0 r h) fun _ _ z => z)
/-- a property is read -/
theorem getpropG {Q : VK} {b : Bool} {Er : Value → Shared → Prop} (F : FnG X.prog X.w X.K X.mg X.base k g sp) (hr : RmB k X.A) (I : Inv X pins σ H s) (ea : H a = some (.ins C dx fs)) (c : Cls X.K C) (hp : PropOf X.K C x p g) (h : sp [.ref a] H Q E0) :
    wpAny (model X.prog X.w) X.A (getAttr (.ref a) x b) (EP X pins σ Q) Er s := by
  obtain ⟨mA, O, _⟩ := ins_get I.hok ea
  obtain ⟨od, J, _⟩ := O.look
  obtain ⟨more, hrec⟩ := hp.rec_
  have J1 := I.tok (s.toks + 1)
  obtain ⟨cd, hcl, _⟩ := PySem.W.any_some c.hd
  have hsome : (PySem.W.clsIn X.K C).isSome = true := by rw [hcl]; rfl
  have pg := PySem.W.plainGet_of (c.get x)
  refine PySem.W.get_bind I.kIn J pg.1 (PySem.W.findObj_data hsome hp.at_ hp.get hp.tak) pg.2 (wpAny_call (PySem.W.prop_get (s := { s with toks := s.toks + 1 }) I.kIn hrec ?_))
  refine end_fn J1 (F X.A.in1 X.stack { s with toks := s.toks + 1 } H [.ref a] [.ref a] Q E0 hr.in1 J1.env0.in1 (.cons rfl .nil) h) fun u s2 z => ?_
  obtain ⟨v, H2, I3, rv, q3⟩ := z
  show wpAny _ _ (handedOut u) _ _ _
  rw [PySem.W.handedOut_of (handed_of rv)]
  exact wpAny_pure ⟨v, H2, I3, rv, q3⟩
/-- an instance is made -/
theorem run_makeG {Q : VK} {args : List Value} {ws : List V} {Er : Value → Shared → Prop} (M : Mk X.K C f) (F : FnG X.prog X.w X.K X.mg X.base k f sp) (hr : RmB k X.A) (I : Inv X pins σ H s) (r : Vals ws args)
    (h : ∀ y d, H y = none → H d = none → d ≠ y → sp (.ref y :: ws) (upd (upd H d (.own y)) y (.ins C d [])) (fun v H2 => v = .non ∧ Q (.ref y) H2) E0) :
    wpAny (model X.prog X.w) X.A (call (.ref C) args) (EP X pins σ Q) Er s := by
  have hq := h (s.heap.objs.size + 1) s.heap.objs.size (I.hok.fresh (Nat.le_succ _)) (I.hok.fresh (Nat.le_refl _)) (fun e => absurd e (Nat.ne_of_lt (Nat.lt_succ_self _)))
  have J := Inv.made (C := C) I
  refine wpAny_call (make_map (f := f) I.kIn M.makes M.init (beq_iff_eq.mp M.fn) ?_)
  refine end_fn J (F _ X.stack _ _ (.ref (s.heap.objs.size + 1) :: args) (.ref (s.heap.objs.size + 1) :: ws) _ E0 (hr.make C args) (J.env0.make C args []) (.cons rfl r) hq) fun u s2 z => ?_
  obtain ⟨v, H2, I3, rv, ev, q3⟩ := z
  subst ev
  exact ⟨rv, .ref (s.heap.objs.size + 1), H2, I3, rfl, q3⟩
end
/-! ### by form -/
section
variable {X : Cx} {T : Rd'} {a b c : Expr} {pos p p2 q0 : Pos} {ia ib ic : IE} {k f : Nat} {x : Str} {es : List Expr} {ies : IEs}
theorem lx_cal {fa : Addr} (hW : T.W = fun _ _ _ _ => False) (F : FnG X.prog X.w X.K X.mg X.base k fa (spD T.K T.P f)) (hr : RmB k X.A) (hk : PySem.W.keepIn X.K (.ref fa) = true) (hg : Gl X x) (hm : X.mg x = some (.ref fa))
    (hd : (x == ("__debug__" : Str)) = false) (ha : PA X (a :: es) (tL T (relL T.K) ies)) (he : starEach (a :: es) X.env = (false, eval a X.env) :: starEach es X.env) (hpl : (backTo pos (starEach es X.env)).any (·.1) = false) :
    PE X (.Call (.Name x p) (a :: es) [] pos) (tE T (relK T.K) (.cal f x ies)) := by
  refine ⟨fun pins s σ H Q I h => ?_⟩
  have key : tL T (relL T.K) ies σ H fun vs H1 => spD T.K T.P f vs H1 Q E0 := by
    obtain ⟨F, rs, S, st, ea, sa, fa⟩ := h
    rw [ev] at fa
    refine ⟨F, rs, S, st, ea, sa, fa.bind Up.k fun ds st1 vs F1 rs1 H1 s1 S1 q1 f1 => ⟨F1, rs1, ds, st1, S1, q1, ?_⟩⟩
    rw [hW] at f1
    exact f1
  refine wpAny_Call_Name_kw (ld_glob I hg hm ?_ hd)
  refine PySem.W.callWith_K (h₀ := X.base) I.ok.mod.kin hk (thn (ha.run pos pins s σ H _ I key) fun us s1 ⟨vs, H1, I1, r1, q⟩ => ⟨I1.kIn, ?_⟩) he hpl
  exact run_fnG F hr I1 r1 q
theorem lx_cal0 {fa : Addr} (hW : T.W = fun _ _ _ _ => False) (F : FnG X.prog X.w X.K X.mg X.base k fa (spD T.K T.P f)) (hr : RmB k X.A) (hk : PySem.W.keepIn X.K (.ref fa) = true) (hg : Gl X x) (hm : X.mg x = some (.ref fa))
    (hd : (x == ("__debug__" : Str)) = false) : PE X (.Call (.Name x p) [] [] pos) (tE T (relK T.K) (.cal f x .nil)) := by
  refine ⟨fun pins s σ H Q I h => ?_⟩
  refine wpAny_Call_Name_kw (ld_glob I hg hm ?_ hd)
  refine PySem.W.callWith_K0 I.kIn hk (run_fnG F hr I .nil ?_)
  obtain ⟨F, rs, S, st, ea, sa, fa⟩ := h
  rw [ev, evs] at fa
  refine ⟨F, rs, [], st, sa, rfl, ?_⟩
  rw [hW] at fa
  exact fa
theorem look_rel {K : Kg} {F : Hp} {rs : List Addr} {x : Str} {z : D} : ∀ {ks : List Str} {l : List D} {fs : List (Str × V)}, fs.map (·.1) = ks → Iss K F rs l (fs.map (·.2)) → lookF ks l x = some z → ∃ v, fs.lookup x = some v ∧ Is K F rs z v
  | [], _, _, _, _, e => by simp [lookF] at e
  | _ :: _, [], _, _, _, e => by simp [lookF] at e
  | k :: ks, d :: l, [], h, _, _ => by simp at h
  | k :: ks, d :: l, (y, v) :: fs, h, ⟨_, _, e1, h1, h2⟩, e => by
    rw [List.map_cons] at h e1
    cases e1
    injection h with hk hks
    rw [lookF] at e
    by_cases q : k = x
    · rw [if_pos q] at e
      cases e
      refine ⟨v, ?_, h1⟩
      rw [List.lookup_cons, show (x == y) = true from by rw [beq_iff_eq, ← q, ← hk]]
    · rw [if_neg q] at e
      obtain ⟨w, hw, iw⟩ := look_rel hks h2 e
      refine ⟨w, ?_, iw⟩
      rw [List.lookup_cons, show (x == y) = false from by
        have hk : y = k := hk
        rw [hk]
        simp only [beq_eq_false_iff_ne]
        exact fun z => q z.symm]
      exact hw
/-- an attribute -/
theorem lx_att (hK : T.K.K = X.K) (hA : ∀ c, Cls X.K (T.K.ca c) ∧ NoAttr X.K (T.K.ca c) x) (ha : PE X a (tE T (relP T.K) ia)) (hb : attributeBase a x X.env (eval a X.env) = eval a X.env) : PE X (.Attribute a x pos) (tE T (relK T.K) (.att ia x)) := by
  refine PE.imp (pe_fld ha hb) fun σ H Q ⟨F, rs, S, st, ea, sa, fa⟩ => ?_
  rw [ev] at fa
  refine ⟨F, rs, S, st, ea, sa, fa.bind Up.k fun y st1 v F1 rs1 H1 s1 S1 q1 f1 => ?_⟩
  obtain ⟨z, hz, f1⟩ := f1.of
  have vw := Pk.see S1 q1
  unfold attD at hz
  split at hz
  · rename_i c ks l hs
    rw [hs] at vw
    obtain ⟨p, d, fs, rfl, hp, hk, hi⟩ := vw
    obtain ⟨w, hw, iw⟩ := look_rel hk hi hz
    exact ⟨p, _, d, fs, w, rfl, hp, (hA c).1, (hA c).2, hw, f1.val S1 iw⟩
  · cases hz
theorem ins_of {K : Kg} {F H : Hp} {rs : List Addr} {st : Store} {y : D} {v : V} {c : Nat} {kv : List Str × List D} (S : StOk K F rs H st) (q : Pk K F rs H y v) (h : insAt st y c = some kv) : ∃ n p d fs, y = .obj n ∧ rs[n]? = some p ∧ v = .ref p ∧ H p = some (.ins (K.ca c) d fs) ∧ fs.map (·.1) = kv.1 := by
  unfold insAt at h
  split at h
  · rename_i n
    rcases q with ⟨p, hp, rfl⟩ | ⟨_, _, _, _, _, _, z⟩
    · obtain ⟨cl, o, h1, h2, h3⟩ := S.at hp
      rw [h1] at h
      split at h
      · rename_i e
        cases e
        split at h
        · rename_i e
          subst e
          cases h
          obtain ⟨d, fs, rfl, hk, _⟩ := h3
          exact ⟨n, p, d, fs, rfl, hp, rfl, h2, hk⟩
        · cases h
      · cases h
    · exact z.elim
  · cases h
/-- a property -/
theorem lx_prp {c0 : Nat} {pa : Addr} (hW : T.W = fun _ _ _ _ => False) (F : FnG X.prog X.w X.K X.mg X.base k (T.K.fa f) (spD T.K T.P f)) (hr : RmB k X.A) (hc : Cls X.K (T.K.ca c0)) (hp : PropOf X.K (T.K.ca c0) x pa (T.K.fa f)) (ha : PE X a (tE T (relP T.K) ia))
    (hb : attributeBase a x X.env (eval a X.env) = eval a X.env) : PE X (.Attribute a x pos) (tE T (relK T.K) (.prp c0 f ia x)) := by
  refine ⟨fun pins s σ H Q I h => ?_⟩
  have key : tE T (relP T.K) ia σ H fun v H1 => ∃ p d fs, v = .ref p ∧ H1 p = some (.ins (T.K.ca c0) d fs) ∧ spD T.K T.P f [.ref p] H1 Q E0 := by
    obtain ⟨F, rs, S, st, ea, sa, fa⟩ := h
    rw [ev] at fa
    refine ⟨F, rs, S, st, ea, sa, fa.bind Up.k fun y st1 v F1 rs1 H1 s1 S1 q1 f1 => ?_⟩
    cases hi : insAt st1 y c0 with
    | none => rw [hi] at f1; exact f1.elim
    | some kv =>
      rw [hi] at f1
      obtain ⟨n, p, d, fs, rfl, hn, rfl, hp, _⟩ := ins_of S1 q1 hi
      refine ⟨p, d, fs, rfl, hp, F1, rs1, [.obj n], st1, S1, ⟨.ref p, [], rfl, ⟨p, hn, rfl⟩, rfl⟩, ?_⟩
      rw [hW] at f1
      exact f1
  refine attr_of hb (thn (ha.run pins s σ H _ I key) fun u s1 ⟨v, H1, I1, rv, p, d, fs, ev, ep, q⟩ => ?_)
  subst ev
  cases rv
  exact getpropG F hr I1 ep hc hp q
/-- a new instance -/
theorem mk_read {c0 : Nat} {ies : IEs} (hW : T.W = fun _ _ _ _ => False) {σ : L2.St} {H : Hp} {Q : VK} (h : tE T (relK T.K) (.new c0 f x ies) σ H Q) :
    tL T (relL T.K) ies σ H fun vs H1 => ∀ y d, H1 y = none → H1 d = none → d ≠ y → spD T.K T.P f (.ref y :: vs) (upd (upd H1 d (.own y)) y (.ins (T.K.ca c0) d [])) (fun v H2 => v = .non ∧ Q (.ref y) H2) E0 := by
  obtain ⟨F, rs, S, st, ea, sa, fa⟩ := h
  rw [ev] at fa
  refine ⟨F, rs, S, st, ea, sa, fa.bind Up.k fun ds st1 vs F1 rs1 H1 s1 S1 q1 f1 => fun y d hy hd hne => ?_⟩
  rw [hW] at f1
  have l1 : Step F1 rs1 H1 F1 rs1 (upd H1 d (.own y)) := Step.lay hd
  have hy1 : upd H1 d (.own y) y = none := by rw [upd_ne (Ne.symm hne)]; exact hy
  have l2 : Step F1 rs1 (upd H1 d (.own y)) F1 rs1 (upd (upd H1 d (.own y)) y (.ins (T.K.ca c0) d [])) := Step.lay hy1
  have hF := S1.freeF hy
  have hr : y ∉ rs1 := fun z => by
    obtain ⟨o, h⟩ := S1.used z
    rw [hy] at h; cases h
  have S2 := (S1.lay (o := .own y) hd).lay (o := .ins (T.K.ca c0) d []) hy1
  have pre : Pre rs1 (rs1 ++ [y]) := ⟨[y], rfl⟩
  have S3 : StOk T.K F1 (rs1 ++ [y]) (upd (upd H1 d (.own y)) y (.ins (T.K.ca c0) d [])) (st1 ++ [.ins c0 [] []]) := by
    refine ⟨S2.sm, by simp [S2.len], List.nodup_append.mpr ⟨S2.nd, by simp, fun a ha b hb e => hr (by rw [List.mem_singleton.mp hb] at e; rw [← e]; exact ha)⟩, fun a ha => ?_, fun n c e => ?_⟩
    · rcases List.mem_append.mp ha with ha | ha
      · exact S2.out a ha
      · rw [List.mem_singleton.mp ha]; exact hF
    · by_cases hn : n < st1.length
      · rw [List.getElem?_append_left hn] at e
        obtain ⟨a, u, e1, e2, e3⟩ := S2.cell n c e
        exact ⟨a, u, by rw [List.getElem?_append_left (by rw [S2.len]; exact hn)]; exact e1, e2, e3.mono (Same.refl _) pre⟩
      · have hl : n = st1.length := by
          have := (List.getElem?_eq_some_iff.mp e).1
          simp at this
          omega
        subst hl
        rw [List.getElem?_append_right (Nat.le_refl _), Nat.sub_self] at e
        cases e
        exact ⟨y, _, by rw [List.getElem?_append_right (by rw [S2.len]; exact Nat.le_refl _), S2.len, Nat.sub_self]; rfl, upd_same, d, [], rfl, rfl, rfl⟩
  have st3 : Step F1 rs1 H1 F1 (rs1 ++ [y]) (upd (upd H1 d (.own y)) y (.ins (T.K.ca c0) d [])) := by
    have s12 := l1.trans l2
    refine ⟨s12.sF, s12.nF, ⟨[y], rfl, fun a ha => by rw [List.mem_singleton.mp ha]; exact hy⟩, s12.kp, s12.al⟩
  have io : Is T.K F1 (rs1 ++ [y]) (.obj st1.length) (.ref y) := ⟨y, by rw [List.getElem?_append_right (by rw [S1.len]; exact Nat.le_refl _), S1.len, Nat.sub_self]; rfl, rfl⟩
  refine ⟨F1, rs1 ++ [y], .obj st1.length :: ds, st1 ++ [.ins c0 [] []], S3, ⟨.ref y, vs, rfl, io, Iss.mono (Same.refl _) pre _ _ q1⟩, ?_⟩
  have f2 := Fin.step Up.k f1 st3
  cases hx : T.P f (.obj st1.length :: ds) (st1 ++ [.ins c0 [] []]) with
  | no => rw [hx] at f2; exact f2.elim
  | err e st2 => rw [hx] at f2; exact f2
  | ok z st2 =>
    rw [hx] at f2
    intro v F3 rs3 H3 s3 S3' q3
    cases z with
    | non =>
      cases q3
      refine ⟨rfl, f2 (.ref y) F3 rs3 H3 s3 S3' (io.mono s3.sF s3.pre _ _)⟩
    | _ => exact f2.elim
theorem lx_new {c0 : Nat} {ies : IEs} (hW : T.W = fun _ _ _ _ => False) (M : Mk X.K (T.K.ca c0) (T.K.fa f)) (F : FnG X.prog X.w X.K X.mg X.base k (T.K.fa f) (spD T.K T.P f)) (hr : RmB k X.A) (hg : Gl X x) (hm : X.mg x = some (.ref (T.K.ca c0)))
    (hd : (x == ("__debug__" : Str)) = false) (ha : PA X (a :: es) (tL T (relL T.K) ies)) (he : starEach (a :: es) X.env = (false, eval a X.env) :: starEach es X.env) (hpl : (backTo pos (starEach es X.env)).any (·.1) = false) :
    PE X (.Call (.Name x p) (a :: es) [] pos) (tE T (relK T.K) (.new c0 f x ies)) := by
  refine ⟨fun pins s σ H Q I h => ?_⟩
  refine wpAny_Call_Name_kw (ld_glob I hg hm ?_ hd)
  refine PySem.W.callWith_K (h₀ := X.base) I.ok.mod.kin M.kp (thn (ha.run pos pins s σ H _ I (mk_read hW h)) fun us s1 ⟨vs, H1, I1, r1, q⟩ => ⟨I1.kIn, ?_⟩) he hpl
  exact run_makeG M F hr I1 r1 q
/-- a constant of a class -/
theorem lx_cst {c0 : Nat} {y : Str} {d : D} {v : V} {u mc : Value} (hg : Gl X x) (hm : X.mg x = some (.ref (T.K.ca c0))) (hdb : (x == ("__debug__" : Str)) = false) (hx : x ≠ "__name__") (r : ClX.CRead X.K (T.K.ca c0) mc) (cv : ClX.CVal X.K (T.K.ca c0) mc y v u) (hd : ∀ F rs, Is T.K F rs d v)
    (hb : attributeBase (.Name x p) y X.env (eval (.Name x p) X.env) = eval (.Name x p) X.env) : PE X (.Attribute (.Name x p) y pos) (tE T (relK T.K) (.cst c0 x y d)) := by
  have h0 : PE X (.Name x p) (tC (.ref (T.K.ca c0))) := pe_glob hg hm rfl hdb
  refine PE.imp (ClX.pe_cval h0 hb) fun σ H Q ⟨F, rs, S, st, ea, sa, fa⟩ => ?_
  rw [ev] at fa
  exact ⟨T.K.ca c0, mc, v, u, rfl, r, cv, fa.val sa (hd F rs)⟩
end
end DI

set_option Elab.async false
set_option linter.all false
set_option maxRecDepth 100000
set_option maxHeartbeats 4000000
/-! methods, len of an instance -/
namespace DI
open PySem PySem.Spec PyProof.Rows L2
section
variable {X : Cx} {T : Rd'} {a o : Expr} {pos p apos : Pos} {ia io : IE} {k f : Nat} {m : Str} {es : List Expr} {ies : IEs}
theorem look_none {x : Str} : ∀ {fs : List (Str × V)} {ks : List Str}, fs.map (·.1) = ks → ks.contains x = false → fs.lookup x = none
  | [], _, _, _ => rfl
  | (y, v) :: fs, [], h, _ => by simp at h
  | (y, v) :: fs, k :: ks, h, e => by
    rw [List.map_cons] at h
    injection h with h1 h2
    rw [List.contains_cons, Bool.or_eq_false_iff] at e
    have h1 : y = k := h1
    subst h1
    rw [List.lookup_cons, e.1]
    exact look_none h2 e.2
/-- the tree of a method's call on one line -/
theorem meth_tree {args : List Expr} {env : PySem.Env} (hb : attributeBase o m env (eval o env) = eval o env) (hf : methodCallForm (args.length + ([] : List Keyword).length) (backTo pos (starEach args env)) (backToKw pos (keywordEach [] env)) = true) (hl : (apos.endLine == pos.line) = true) :
    eval (.Call (.Attribute o m apos) args [] pos) env = (do
      let ov ← eval o env
      standAt apos.atName
      let (f, first) ← holding [ov] (getMethod ov m (do return (← importBound o env).getD true))
      callWith pos f first (backTo pos (starEach args env)) (backToKw pos (keywordEach [] env))) := by
  have hpos : methodCallPos true o env apos pos = pure pos := by unfold methodCallPos; simp [hl]
  refine mcall_of hb fun ov => ?_
  unfold methodCall
  rw [hf, hpos]
  rfl
theorem mtd_key {c0 : Nat} (hW : T.W = fun _ _ _ _ => False) {σ : L2.St} {H : Hp} {Q : VK} (h : tE T (relK T.K) (.mtd c0 f m io ies) σ H Q) :
    tE T (relP T.K) io σ H fun v H1 => ∃ p d fs, v = .ref p ∧ H1 p = some (.ins (T.K.ca c0) d fs) ∧ fs.lookup m = none ∧ tL T (relL T.K) ies σ H1 fun vs H2 => spD T.K T.P f (.ref p :: vs) H2 Q E0 := by
  obtain ⟨F, rs, S, st, ea, sa, fa⟩ := h
  rw [ev] at fa
  refine ⟨F, rs, S, st, ea, sa, fa.bind Up.k fun y st1 v F1 rs1 H1 s1 S1 q1 f1 => ?_⟩
  cases hi : insAt st1 y c0 with
  | none => rw [hi] at f1; exact f1.elim
  | some kv =>
    rw [hi] at f1
    dsimp only at f1
    obtain ⟨n, p, d, fs, rfl, hn, rfl, hp, hk⟩ := ins_of S1 q1 hi
    cases hc : kv.1.contains m with
    | true => rw [hc, if_pos rfl] at f1; exact f1.elim
    | false =>
      rw [hc, if_neg Bool.false_ne_true] at f1
      refine ⟨p, d, fs, rfl, hp, look_none hk hc, F1, rs1, S, st1, ea.step s1, S1, f1.bind Up.k fun ds st2 vs F2 rs2 H2 s2 S2 q2 f2 => ?_⟩
      have io : Is T.K F1 rs1 (.obj n) (.ref p) := ⟨p, hn, rfl⟩
      refine ⟨F2, rs2, .obj n :: ds, st2, S2, ⟨.ref p, vs, rfl, io.mono s2.sF s2.pre _ _, q2⟩, ?_⟩
      rw [hW] at f2
      exact f2
/-- o.m(e, ..) -/
theorem lx_mtd {c0 : Nat} (hW : T.W = fun _ _ _ _ => False) (F : FnG X.prog X.w X.K X.mg X.base k (T.K.fa f) (spD T.K T.P f)) (hr : RmB k X.A) (hc : Cls X.K (T.K.ca c0)) (hm : Meth X.K (T.K.ca c0) m (T.K.fa f)) (ho : PE X o (tE T (relP T.K) io)) (ha : PA X (a :: es) (tL T (relL T.K) ies))
    (hb : attributeBase o m X.env (eval o X.env) = eval o X.env) (he : starEach (a :: es) X.env = (false, eval a X.env) :: starEach es X.env) (hpl : (backTo pos (starEach es X.env)).any (·.1) = false)
    (hf : methodCallForm ((a :: es).length + ([] : List Keyword).length) (backTo pos (starEach (a :: es) X.env)) (backToKw pos (keywordEach [] X.env)) = true) (hl : (apos.endLine == pos.line) = true) :
    PE X (.Call (.Attribute o m apos) (a :: es) [] pos) (tE T (relK T.K) (.mtd c0 f m io ies)) := by
  refine ⟨fun pins s σ H Q I h => ?_⟩
  refine PySem.W.methodCall_KW (thn (ho.run pins s σ H _ I (mtd_key hW h)) fun u s1 ⟨v, H1, I1, rv, p, d, fs, ev, ep, l, q⟩ => ?_) (meth_tree hb hf hl)
  subst ev
  obtain rfl : u = Value.ref p := rv
  refine getmeth_ok I1 ep hc hm l ?_
  refine PySem.W.callWith_K (first := [.ref p]) (h₀ := X.base) I.ok.mod.kin hm.kp (thn (ha.run pos pins s1 σ H1 _ I1 q) fun us s2 ⟨vs, H2, I2, r, q2⟩ => ⟨I2.kIn, ?_⟩) he hpl
  exact run_fnG (args := .ref p :: us) (ws := .ref p :: vs) F hr I2 (.cons rfl r) q2
/-- o.m() -/
theorem lx_mtd0 {c0 : Nat} (hW : T.W = fun _ _ _ _ => False) (F : FnG X.prog X.w X.K X.mg X.base k (T.K.fa f) (spD T.K T.P f)) (hr : RmB k X.A) (hc : Cls X.K (T.K.ca c0)) (hm : Meth X.K (T.K.ca c0) m (T.K.fa f)) (ho : PE X o (tE T (relP T.K) io))
    (hb : attributeBase o m X.env (eval o X.env) = eval o X.env) (hl : (apos.endLine == pos.line) = true) :
    PE X (.Call (.Attribute o m apos) [] [] pos) (tE T (relK T.K) (.mtd c0 f m io .nil)) := by
  refine ⟨fun pins s σ H Q I h => ?_⟩
  refine PySem.W.methodCall_KW (thn (ho.run pins s σ H _ I (mtd_key hW h)) fun u s1 ⟨v, H1, I1, rv, p, d, fs, ev, ep, l, q⟩ => ?_) (meth_tree hb rfl hl)
  subst ev
  obtain rfl : u = Value.ref p := rv
  refine getmeth_ok I1 ep hc hm l ?_
  obtain ⟨F0, rs, S, st, ea, sa, fa⟩ := q
  rw [evs] at fa
  have q2 := fa [] F0 rs H1 Step.refl sa rfl
  exact PySem.W.callWith_K0 (first := [.ref p]) I1.kIn hm.kp (run_fnG (args := [.ref p]) (ws := [.ref p]) F hr I1 (.cons rfl .nil) q2)
/-- len of an instance -/
theorem lx_lnO {c0 : Nat} (hW : T.W = fun _ _ _ _ => False) (F : FnG X.prog X.w X.K X.mg X.base k (T.K.fa f) (spD T.K T.P f)) (hr : RmB k X.A) (hm : Meth X.K (T.K.ca c0) "__len__" (T.K.fa f)) (hg : Gl X "len") (hmg : X.mg "len" = none) (ho : PE X o (tE T (relP T.K) io))
    (he : starEach [o] X.env = (false, eval o X.env) :: starEach [] X.env) : PE X (.Call (.Name "len" p) [o] [] pos) (tE T (relK T.K) (.lnO c0 f io)) := by
  refine ⟨fun pins s σ H Q I h => ?_⟩
  have key : tE T (relP T.K) io σ H fun v H1 => ∃ p d fs, v = .ref p ∧ H1 p = some (.ins (T.K.ca c0) d fs) ∧ spD T.K T.P f [.ref p] H1 (fun v H2 => ∃ n : Int, v = .int n ∧ (0 ≤ n ∧ n < 2 ^ 63) ∧ Q (.int n) H2) E0 := by
    obtain ⟨F, rs, S, st, ea, sa, fa⟩ := h
    rw [ev] at fa
    refine ⟨F, rs, S, st, ea, sa, fa.bind Up.k fun y st1 v F1 rs1 H1 s1 S1 q1 f1 => ?_⟩
    cases hi : insAt st1 y c0 with
    | none => rw [hi] at f1; exact f1.elim
    | some kv =>
      rw [hi] at f1
      dsimp only at f1
      obtain ⟨n, p, d, fs, rfl, hn, rfl, hp, hk⟩ := ins_of S1 q1 hi
      refine ⟨p, d, fs, rfl, hp, F1, rs1, [.obj n], st1, S1, ⟨.ref p, [], rfl, ⟨p, hn, rfl⟩, rfl⟩, ?_⟩
      rw [hW] at f1
      refine f1.bind Up.k fun y st2 v F2 rs2 H2 s2 S2 q2 f2 => ?_
      cases y with
      | int n =>
        cases q2
        dsimp only at f2
        by_cases hn : 0 ≤ n ∧ n < 2 ^ 63
        · rw [if_pos hn] at f2
          exact ⟨n, rfl, hn, f2 (.int n) F2 rs2 H2 Step.refl S2 rfl⟩
        · rw [if_neg hn] at f2
          exact f2.elim
      | _ => exact f2.elim
  refine wpAny_Call_Name_kw (ld_blt I hg hmg boot_len ?_ (by decide) (by decide))
  refine PyProof.Rows.callWith_builtin1 ?_ he rfl
  rw [he]
  show wpAny _ _ (spliced ((false, eval o X.env) :: backTo pos (starEach [] X.env))) _ _ s
  refine Calls.spliced_cons (thn (ho.run pins s σ H _ I key) fun u s1 ⟨v, H1, I1, rv, p, d, fs, ev, ep, q⟩ => Calls.spliced_nil ?_)
  subst ev
  obtain rfl : u = Value.ref p := rv
  obtain ⟨mA, O, _⟩ := ins_get I1.hok ep
  obtain ⟨od, J, _⟩ := O.look
  have fr : ∃ L m, Fr X.base L s1.heap m := by
    obtain ⟨m, hns, _⟩ := I1.loc
    exact ⟨X.env.locals, m, hns, fun b o e => (I1.bs b o e).1, Nat.le_trans I1.ok.bsz I1.ok.above⟩
  obtain ⟨L, mm, fr⟩ := fr
  refine PySem.W.len_K fr I1.ok.mod.kin J hm.at_ hm.fn (wpAny_call (end_fn I1 (F X.A.in1 X.stack s1 H1 [.ref p] [.ref p] _ E0 hr.in1 I1.env0.in1 (.cons rfl .nil) q) fun u s2 z => ?_))
  obtain ⟨v, H2, I3, rv, n, ev, hn, q3⟩ := z
  subst ev
  obtain ⟨t, rfl⟩ := rv
  exact ⟨hn, .int n, H2, I3.tok _, ⟨_, rfl⟩, q3⟩
end
end DI

set_option Elab.async false
set_option linter.all false
set_option maxRecDepth 100000
set_option maxHeartbeats 4000000
/-! a generator's `for` -/
namespace DI
open PySem PySem.Spec PyProof.Rows L2 GenW
section
variable {M : Model} {A : Around} {R : GenEnd} {Y : Protocol} {n : Nat} {s₀ : Shared} {c : Code} {fs : List Frame} {s : Shared} {env : PySem.Env}
theorem seg_wbind {α β : Type} {m : Sem α} {f : α → Sem β} {K : β → Sem PySem.Fin} {H : Value → Sem PySem.Fin} {gd : Bool → Bool} {lv : List Value → List Value}
    (h : wpAny M (A.over c fs) m (fun a s' => Seg M A R Y n s₀ c ((f a).wrap K H gd lv) fs s') (fun x s' => Seg M A R Y n s₀ c (H x) fs s') s) : Seg M A R Y n s₀ c ((m >>= f).wrap K H gd lv) fs s := by
  rw [Sem.bind_eq_wrap', Sem.wrap_wrap]
  exact seg_wrap h
/-- what an exception does in a loop's code -/
abbrev noted (env : PySem.Env) (x : Value) : Sem PySem.Fin := (do noteFrame x env; theTreesLotGoes x : Sem Unit).wrap (fun _ => .raise x) .raise id id
end
section
variable {prog : Program} {w : World} {A : Around} {R : GenEnd} {Y : Protocol} {n : Nat} {s₀ : Shared} {c : Code} {fs : List Frame} {s : Shared} {env : PySem.Env}
theorem seg_forLoop {target : Expr} {it : Value} {body : List Stmt}
    (h : wpAny (model prog w) (A.over (.forLoop target it body [] env) fs) (pyNext it) (fun r s1 => match r with
      | none => Seg (model prog w) A R Y n s₀ (.block [] env) ((model prog w).den (.block [] env)) fs s1
      | some v => wpAny (model prog w) (A.over (.forLoop target it body [] env) fs) (letOwnedTupleGo target it v) (fun _ s2 => wpAny (model prog w) (A.over (.forLoop target it body [] env) fs) (assign target env v) (fun _ s3 =>
          Seg (model prog w) A R Y n s₀ (.forLoop target it body [] env) ((PySem.execs body env).wrap (fun f => match f with
            | .next | .cont => .pure (.again (.forLoop target it body [] env))
            | .brk => .pure (.done .next)
            | .ret v => .pure (.done (.ret v))) (noted env) id id) fs s3) (fun x s' => Seg (model prog w) A R Y n s₀ (.forLoop target it body [] env) (noted env x) fs s') s2) (fun x s' => Seg (model prog w) A R Y n s₀ (.forLoop target it body [] env) (noted env x) fs s') s1)
      (fun x s' => Seg (model prog w) A R Y n s₀ (.forLoop target it body [] env) (noted env x) fs s') s) :
    Seg (model prog w) A R Y n s₀ (.forLoop target it body [] env) ((model prog w).den (.forLoop target it body [] env)) fs s := by
  show Seg _ A R Y n s₀ _ ((forTurn target it body [] env).onRaise (fun x => do noteFrame x env; theTreesLotGoes x)) fs s
  rw [Sem.onRaise_eq_wrap]
  unfold forTurn
  refine seg_wbind (wpAny_standAt (seg_wbind ?_))
  refine wpAny_onRaise (wpAny_mono h (fun r s1 h1 => ?_) fun x s' hx => wpAny_standAt ?_)
  · cases r with
    | none => exact seg_again rfl h1
    | some v =>
      refine seg_wbind (wpAny_mono h1 (fun _ s2 h2 => seg_wbind (wpAny_mono h2 (fun _ s3 h3 => ?_) fun x s' hx => ?_)) fun x s' hx => ?_)
      · rw [Sem.bind_eq_wrap', Sem.wrap_wrap]
        refine (congrArg (fun t => Seg (model prog w) A R Y n s₀ (.forLoop target it body [] env) t fs s3) (Sem.wrap_congr (PySem.execs body env) id id (fun f => ?_) (fun e => ?_))).mpr h3
        · cases f <;> rfl
        · exact Sem.bind_eq_wrap _ _
      · rw [Sem.bind_eq_wrap]; exact hx
      · rw [Sem.bind_eq_wrap]; exact hx
  · rw [Sem.bind_eq_wrap]; exact hx
end
section
variable {M : Model} {A : Around} {R : GenEnd} {Y : Protocol} {n : Nat} {s₀ : Shared} {c : Code} {fs : List Frame} {s : Shared} {env : PySem.Env}
theorem seg_For {target iter : Expr} {body : List Stmt} {pos : Pos} {K : Flow → Sem PySem.Fin} {H : Value → Sem PySem.Fin} {gd : Bool → Bool} {lv : List Value → List Value} (hs : ∀ x, foldedSetIterable iter env x = pure x)
    (h : wpAny M (A.over c fs) (eval iter env) (fun x s1 => wpAny M (A.over c fs) (pyIter x) (fun it s2 => ∀ p, Seg M A R Y n s₀ (.forLoop target it body [] env) (M.den (.forLoop target it body [] env))
      (.ret (fun r => ((match r with | .ok f => (.pure f : Sem Flow) | .error e => .raise e).onRaise (cameBack env)).wrap K H gd lv) none (gd false) (lv []) c p [] :: fs) s2) (fun x s' => Seg M A R Y n s₀ c (H x) fs s') s1) (fun x s' => Seg M A R Y n s₀ c (H x) fs s') s) :
    Seg M A R Y n s₀ c ((PySem.exec (.For target iter body [] pos) env).wrap K H gd lv) fs s := by
  rw [exec_For]
  refine seg_wbind (wpAny_standAt (seg_wbind (wpAny_mono h (fun x s1 h1 => seg_wbind ?_) fun x s' hx => hx)))
  show wpAny M _ (foldedSetIterable iter env x) _ _ s1
  rw [hs]
  refine wpAny_pure (seg_wbind (wpAny_standAt (seg_wbind (wpAny_holding (wpAny_mono h1 (fun it s2 h2 => ?_) fun x s' hx => hx)))))
  exact seg_call h2
end
end DI

set_option Elab.async false
set_option linter.all false
set_option maxRecDepth 100000
set_option maxHeartbeats 4000000
/-! a generator's `for`: the rule -/
namespace DI
open PySem PySem.Spec PyProof.Rows L2 GenW
section
variable {X : Cx}
def tGFor (wi : TI) (g : TG) (tb : TGn) : TGn := fun D ys σ H => wi σ H fun J H1 => ∃ W : Nat → Nat → List V → L2.St → Hp → Prop, (∃ m, W 0 m ys σ H1) ∧ ∀ i m ys σ H, W i m ys σ H →
  (J.stop i H ∧ D.nx ys σ H) ∨ (J.go i H ∧ ∃ N : List V → L2.St → Hp → Prop, (∀ ys' σ' H', N ys' σ' H' → ∃ m', m' < m ∧ W (i + 1) m' ys' σ' H') ∧ ∀ x H', J.yld i H x H' → g x σ H' fun σ2 H2 => tb { D with nx := N, ct := N, bk := D.nx } ys σ2 H2)
theorem gi_unpinned {S : Addr} {ip pl : List (Addr × Obj)} {ys : List V} {σ : L2.St} {H : Hp} {s : Shared} (h : GI X S (ip ++ pl) ys σ H s) : GI X S ip ys σ H s := by
  obtain ⟨acc, c, r, I⟩ := h
  rw [← List.cons_append] at I
  exact ⟨acc, c, r, I.unpinned⟩
theorem gs_for {tg iter : Expr} {body : List Stmt} {wi : TI} {g : TG} {tb : TGn} {pos : Pos} (hp : PassesOwn (model X.prog X.w) X.A X.env X.xe) (hc : X.calm = true) (hi : PI X tg iter wi) (hg : PG X tg g) (hb : GSs X body tb)
    (hs : ∀ x, foldedSetIterable iter X.env x = pure x) : GS X (.For tg iter body [] pos) (tGFor wi g tb) := by
  refine ⟨fun A S ip R n ys s₀ c fs K J gd lv s σ H D gc hn k hI ht => ?_⟩
  obtain ⟨acc0, c0, r0, I0⟩ := hI
  refine seg_For hs ?_
  rw [gc.over]
  refine wpAny_mono (hi.run _ s σ H _ I0 ht) (fun v s1 h1 => wpAny_mono h1 (fun itv s2 h2 => ?_) fun x s' hx => k.exc n s₀ x s' hx) fun x s' hx => k.exc n s₀ x s' hx
  obtain ⟨it, fp, tn, J1, H2, e, I2, T, st2, f2, W, ⟨m0, w0⟩, turn⟩ := h2
  subst e
  intro p
  have gl := fun (c' : Code) (hw : c'.weight = 0) (hu : c'.cUnits = 0) (kk : Result → Sem PySem.Fin) => gc_loop (k := kk) (c' := c') (l := lv []) (kp := []) (p := p) gc hw hu
  have stat : ∀ {acc : Array Value} {cc : Nat} {H' : Hp}, (∀ b ∈ fp, H' b = none) → ∀ b ∈ fp, FpOk X ((S, lstObj acc cc) :: ip) H' b := fun {acc cc H'} hn b hb => by
    obtain ⟨_, f1, f2', f3, f4, f5⟩ := f2 b hb
    refine ⟨hn b hb, f1, f2', f3, f4, fun q hq => ?_⟩
    rcases List.mem_append.mp hq with hq | hq
    · exact f5 q (List.mem_append_left _ hq)
    · rcases List.mem_cons.mp hq with rfl | hq
      · exact f5 (S, lstObj acc0 c0) (List.mem_append_right _ List.mem_cons_self)
      · exact f5 q (List.mem_append_right _ (List.mem_cons_of_mem _ hq))
  have loop : ∀ (m i n : Nat) (ys : List V) (s₀ s : Shared) (σ : L2.St) (H : Hp), n + ys.length = sizeLine → W i m ys σ H → GI X S ip ys σ H s → tn i s.heap → (∀ b ∈ fp, H b = none) →
      Seg (model X.prog X.w) A R (GY X S) n s₀ (.forLoop tg (.ref it) body [] X.env) ((model X.prog X.w).den (.forLoop tg (.ref it) body [] X.env))
        (.ret (fun r => ((match r with | .ok f => (.pure f : Sem Flow) | .error e => .raise e).onRaise (cameBack X.env)).wrap K J gd lv) none (gd false) (lv []) c p [] :: fs) s := by
    intro m
    induction m using Nat.strongRecOn with
    | ind m ih =>
      intro i n ys s₀ s σ H hn w hI st fr
      have ee : ∀ (n : Nat) (s₀ : Shared) (x : Value) (s' : Shared), X.xe x s' → Seg (model X.prog X.w) A R (GY X S) n s₀ (.forLoop tg (.ref it) body [] X.env) (noted X.env x)
          (.ret (fun r => ((match r with | .ok f => (.pure f : Sem Flow) | .error e => .raise e).onRaise (cameBack X.env)).wrap K J gd lv) none (gd false) (lv []) c p [] :: fs) s' := fun n s₀ x s' hx => by
        refine seg_wrap ?_
        rw [(gl (.forLoop tg (.ref it) body [] X.env) rfl rfl _).over]
        refine wpAny_bind (wpAny_mono (hp x s' hx) (fun _ s'' hcb => wpAny_theTreesLotGoes ?_) fun y s'' hcb => ?_)
        · exact seg_leaf (.error x) (seg_cameBack gc k hcb)
        · exact seg_leaf (.error y) (seg_cameBack gc k hcb)
      refine seg_forLoop ?_
      rw [(gl (.forLoop tg (.ref it) body [] X.env) rfl rfl _).over]
      obtain ⟨acc, cc, r, I⟩ := hI
      rcases turn i m ys σ H w with ⟨stop, qn⟩ | ⟨go, N, hN, step⟩
      · refine wpAny_mono (T.done X rfl rfl rfl hc i _ s σ H X.xe I (stat fr) st stop) (fun r1 s4 ⟨hr, I4⟩ => ?_) fun x s' hx => ee n s₀ x s' hx
        subst hr
        exact seg_leaf (.ok .next) (k.ok n ys s₀ s4 .next hn ⟨σ, H, ⟨acc, cc, r, I4⟩, qn⟩)
      · refine wpAny_mono (T.item X rfl rfl rfl hc i _ s σ H X.xe I (stat fr) st go) (fun r1 s4 ⟨u, hr, h4⟩ => ?_) fun x s' hx => ee n s₀ x s' hx
        subst hr
        refine wpAny_mono h4 (fun _ s5 ⟨x, H5, I5, r5, y5, st5, fr5⟩ => ?_) fun x s' hx => ee n s₀ x s' hx
        have I5' := I5.pinned (stat fr5) (T.obj _ _ st5)
        rw [List.cons_append] at I5'
        refine wpAny_mono (hg.run _ s5 σ H5 x u _ I5' r5 (step x H5 y5)) (fun _ s6 ⟨σ6, H6, I6, q6⟩ => ?_) fun x s' hx => ee n s₀ x s' hx
        have gb := gl (.forLoop tg (.ref it) body [] X.env) rfl rfl (fun r => ((match r with | .ok f => (.pure f : Sem Flow) | .error e => .raise e).onRaise (cameBack X.env)).wrap K J gd lv)
        have gb2 : GC X S (ip ++ pinsAt fp s5.heap) A (.forLoop tg (.ref it) body [] X.env) (.ret (fun r => ((match r with | .ok f => (.pure f : Sem Flow) | .error e => .raise e).onRaise (cameBack X.env)).wrap K J gd lv) none (gd false) (lv []) c p [] :: fs) id :=
          ⟨gb.pn, fun q hq => by
            rcases List.mem_append.mp hq with hq | hq
            · exact gb.ip q hq
            · obtain ⟨hb', _⟩ := of_pinsAt hq
              exact fun z => (f2 q.1 hb').2.2.2.2.2 (S, lstObj acc0 c0) (List.mem_append_right _ List.mem_cons_self) z.symm, gb.apart, gb.over, gb.split, gb.guard, gb.gd⟩
        have again : ∀ {n' : Nat} {ys' : List V} {s₀' s7 : Shared} {σ7 : L2.St} {H7 : Hp}, n' + ys'.length = sizeLine → GI X S (ip ++ pinsAt fp s5.heap) ys' σ7 H7 s7 → N ys' σ7 H7 →
            Seg (model X.prog X.w) A R (GY X S) n' s₀' (.forLoop tg (.ref it) body [] X.env) ((model X.prog X.w).den (.forLoop tg (.ref it) body [] X.env))
              (.ret (fun r => ((match r with | .ok f => (.pure f : Sem Flow) | .error e => .raise e).onRaise (cameBack X.env)).wrap K J gd lv) none (gd false) (lv []) c p [] :: fs) s7 := fun {n' ys' s₀' s7 σ7 H7} hn' I7 n7 => by
          obtain ⟨m', hm, w7⟩ := hN ys' σ7 H7 n7
          obtain ⟨acc7, c7, r7, J7⟩ := id I7
          have pin7 : ∀ b ∈ fp, ∀ o, s5.heap.get? b = some o → s7.heap.get? b = some o ∧ H7 b = none := fun b hb o e => by
            have := J7.pin (b, o) (List.mem_append_right _ (List.mem_cons_of_mem _ (List.mem_append_right _ (mem_pinsAt hb e))))
            exact ⟨this.1, this.2.1⟩
          refine ih m' hm (i + 1) n' ys' s₀' s7 σ7 H7 hn' w7 (gi_unpinned I7) (T.keep _ _ _ st5 fun b hb o e => (pin7 b hb o e).1) fun b hb => ?_
          obtain ⟨o, e, _⟩ := T.obj _ _ st5 b hb
          exact (pin7 b hb o e).2
        refine hb.run A S (ip ++ pinsAt fp s5.heap) R n ys s₀ _ _ _ _ id id s6 σ6 H6 { D with nx := N, ct := N, bk := D.nx } gb2 hn ⟨fun n' ys' s₀' s7 f hn' hs7 => ?_, fun n' s₀' x s7 hx => ee n' s₀' x s7 hx⟩ ⟨acc, cc, r, I6⟩ q6
        cases f with
        | next => obtain ⟨σ7, H7, I7, n7⟩ := hs7; exact seg_again rfl (again hn' I7 n7)
        | cont => obtain ⟨σ7, H7, I7, n7⟩ := hs7; exact seg_again rfl (again hn' I7 n7)
        | brk => obtain ⟨σ7, H7, I7, n7⟩ := hs7; exact seg_leaf (.ok .next) (k.ok n' ys' s₀' s7 .next hn' ⟨σ7, H7, (gi_unpinned I7), n7⟩)
        | ret v => obtain ⟨u7, σ7, H7, I7, r7, n7⟩ := hs7; exact seg_leaf (.ok (.ret v)) (k.ok n' ys' s₀' s7 (.ret v) hn' ⟨u7, σ7, H7, (gi_unpinned I7), r7, n7⟩)
  obtain ⟨acc, cc, r, I⟩ : GI X S ip ys σ H2 s2 := ⟨acc0, c0, r0, I2⟩
  exact loop m0 0 n ys s₀ s2 σ H2 hn w0 ⟨acc, cc, r, I⟩ st2 fun b hb => (f2 b hb).1
end
end DI

set_option Elab.async false
set_option linter.all false
set_option maxRecDepth 100000
set_option maxHeartbeats 4000000
/-! a generator def with a star: what its call makes -/
namespace DI
open PySem PySem.Spec PyProof.Rows L2 GenW
/-- made, not begun: it may be woken where nothing is being shown -/
def MadeG (P : Program) (w : World) (k : Nat) (outer : List PySem.Env) (H : Hp) (s : Shared) (Q : List V → Hp → Prop) (u : Value) (s' : Shared) : Prop :=
  ∃ (a : Addr) (g : Nat) (c : Code), u = .ref a ∧ s.heap.objs.size ≤ a ∧ a < s'.heap.objs.size ∧ s'.heap.IsGen a g ∧ s'.gens[g]? = some (.fresh c) ∧ s'.os = s.os ∧ AllBare s'.gens ∧ s'.heap.NoLimit ∧ (∀ b o, s.heap.get? b = some o → s'.heap.get? b = some o) ∧
    ∀ (A : Around) (S : Addr) (s2 : Shared), Rm k A → A.frames = some outer → s'.heap.objs.size ≤ S → (∀ b o, s'.heap.get? b = some o → s2.heap.get? b = some o) → (∃ c, s2.heap.get? S = some (lstObj #[] c)) → s2.os = s.os → AllBare s2.gens →
      Seg (model P w) A (REnd P w outer H s [] S a g Q E0) (YItem s S a g) sizeLine s2 c ((model P w).den c) [] s2
section
variable {P : Program} {w : World} {K : PySem.W.Frag} {mg : Str → Option Value} {base : Heap} {k : Nat} {f : Addr} {qual : Str} {body : List Stmt} {scope : Scope} {cdv : Value} {N ps : List Str}
/-- behind the binding -/
theorem gen_made (S : GScope N ps scope) {A : Around} {outer : List PySem.Env} {s : Shared} {H : Hp} {us : List Value} {vs : List V} {Q : List V → Hp → Prop} (hr : Rm (k + 1) A) (e0 : Env0 P w K mg base A outer s H) (hl : vs.length = ps.length) (r : Vals vs us)
    (hbody : ∀ (A : Around) (pn : List (Addr × Obj)), RmB k (A.deeper (envOfC qual scope s.heap.objs.size f cdv)) →
      ∃ t, GSs (gcxOf P w K mg base N qual scope f cdv A outer s H E0 pn) body t ∧ t { nx := fun ys _ H' => Q ys H', rt := fun ys v H' => v = .non ∧ Q ys H' } [] (L2.start N vs) H)
    {R : Result → Shared → Prop} {nm qn : Str} (hR : ∀ u s', MadeG P w (k + 1) outer H s Q u s' → R (.ok (.ret u)) s') {E : Value → Shared → Prop} :
    wpAny (model P w) A.in1 (newFunctionEnv scope mainGlobals [] (ps.zip us) (qual ++ ".<locals>.") (some f) cdv none builtinsNs)
      (fun env s₂ => s₂.heap.NoLimit ∧ R (.ok (.ret (.ref s₂.heap.objs.size)))
          { s₂ with gens := s₂.gens.push (.fresh (.func body env)), toks := s₂.toks + 1 + 1,
                    heap := s₂.heap.push { cls := .type "generator", data := .fields #[.int s₂.gens.size 0, .str nm s₂.toks, .str qn (s₂.toks + 1)] } }) E s := by
  have lim : s.heap.NoLimit := e0.mod.nolimit.keeps fun b o e => (e0.bs b o e).1
  have hkind : ∀ y ∈ ps.zip us, scope.names.lookup y.1 = some .local ∨ (scope.names.lookup y.1 = some .cell ∧ ((cellsFrom (s.heap.objs.size + 1) scope.names []).lookup y.1).isSome = true) := fun ⟨n, v⟩ hy => by
    rcases S.par n (List.of_mem_zip hy).1 with q | q
    · exact .inl q
    · exact .inr ⟨q, PySem.W.cellsFrom_some _ _ _ (.inl q)⟩
  refine wpAny_newFunctionEnv_cells S.kind hkind fun env he s1 x => ?_
  subst he
  have lim1 : s1.heap.NoLimit := lim.keeps x.toInCall.keep
  refine ⟨lim1, hR _ _ ?_⟩
  obtain ⟨h1, tk, es1, hk1⟩ := x.done
  have os1 : s1.os = s.os := by rw [es1]
  have gen1 : s1.gens = s.gens := by rw [es1]
  have lt1 : s.heap.objs.size < s1.heap.objs.size := x.toInCall.ns.lt
  have sz1 : s.heap.objs.size ≤ s1.heap.objs.size := Nat.le_of_lt lt1
  have kp1 : ∀ b o, s.heap.get? b = some o → s1.heap.get? b = some o := x.toInCall.keep
  have main : ∀ (go : Obj) (nm qn : Value) (tk2 : Nat), go.cls = .type "generator" → go.data = .fields #[.int s1.gens.size 0, nm, qn] → go.slots = #[] → (∀ h : Heap, (h.push go).get? h.objs.size = some go) →
      MadeG P w (k + 1) outer H s Q (.ref s1.heap.objs.size) { s1 with gens := s1.gens.push (.fresh (.func body (envOfC qual scope s.heap.objs.size f cdv))), toks := tk2, heap := s1.heap.push go } := by
    intro go nm qn tk2 hgc hgd0 hgs hgp
    have hgen : ∀ h : Heap, h.get? s1.heap.objs.size = some go → h.IsGen s1.heap.objs.size s1.gens.size := fun h e => ⟨go, nm, qn, e, hgc, hgd0, hgs⟩
    have hpushed : (s1.heap.push go).get? s1.heap.objs.size = some go := hgp _
    refine ⟨s1.heap.objs.size, s1.gens.size, _, rfl, sz1, ?_, hgen _ hpushed, Array.getElem?_push_size .., os1, AllBare.push (by rw [gen1]; exact e0.bare) rfl, lim1.keeps fun b o e => Heap.get?_push_of_some _ e, fun b o e => Heap.get?_push_of_some _ (kp1 b o e), ?_⟩
    · show _ < (s1.heap.push _).objs.size
      rw [Heap.size_push]; exact Nat.lt_succ_self _
    intro Aw Sx s2 hrw hfr hSx hk2 hSo hos hba
    have e0w : Env0 P w K mg base Aw outer s H := ⟨hfr, e0.mod, e0.bs, e0.bsz, e0.funs, e0.frf, e0.hok, e0.bare⟩
    obtain ⟨t, ht, hq⟩ := hbody Aw [(s1.heap.objs.size, go)] (hrw.deeper _)
    have I1 : Inv (gcxOf P w K mg base N qual scope f cdv Aw outer s H E0 []) [] (L2.start N vs) H s1 := inv_startG S hrw.hd e0w hl r x
    have kp2 : ∀ b o, s1.heap.get? b = some o → s2.heap.get? b = some o := fun b o e => hk2 b o (Heap.get?_push_of_some _ e)
    have I2 : Inv (gcxOf P w K mg base N qual scope f cdv Aw outer s H E0 []) [] (L2.start N vs) H s2 :=
      I1.call' (ch := []) (hos.trans os1.symm) (Un.kept kp2) (I1.hok.kept kp2) hba fun b z => by simp at z
    have hSz : s1.heap.objs.size < Sx := by
      have hSx' : (s1.heap.push go).objs.size ≤ Sx := hSx
      rw [Heap.size_push] at hSx'
      exact hSx'
    obtain ⟨cS, heS⟩ := hSo
    have hea : s2.heap.get? s1.heap.objs.size = some go := hk2 s1.heap.objs.size go hpushed
    have hgd : ∀ v, go.data ≠ .cell v := fun v q => by rw [hgd0] at q; cases q
    have young : ∀ b, s1.heap.objs.size ≤ b → H b = none ∧ b ≠ s.heap.objs.size ∧ b ∉ frs outer ∧ s.heap.objs.size ≤ b ∧ ∀ y c, (cellsFrom (s.heap.objs.size + 1) scope.names []).lookup y = some c → c ≠ b := fun b hb => by
      refine ⟨I1.hok.fresh hb, Nat.ne_of_gt (Nat.lt_of_lt_of_le lt1 hb), I1.nofs hb, Nat.le_trans sz1 hb, fun y c e z => ?_⟩
      obtain ⟨v, ob, ho, _⟩ := I1.cell y c e
      have := Heap.lt_size ho
      rw [z] at this
      exact absurd (Nat.lt_of_lt_of_le this hb) (Nat.lt_irrefl _)
    have hG : GI (gcxOf P w K mg base N qual scope f cdv Aw outer s H E0 [(s1.heap.objs.size, go)]) Sx [] [] (L2.start N vs) H s2 := by
      refine ⟨#[], cS, .nil, Inv.pinnedG I2 fun p hp => ?_⟩
      rcases List.mem_append.mp hp with z | z
      · rw [List.mem_singleton.mp z]
        obtain ⟨y1, y2, y3, _, _⟩ := young s1.heap.objs.size (Nat.le_refl _)
        exact ⟨hea, y1, y2, y3, hgd⟩
      · rw [List.mem_singleton.mp z]
        obtain ⟨y1, y2, y3, _, _⟩ := young Sx (Nat.le_of_lt hSz)
        exact ⟨heS, y1, y2, y3, fun v q => by cases q⟩
    have hAp : Apart (gcxOf P w K mg base N qual scope f cdv Aw outer s H E0 [(s1.heap.objs.size, go)]) Sx := by
      obtain ⟨_, y2, _, y4, y5⟩ := young Sx (Nat.le_of_lt hSz)
      exact ⟨y4, y2, y5⟩
    have hpn : ∀ p ∈ [(s1.heap.objs.size, go)], p.1 ≠ Sx := fun p hp => by
      rw [List.mem_singleton.mp hp]
      exact Nat.ne_of_lt hSz
    have pinned : ∀ {ip : List (Addr × Obj)} {ys : List V} {s' : Shared} {σ' : L2.St} {H' : Hp}, GI (gcxOf P w K mg base N qual scope f cdv Aw outer s H E0 [(s1.heap.objs.size, go)]) Sx ip ys σ' H' s' → s'.heap.IsGen s1.heap.objs.size s1.gens.size := fun {ip ys s' σ' H'} hI => by
      obtain ⟨acc, cc, _, J⟩ := hI
      exact hgen _ (J.pin (s1.heap.objs.size, go) (List.mem_append_left _ (List.mem_singleton.mpr rfl))).1
    refine seg_func ?_
    refine seg_imp (R := GR (gcxOf P w K mg base N qual scope f cdv Aw outer s H E0 [(s1.heap.objs.size, go)]) Sx (fun ys v H' => v = .non ∧ Q ys H') fun e s' => CX P w outer H s E0 e s' ∧ ∀ p ∈ [(s1.heap.objs.size, go)], s'.heap.get? p.1 = some p.2)
      (Y := GY (gcxOf P w K mg base N qual scope f cdv Aw outer s H E0 [(s1.heap.objs.size, go)]) Sx) (fun n s₀ r s1' hR => ?_) (fun n s₀ v s1' kap kap' hkk hY => ?_) sizeLine ?_
    · cases r with
      | error e =>
        obtain ⟨q1, q2⟩ := hR
        exact .inr ⟨e, rfl, q1, hgen _ (q2 (s1.heap.objs.size, go) (List.mem_singleton.mpr rfl))⟩
      | ok fl =>
        cases fl with
        | next => exact False.elim hR
        | brk => exact False.elim hR
        | cont => exact False.elim hR
        | ret u =>
          obtain ⟨ys, v, ip, σ', H', hn, hI, rv, ev, hQ⟩ := hR
          subst ev
          have eu : u = Value.none := rv
          subst eu
          obtain ⟨a1, _, _, acc, cc, ra, ea⟩ := hI.at
          obtain ⟨_, _, _, J⟩ := hI
          exact .inl ⟨.inl rfl, H', ys, acc, cc, J.os, J.bare, J.base, J.hok, a1, ea, ra, by omega, hQ⟩
    · obtain ⟨ys, xx, ip, σ', H', hn, h2, hI, h3⟩ := hY
      obtain ⟨_, _, _, acc, cc, ra, ea⟩ := hI.at
      have hg := pinned hI
      obtain ⟨_, _, _, J⟩ := hI
      have hsz : acc.size = ys.length := by
        have e1 := ra.length
        have e2 : acc.toList.length = acc.size := by simp
        omega
      exact ⟨J.os, J.bare, J.nolimit, hg, ⟨acc, cc, ea, by rw [hsz]; exact hn⟩, fun s' z => hkk _ _ (h3 s' z)⟩
    · refine ht.run Aw Sx [] _ sizeLine [] s2 _ [] _ _ id id s2 (L2.start N vs) H _ ⟨hpn, fun p hp => (by simp at hp), hAp, over_func, rfl, rfl, rfl⟩ (Nat.add_zero _) ⟨fun n ys s₀ s' fl hn hs => ?_, fun n s₀ e s' hx => ?_⟩ hG hq
      · cases fl with
        | next =>
          obtain ⟨σ', H', hI, hQ⟩ := hs
          exact seg_end (.ok (.ret .none)) ⟨ys, .non, [], σ', H', hn, hI, rfl, rfl, hQ⟩
        | brk => obtain ⟨_, _, _, q⟩ := hs; exact False.elim q
        | cont => obtain ⟨_, _, _, q⟩ := hs; exact False.elim q
        | ret u =>
          obtain ⟨v, σ', H', hI, rv, ev, hQ⟩ := hs
          exact seg_end (.ok (.ret u)) ⟨ys, v, [], σ', H', hn, hI, rv, ev, hQ⟩
      · refine seg_wrap ?_
        rw [over_func]
        refine wpAny_mono (show wpAny (model P w) (Aw.deeper (envOfC qual scope s.heap.objs.size f cdv)) (leaving (envOfC qual scope s.heap.objs.size f cdv) e) (fun _ s'' => CX P w outer H s E0 e s'' ∧ ∀ p ∈ [(s1.heap.objs.size, go)], s''.heap.get? p.1 = some p.2) (fun _ _ => False) s' from hx) (fun _ s'' q => ?_) fun _ s'' q => q.elim
        exact seg_end (.error e) q
  exact main _ _ _ _ rfl rfl rfl fun h => Heap.get?_push_size _ rfl
end
end DI

set_option Elab.async false
set_option linter.all false
set_option maxRecDepth 100000
set_option maxHeartbeats 4000000
/-! list(g) of what a generator def made -/
namespace DI
open PySem PySem.Spec PyProof.Rows L2 GenW
theorem call_listG {P : Program} {w : World} {outer : List PySem.Env} {H : Hp} {sc s : Shared} {Q : List V → Hp → Prop} {A : Around} {k : Nat} {u : Value} {Q' : Value → Shared → Prop} {E : Value → Shared → Prop}
    (hr : RmB k A) (hfr : A.frames = some outer) (h : MadeG P w k outer H sc Q u s)
    (hQ : ∀ S s' acc c H' ys, s.heap.objs.size ≤ S → s'.heap.get? S = some (lstObj acc c) → Vals ys acc.toList → ys.length ≤ sizeLine → s'.os = sc.os → AllBare s'.gens → Un (frs outer) [] H H' sc.heap s'.heap → HOk P w H' s'.heap → H' S = none → Q ys H' → Q' (.ref S) s') :
    wpAny (model P w) A (call (.type "list") [u]) Q' E s := by
  obtain ⟨a, g, c, rfl, ha1, ha2, hg, hgs, hos, hb, hl, hkp, wake⟩ := h
  have hSa : s.heap.objs.size ≠ a := Nat.ne_of_gt ha2
  have hcl : cStatics < s.heap.objs.size := let ⟨_, hn, _⟩ := hl; hn.lt
  have hSc : s.heap.objs.size ≠ cStatics := Nat.ne_of_gt hcl
  refine callType_codes (Q₁ := fun obj s₁ => obj = .ref s.heap.objs.size ∧ s₁ = { s with heap := s.heap.push { cls := .type "list", data := .seq #[] } }) F.called_list (F.typeCall_list_1 _) F.entry_list_init
    (code_list_new _ ⟨rfl, rfl⟩) fun obj s₁ h₁ => ?_
  obtain ⟨rfl, rfl⟩ := h₁
  have hS : (s.heap.push { cls := .type "list", data := .seq #[] }).get? s.heap.objs.size = some { cls := .type "list", data := .seq #[] } := Heap.get?_push_size _ rfl
  refine ⟨⟨_, hS, rfl⟩, F.args_list_init_2 _ _, ?_⟩
  show wpAny _ A.in1.in1 (do let old ← Builtin.List.listItems (.ref s.heap.objs.size); Builtin.List.listUpdate (.ref s.heap.objs.size) (fun _ => #[]); letGo old.toList.reverse; Builtin.List.listExtendWith (.ref s.heap.objs.size) (.ref a) .none) _ _ _
  refine wpAny_bind ?_
  unfold Builtin.List.listItems
  refine wpAny_bind (wpAny_seqItems hS rfl (wpAny_pure ?_))
  show wpAny _ A.in1.in1 (updateSeq s.heap.objs.size (fun _ => #[]) >>= fun _ => letGo (#[] : Array Value).toList.reverse >>= fun _ => Builtin.List.listExtendWith (.ref s.heap.objs.size) (.ref a) .none) _ _ _
  refine wpAny_bind (wpAny_updateSeq hS rfl ?_)
  have hS2 := Heap.get?_update_self (Obj.mapSeq (fun _ => (#[] : Array Value))) hS rfl
  refine wpAny_bind (wpAny_letGo ?_)
  unfold Builtin.List.listExtendWith
  have up : ∀ (h : Heap) (f : Obj → Obj), (∀ b o, s.heap.get? b = some o → h.get? b = some o) → ∀ b o, s.heap.get? b = some o → (h.update s.heap.objs.size f).get? b = some o := fun h f q b o e =>
    (Heap.get?_update_other _ _ (Ne.symm (Nat.ne_of_lt (Heap.lt_size e)))).trans (q b o e)
  have k1 : ∀ b o, s.heap.get? b = some o → (s.heap.push { cls := .type "list", data := .seq #[] }).get? b = some o := fun b o e => Heap.get?_push_of_some _ e
  have k2 := up _ (Obj.mapSeq (fun _ => (#[] : Array Value))) k1
  have gty : ∀ {h : Heap}, (∀ b o, s.heap.get? b = some o → h.get? b = some o) → h.IsGen a g := fun {h} q => hg.keeps q
  refine wpAny_bind (wpAny_typeOf (Heap.IsGen.typeIs (s := { s with heap := _ }) (gty k2)) ?_)
  have h1 : Builtin.List.listSameRef (.ref s.heap.objs.size) (.ref a) = false := by simp [Builtin.List.listSameRef, hSa]
  have h2 : (Value.type "generator" == Value.type "list") = false := by decide
  have h3 : (Value.type "generator" == Value.type "tuple") = false := by decide
  simp only [h1, h2, h3, Bool.or_false, Bool.false_eq_true, if_false]
  refine wpAny_bind (wpAny_pyIter_gen (s := { s with heap := _ }) (gty k2) ?_)
  refine wpAny_bind (wpAny_holding ?_)
  unfold Builtin.List.listLengthHint
  refine wpAny_bind (wpAny_specialOf (Heap.IsGen.typeIs (s := { s with heap := _ }) (gty k2)) F.gen_no_len ?_)
  show wpAny _ A.in1.in1 (specialOf (Value.ref a) (Str.ofString "__length_hint__") >>= _) _ _ _
  refine wpAny_bind (wpAny_specialOf (Heap.IsGen.typeIs (s := { s with heap := _ }) (gty k2)) F.gen_no_hint ?_)
  refine wpAny_pure ?_
  show wpAny _ A.in1.in1 (rule "list.extend.makes-room" >>= fun _ => Builtin.List.listTouch (.ref s.heap.objs.size) >>= fun _ =>
    again (.builtin "list.extend.loop" ⟨[.ref s.heap.objs.size, .ref a, .none], []⟩)) _ _ _
  refine wpAny_bind (wpAny_rule ?_)
  refine wpAny_bind ?_
  show wpAny _ A.in1.in1 (updateSeq s.heap.objs.size (·.push .none) >>= fun _ => updateSeq s.heap.objs.size (·.pop)) _ _ _
  refine wpAny_bind (wpAny_updateSeq hS2 rfl ?_)
  have hS3 := Heap.get?_update_self (Obj.mapSeq (·.push Value.none)) hS2 rfl
  refine wpAny_updateSeq (hz := by seq_fits) hS3 rfl ?_
  have hS4 := Heap.get?_update_self (Obj.mapSeq (·.pop)) hS3 rfl
  have k4 := up _ (Obj.mapSeq (·.pop)) (up _ (Obj.mapSeq (·.push Value.none)) k2)
  refine wpAny_pure ⟨plainId_quiet F.plain_extend_loop _, ?_⟩
  refine drain (P := P) (w := w) (outer := outer) (H := H) (sc := sc) (ex := []) (Q := Q) (EX := E0) (A := A.in1) (g := g) hr.hd (by have := hr.dp; show A.depth < _; omega) hSa hSc
    (fun s' acc c H' ys q1 q2 q3 q4 q5 q6 q7 q8 q9 => ⟨rfl, hQ _ s' acc c H' ys (Nat.le_refl _) q1 q2 q3 q4 q5 q6 q7 q8 q9⟩) (fun e s' hc => ?_)
    sizeLine _ (gty k4) (hl.keeps k4) ⟨_, hgs, rfl, ?_⟩
  · obtain ⟨_, _, _, _, _, _, _, _, _, _, _, _, z⟩ := hc
    exact False.elim z
  refine wake _ _ _ ⟨hr.gd, hr.hd, ?_, ?_⟩ hfr (Nat.le_refl _) k4 ⟨_, hS4⟩ hos (allBare_setGen (s := { s with heap := _ }) hb rfl)
  · have := hr.dp
    show A.depth + 6 * k + 5 < _
    omega
  · have := hr.un
    show A.units + 1 + 1 + 1 + 32 * k + 300 < _
    omega
end DI

set_option Elab.async false
set_option linter.all false
set_option maxRecDepth 100000
set_option maxHeartbeats 4000000
/-! list(f(a, .., *c)), f a generator def -/
namespace DI
open PySem PySem.Spec PyProof.Rows L2 GenW
/-- what a generator def keeps of its promise -/
def FnGn (P : Program) (w : World) (K : PySem.W.Frag) (mg : Str → Option Value) (base : Heap) (k : Nat) (f : Addr) (sp : List V → Hp → (List V → Hp → Prop) → Prop) : Prop :=
  ∀ (A : Around) (stk : List PySem.Env) (s : Shared) (H : Hp) (args : List Value) (ws : List V) (Q : List V → Hp → Prop), Rm k A → Env0 P w K mg base A stk s H → Vals ws args → sp ws H Q →
    codeAny (model P w) A (.call (.ref f) ⟨args, []⟩) (fun r s' => ∃ u, r = .ok (.ret u) ∧ ∃ (H1 : Hp) (sc : Shared), sc.os = s.os ∧ AllBare sc.gens ∧ Un (frs stk) [] H H1 s.heap sc.heap ∧ HOk P w H1 sc.heap ∧ MadeG P w k stk H1 sc Q u s') s
def spG (K : Kg) (C : Calls) (f : Nat) : List V → Hp → (List V → Hp → Prop) → Prop := fun vs H Q => ∃ F rs ds st, StOk K F rs H st ∧ Iss K F rs ds vs ∧ ∃ ys st', C f ds st = .ok (.lst ys) st' ∧ ∀ us F' rs' H', Step F rs H F' rs' H' → StOk K F' rs' H' st' → Iss K F' rs' ys us → Q us H'
/-- the arguments, the starred one last -/
def starR (P : Calls) (S : Env) (es : IEs) (c : IE) (st : Store) : R (List D) := (evs P S es st).bind fun l st => (ev P S c st).bind fun d st => match d with
  | .tup xs => .ok (l ++ xs) st
  | _ => .no
def tLS (T : Rd') (es : IEs) (c : IE) : TA := fun σ H Q => ∃ F rs S st, EnvOk T.K F rs H T.H0 T.G S σ ∧ StOk T.K F rs H st ∧ Fin T.K (relL T.K) F rs H (starR T.P S es c st) Q fun c dx H' => T.W c dx σ H'
theorem bind_assoc {A B C : Type} (x : R A) (f : A → Store → R B) (g : B → Store → R C) : (x.bind f).bind g = x.bind fun a st => (f a st).bind g := by cases x <;> rfl
section
variable {X : Cx} {T : Rd'} {a c : Expr} {pos p p2 pos2 q0 : Pos} {ia ic : IE} {k f : Nat} {x : Str} {es : List Expr} {ies : IEs}
theorem la_starN (hs : starEach [.Starred c q0] X.env = (true, eval c X.env) :: starEach [] X.env) (hc : PE X c (tE T (relK T.K) ic)) : PA X [.Starred c q0] (tLS T .nil ic) := by
  refine PA.imp (StX.pa_star hc pa_nil hs) fun σ H Q ⟨F, rs, S, st, ea, sa, fa⟩ => ?_
  unfold starR at fa
  rw [evs] at fa
  have fa : Fin T.K (relL T.K) F rs H ((ev T.P S ic st).bind fun d st => match d with
    | .tup xs => .ok ([] ++ xs) st
    | _ => .no) Q _ := fa
  refine ⟨F, rs, S, st, ea, sa, fa.bind Up.l fun d st1 v F1 rs1 H1 s1 S1 q1 f1 => ?_⟩
  cases d with
  | tup xs =>
    obtain ⟨p, vs, rfl, hp, i⟩ := q1
    refine ⟨p, vs, rfl, .inl (SqT.of (S1.sm _ _ hp)), ?_⟩
    show Q (vs ++ []) H1
    rw [List.append_nil]
    exact f1 vs F1 rs1 H1 Step.refl S1 i
  | _ => exact f1.elim
theorem la_starC (hs : starEach (a :: es) X.env = (false, eval a X.env) :: starEach es X.env) (ha : PE X a (tE T (relK T.K) ia)) (hr : PA X es (tLS T ies ic)) : PA X (a :: es) (tLS T (.cons ia ies) ic) := by
  refine PA.imp (pa_cons ha hr hs) fun σ H Q ⟨F, rs, S, st, ea, sa, fa⟩ => ?_
  unfold starR at fa
  rw [evs, bind_assoc] at fa
  refine ⟨F, rs, S, st, ea, sa, fa.bind Up.l fun d st1 v F1 rs1 H1 s1 S1 q1 f1 => ?_⟩
  have e : (((evs T.P S ies st1).bind fun l st => .ok (d :: l) st).bind fun l st => (ev T.P S ic st).bind fun d st => match d with
      | .tup xs => (.ok (l ++ xs) st : R (List D))
      | _ => .no) = (starR T.P S ies ic st1).bind fun l st => .ok (d :: l) st := by
    unfold starR
    rw [bind_assoc, bind_assoc]
    congr 1
    funext l st
    show ((ev T.P S ic st).bind _) = _
    rw [bind_assoc]
    congr 1
    funext z st
    cases z <;> rfl
  rw [e] at f1
  refine ⟨F1, rs1, S, st1, ea.step s1, S1, f1.bind Up.l fun y st2 u F2 rs2 H2 s2 S2 q2 f2 => ?_⟩
  exact f2.val S2 ⟨v, u, rfl, Is.mono s2.sF s2.pre _ _ q1, q2⟩
theorem lx_gls (hW : T.W = fun _ _ _ _ => False) (F : FnGn X.prog X.w X.K X.mg X.base k (T.K.fa f) (spG T.K T.P f)) (hr : RmB k X.A) (hk : PySem.W.keepIn X.K (.ref (T.K.fa f)) = true) (hg : Gl X x) (hm : X.mg x = some (.ref (T.K.fa f)))
    (hd : (x == ("__debug__" : Str)) = false) (ha : PA X (a :: es) (tLS T ies ic)) (he2 : starEach (a :: es) X.env = (false, eval a X.env) :: starEach es X.env) (hst : (backTo pos2 (starEach es X.env)).any (·.1) = true)
    (hgl : Gl X "list") (hml : X.mg "list" = none) (he : starEach [.Call (.Name x p2) (a :: es) [] pos2] X.env = (false, eval (.Call (.Name x p2) (a :: es) [] pos2) X.env) :: starEach [] X.env) :
    PE X (.Call (.Name "list" p) [.Call (.Name x p2) (a :: es) [] pos2] [] pos) (tE T (relF T.K) (.gls f x ies ic)) := by
  refine ⟨fun pins s σ H Q I ⟨F0, rs, S, st, ea, sa, fa⟩ => ?_⟩
  have key : tLS T ies ic σ H fun vs H1 => spG T.K T.P f vs H1 fun us H2 => ∀ p, H2 p = none → Q (.ref p) (upd H2 p (.lst us)) := by
    have e : ev T.P S (.gls f x ies ic) st = (starR T.P S ies ic st).bind fun l st => (T.P f l st).calm.bind fun z st => match z with
          | .lst ys => (.ok (.lst ys) st : R D)
          | _ => .no := by
      rw [ev]
      unfold starR
      rw [bind_assoc]
      congr 1
      funext l st
      rw [bind_assoc]
      congr 1
      funext d st
      cases d <;> rfl
    rw [e] at fa
    refine ⟨F0, rs, S, st, ea, sa, fa.bind Up.f fun ds st1 vs F1 rs1 H1 s1 S1 q1 f1 => ⟨F1, rs1, ds, st1, S1, q1, ?_⟩⟩
    cases hp : T.P f ds st1 with
    | err e st2 => rw [hp] at f1; exact f1.elim
    | no => rw [hp] at f1; exact f1.elim
    | ok z st2 =>
      rw [hp] at f1
      cases z with
      | lst ys =>
        refine ⟨ys, st2, rfl, fun us F' rs' H' s' S' i => ?_⟩
        exact (Fin.step Up.f (show Fin T.K (relF T.K) F1 rs1 H1 (.ok (.lst ys) st2) Q _ from f1) s').gives.lst S' i
      | _ => exact f1.elim
  refine wpAny_Call_Name_kw (ld_blt I hgl hml PyProof.Rows.boot_list ?_ (by decide) (by decide))
  refine PyProof.Rows.callWith_type1 ?_ he rfl
  rw [he]
  show wpAny _ _ (spliced ((false, eval (.Call (.Name x p2) (a :: es) [] pos2) X.env) :: backTo pos (starEach [] X.env))) _ _ s
  have inner : wpAny (model X.prog X.w) X.A (eval (.Call (.Name x p2) (a :: es) [] pos2) X.env) (fun u s1 => ∃ H1 sc, L2.Inv X pins σ H1 sc ∧ MadeG X.prog X.w k X.stack H1 sc (fun us H2 => ∀ p, H2 p = none → Q (.ref p) (upd H2 p (.lst us))) u s1) X.xe s := by
    refine wpAny_Call_Name_kw (ld_glob I hg hm ?_ hd)
    refine PySem.W.callWith_S2 (h₀ := X.base) I.ok.mod.kin hk (thn (ha.run pos2 pins s σ H _ I key) fun us s1 ⟨vs, H1, I1, r1, q⟩ => ⟨I1.kIn, ?_⟩) he2 hst
    refine wpAny_call (codeAny_mono (F X.A X.stack s1 H1 us vs _ hr.rm I1.env0 r1 q) fun r s' ⟨u, er, H2, sc, os, bare, un, hok, M⟩ => ?_)
    subst er
    exact ⟨H2, sc, I1.call' (ch := []) os un hok bare (fun b hb => by simp at hb), M⟩
  refine Calls.spliced_cons (thn inner fun u s1 ⟨H1, sc, I1, hG⟩ => Calls.spliced_nil ?_)
  have hsz : sc.heap.objs.size ≤ s1.heap.objs.size := by
    obtain ⟨a, g, c, _, h1, h2, _⟩ := hG
    exact Nat.le_trans h1 (Nat.le_of_lt h2)
  exact call_listG hr I1.ok.frames hG fun S s' acc c H' ys q0 q1 q2 hl q3 q4 q5 q6 q7 q8 =>
    ⟨.ref S, upd H' S (.lst ys), L2.Inv.drained I1 (Nat.le_trans hsz q0) hl q1 q2 ExOk.nil q3 q4 q5 q6 q7, rfl, q8 S q7⟩
end
end DI

set_option Elab.async false
set_option linter.all false
set_option maxRecDepth 100000
set_option maxHeartbeats 4000000
namespace DI
open PySem PySem.Spec PyProof.Rows L2
/-! ### a thing that was made since is changed -/
section
variable {K : Kg} {F F' H H' : Hp} {rs rs' : List Addr} {st : Store} {p : Addr} {o u : HO}
theorem Step.over (s : Step F rs H F' rs' H') (hp : H p = none) : Step F rs H F' rs' (upd H' p o) := by
  refine ⟨s.sF, s.nF, s.pr, fun a x na h => ?_, fun a x h => ?_⟩
  · rw [upd_ne (ne_of_none h hp)]; exact s.kp a x na h
  · rw [upd_ne (ne_of_none h hp)]; exact s.al a x h
theorem StOk.over (S : StOk K F rs H st) (hF : F p = none) (hr : p ∉ rs) : StOk K F rs (upd H p o) st := by
  refine ⟨fun a x h => ?_, S.len, S.nd, S.out, fun n c e => ?_⟩
  · rw [upd_ne (ne_of_none h hF)]; exact S.sm _ _ h
  · obtain ⟨a, x, h1, h2, h3⟩ := S.cell n c e
    refine ⟨a, x, h1, ?_, h3⟩
    rw [upd_ne (fun z => hr (by rw [← z]; exact List.mem_of_getElem? h1))]
    exact h2
/-- a thing of ours through a step -/
theorem Step.ours (s : Step F rs H F' rs' H') (h1 : H p = some o) (h2 : F p = none) (h3 : p ∉ rs) : H' p = some o ∧ F' p = none ∧ p ∉ rs' := by
  refine ⟨s.kp p o h3 h1, ?_, fun z => ?_⟩
  · cases q : F' p with
    | none => rfl
    | some x => have := s.nF p x q h2; rw [this] at h1; cases h1
  · obtain ⟨m, e, f⟩ := s.pr
    rw [e] at z
    rcases List.mem_append.mp z with z | z
    · exact h3 z
    · rw [f p z] at h1; cases h1
theorem StOk.notIn (S : StOk K F rs H st) (hp : H p = none) : p ∉ rs := fun z => by
  obtain ⟨o, h⟩ := S.used z
  rw [hp] at h; cases h
end
/-! ### dict displays -/
/-- the pairs of a display by the tree -/
def PDs (X : Cx) (T : Rd') (pos : Pos) (keys : List (Option Expr)) (vals : List Expr) (ks : List Str) (iv : IEs) : Prop :=
  keys.all (·.isSome) = true ∧ keys.length = vals.length ∧ keys.length = ks.length ∧
  ∃ trs, PPs X pos keys vals trs ∧ ∀ σ H F rs S st (Q : List (V × V) → Hp → Prop), EnvOk T.K F rs H T.H0 T.G S σ → StOk T.K F rs H st →
    Fin T.K (relL T.K) F rs H (evs T.P S iv st) (fun ws H' => Q ((ks.map V.str).zip ws) H' ∧ ws.length = ks.length) (fun c dx H' => T.W c dx σ H') → tPairs trs σ H Q
section
variable {X : Cx} {T : Rd'} {a b c : Expr} {pos p p2 q0 : Pos} {ia ib ic : IE}
theorem pds_nil : PDs X T pos [] [] [] .nil := ⟨rfl, rfl, rfl, [], pps_nil, fun σ H F rs S st Q ea sa fa => by
  rw [evs] at fa
  exact (fa.val sa (show Iss T.K F rs [] [] from rfl)).1⟩
theorem pds_cons {k : Str} {j : Nat} {p1 : Pos} {keys : List (Option Expr)} {vals : List Expr} {ks : List Str} {iv : IEs} (ha : PE X a (tE T (relK T.K) ia)) (h : PDs X T pos keys vals ks iv) :
    PDs X T pos (some (.Constant (.str k) j p1) :: keys) (a :: vals) (k :: ks) (.cons ia iv) := by
  obtain ⟨h1, h2, h3, trs, h4, h5⟩ := h
  refine ⟨by simpa using h1, by simpa using h2, by simpa using h3, (tC (.str k), tE T (relK T.K) ia) :: trs, pps_cons pe_str ha h4, fun σ H F rs S st Q ea sa fa => ?_⟩
  rw [evs] at fa
  show tE T (relK T.K) ia σ H fun y H2 => tPairs trs σ H2 fun ps H3 => Q ((V.str k, y) :: ps) H3
  refine ⟨F, rs, S, st, ea, sa, fa.bind Up.l fun x st1 v F1 rs1 H1 s1 S1 q1 f1 => ?_⟩
  refine h5 σ H1 F1 rs1 S st1 _ (ea.step s1) S1 (f1.bind Up.l fun l st2 ws F2 rs2 H2 s2 S2 q2 f2 => ?_)
  obtain ⟨z, hl⟩ := f2.val S2 (show Iss T.K F2 rs2 (x :: l) (v :: ws) from ⟨v, ws, rfl, Is.mono s2.sF s2.pre _ _ q1, q2⟩)
  exact ⟨z, by simpa using hl⟩
theorem merge_new : ∀ (more kvs : List (Key × V)), (∀ p ∈ more, ∀ q ∈ kvs, p.1 ≠ q.1) → (more.map (·.1)).Nodup → mergeK kvs more = kvs ++ more
  | [], kvs, _, _ => by simp [mergeK]
  | p :: r, kvs, h, hn => by
    have hp : ∀ (l : List (Key × V)), (∀ q ∈ l, p.1 ≠ q.1) → L2.putK l p.1 p.2 = l ++ [p] := by
      intro l hq
      unfold L2.putK
      rw [if_neg]
      intro z
      rw [List.any_eq_true] at z
      obtain ⟨q, hm, e⟩ := z
      exact hq q hm (of_decide_eq_true e).symm
    show mergeK (L2.putK kvs p.1 p.2) r = _
    rw [hp kvs (h p List.mem_cons_self), merge_new r (kvs ++ [p]) (fun x hx q hq => ?_) (List.nodup_cons.mp hn).2, List.append_assoc]
    · rfl
    · rcases List.mem_append.mp hq with hq | hq
      · exact h x (List.mem_cons_of_mem _ hx) q hq
      · rw [List.mem_singleton.mp hq]
        exact fun z => (List.nodup_cons.mp hn).1 (List.mem_map.mpr ⟨x, hx, z⟩)
theorem lx_dsp {keys : List (Option Expr)} {vals : List Expr} {ks : List Str} {iv : IEs} (h : PDs X T pos keys vals ks iv) (h0 : keys ≠ []) (h15 : keys.length ≤ 15) : PE X (.Dict keys vals pos) (tE T (relF T.K) (.dsp ks iv)) := by
  obtain ⟨h1, h2, h3, trs, h4, h5⟩ := h
  refine PE.imp (pe_disp h4 h1 h2 h0 h15) fun σ H Q ⟨F, rs, S, st, ea, sa, fa⟩ p hp => ?_
  rw [ev] at fa
  have l0 : Step F rs H F rs (upd H p (.dK [])) := Step.lay hp
  have hF := sa.freeF hp
  have hr := sa.notIn hp
  have fa1 := fa
  refine h5 σ _ F rs S st _ (ea.step l0) (sa.lay hp) ?_
  -- the values are made behind the new dict
  cases hx : evs T.P S iv st with
  | no => rw [hx] at fa; exact fa.elim
  | err e st1 =>
    rw [hx] at fa
    exact fun c dx F1 rs1 H1 s1 S1 q1 => fa c dx F1 rs1 H1 (l0.trans s1) S1 q1
  | ok l st1 =>
    rw [hx] at fa
    intro ws F1 rs1 H1 s1 S1 q1
    change Fin T.K (relF T.K) F rs H (if ks.Nodup ∧ l.length = ks.length then R.ok (D.dic false (ks.map fun s => .inl (.inr s)) l) st1 else .no) Q _ at fa
    split at fa
    · rename_i g
      have ewl : ws.length = ks.length := by rw [← Iss.length q1]; exact g.2
      obtain ⟨o1, o2, o3⟩ := s1.ours (upd_same (H := H) (a := p)) hF hr
      refine ⟨⟨o1, (ks.map Sum.inr).zip ws, ?_, ?_, ?_⟩, ewl⟩
      · rw [List.zip_map_left, List.zip_map_left, List.map_map]
        rfl
      · rw [List.length_zip, List.length_map, ewl, Nat.min_self, ← h3]
        exact h15
      · have em : mergeK [] ((ks.map Sum.inr).zip ws) = (ks.map Sum.inr).zip ws := by
          rw [merge_new _ [] (by simp) ?_]
          · rfl
          · rw [List.map_fst_zip (by simp [ewl])]
            exact List.Pairwise.map _ (fun a b e z => e (Sum.inr.inj z)) g.1
        rw [em]
        refine fa (.ref p) F1 rs1 _ ((l0.trans s1).over hp) (S1.over o2 o3) (.inr ⟨p, rfl, hp, _, upd_same, o2, o3, ws, ?_, q1⟩)
        unfold DcOk
        rw [if_neg Bool.false_ne_true]
        exact ⟨ks.map Sum.inr, by rw [List.map_map]; rfl, by simp [ewl], rfl⟩
    · exact fa.elim
end
end DI

set_option Elab.async false
set_option linter.all false
set_option maxRecDepth 100000
set_option maxHeartbeats 4000000
/-! x, y = a list -/
namespace DI
open PySem PySem.Spec PyProof.Rows L2
section
variable {prog : Program} {w : World} {A : Around} {E : Value → Shared → Prop} {s : Shared}
theorem draw_listU {it l : Addr} {items : Array Value} (hne : l ≠ it) : ∀ (n i : Nat) (s : Shared) (Q : List Value → Shared → Prop), s.heap.IsListIter it l i → s.heap.IsList l items → i + n ≤ items.size →
    (∀ h' : Heap, h'.IsListIter it l (i + n) → Heap.SameBut it s.heap h' → Q ((items.toList.drop i).take n) { s with heap := h' }) → wpAny (model prog w) A (draw (.ref it) n) Q E s
  | 0, i, s, Q, hit, _, _, hQ => by
    show wpAny _ _ (pure []) Q E s
    exact wpAny_pure (by simpa using hQ s.heap hit (Heap.SameBut.refl ..))
  | n + 1, i, s, Q, hit, ht, hle, hQ => by
    have hlt : i < items.size := by omega
    show wpAny _ _ (pyNext (.ref it) >>= _) Q E s
    refine wpAny_bind (wpAny_pyNext_list_item hit ht (x := items[i]) (by simp [hlt]) fun h₁ hit₁ hs₁ => ?_)
    refine wpAny_bind (wpAny_holding (draw_listU hne n (i + 1) _ _ hit₁ (ht.extBut hs₁.extBut hne) (by omega) fun h₂ hit₂ hs₂ => wpAny_pure ?_))
    have hd : items.toList.drop i = items[i] :: items.toList.drop (i + 1) := by simp [List.drop_eq_getElem_cons, hlt]
    have := hQ h₂ (by rw [show i + (n + 1) = i + 1 + n by omega]; exact hit₂) (hs₁.trans hs₂)
    rw [hd, List.take_succ_cons] at this
    exact this
theorem unpackItems_listU {t : Addr} {items : Array Value} {Q : List Value → Shared → Prop} (hh : A.handled = none) (ht : s.heap.IsList t items)
    (hQ : ∀ h', Heap.ExtBut s.heap.objs.size s.heap h' → Q items.toList { s with heap := h' }) : wpAny (model prog w) A (unpackItems (.ref t) items.size none) Q E s := by
  have hlt : t ≠ s.heap.objs.size := by obtain ⟨o, ho, _⟩ := ht; exact Nat.ne_of_lt (Heap.lt_size ho)
  unfold unpackItems
  refine wpAny_bind ?_
  · unfold notIterableAtAll
    refine wpAny_bind (wpAny_specialOf ht.typeIs PySem.slot_list_iter.lookup ?_)
    refine wpAny_pure ?_
    simp only [Bool.false_eq_true, if_false]
    refine wpAny_bind (wpAny_holding (wpAny_pyIter_list ht ?_))
    refine wpAny_bind (wpAny_holding (draw_listU hlt items.size 0 _ _ ⟨_, Heap.get?_push_size _ rfl, rfl, rfl⟩ (ht.push _) (by omega) fun h₁ hit₁ hs₁ => ?_))
    have hall : List.take items.size (List.drop 0 items.toList) = items.toList := by
      rw [List.drop_zero]; exact List.take_of_length_le (by simp)
    rw [hall]
    rw [if_neg (by simp)]
    have ht₁ : h₁.IsList t items := (ht.push _).extBut hs₁.extBut hlt
    refine wpAny_bind (wpAny_holding (wpAny_pyNext_list_end hh hit₁ ht₁ (by simp) fun h₂ he₂ => ?_))
    simp only [Option.isSome_none, Bool.false_eq_true, if_false]
    refine wpAny_pure (hQ h₂ fun b o hb e => he₂ b o hb (hs₁.extBut b o hb (Heap.get?_push_of_some _ e)))
theorem assign_Tuple_listU {env : PySem.Env} {elts : List Expr} {x1} {pos : Pos} {t : Addr} {items : Array Value} {Q : Unit → Shared → Prop} (hh : A.handled = none) (ht : s.heap.IsList t items)
    (hn : (assignEach elts env).length = items.size) (hstar : (assignEach elts env).findIdx? (·.1) = none)
    (h : ∀ h', Heap.ExtBut s.heap.objs.size s.heap h' → wpAny (model prog w) A (assignInOrder ((assignEach elts env).map (·.2)) items.toList) Q E { s with heap := h' }) :
    wpAny (model prog w) A (assign (.Tuple elts x1 pos) env (.ref t)) Q E s := by
  rw [PyProof.Rows.assign_Tuple]
  refine wpAny_bind (wpAny_standAt ?_)
  unfold unpack
  rw [hn, hstar]
  exact wpAny_bind (wpAny_holding (unpackItems_listU hh ht h))
end
section
variable {X : Cx} {pos : Pos}
theorem pg_tupB {es : List Expr} {k : Nat} {t : TGs} {n : Nat} (hc : X.calm = true) (h : PGs X es t)
    (hn : (assignEach es X.env).length = n) (hst : (assignEach es X.env).findIdx? (·.1) = none) :
    PG X (.Tuple es k pos) (fun v σ H Q => ∃ a xs, v = .ref a ∧ (SqT X.K H a xs ∨ SqL X.K H a xs) ∧ xs.length = n ∧ t xs σ H Q) := by
  refine ⟨fun pins s σ H v u Q I r hw => ?_⟩
  obtain ⟨a, xs, e1, hq, hl, hw⟩ := hw
  subst e1
  cases r
  rcases hq with hq | hq
  · obtain ⟨its, rv, ht, hz⟩ := I.tuple hq
    refine assign_Tuple_tuple (I.ok.hd hc) ht (by simp [hn, ← hl, rv.length]) hst fun h' hx => ?_
    have I1 : Inv X pins σ H { s with heap := h' } := I.kept (t' := s.toks) fun b o e => hx b o (Nat.ne_of_lt (Heap.lt_size e)) e
    exact h.run pins _ σ H xs _ Q I1 (by simpa using rv) hw
  · obtain ⟨its, rv, ⟨o, n1, e1, e2, _, e3⟩, hz⟩ := I.list hq
    refine assign_Tuple_listU (I.ok.hd hc) ⟨o, e1, e2, n1, e3⟩ (by simp [hn, ← hl, rv.length]) hst fun h' hx => ?_
    have I1 : Inv X pins σ H { s with heap := h' } := I.kept (t' := s.toks) fun b o e => hx b o (Nat.ne_of_lt (Heap.lt_size e)) e
    exact h.run pins _ σ H xs _ Q I1 (by simpa using rv) hw
end
end DI

set_option Elab.async false
set_option linter.all false
set_option maxRecDepth 100000
set_option maxHeartbeats 4000000
namespace DI
open PySem PySem.Spec PyProof.Rows L2
/-! ### targets: names, tuples of names -/
mutual
def namesT : IT → List Nat
  | .nam i => [i]
  | .tup ts => namesTs ts
  | .sub _ _ => []
  | .att _ _ => []
def namesTs : ITs → List Nat
  | .nil => []
  | .cons t ts => namesT t ++ namesTs ts
end
mutual
def pureT : IT → Bool
  | .nam _ => true
  | .tup ts => pureTs ts
  | .sub _ _ => false
  | .att _ _ => false
def pureTs : ITs → Bool
  | .nil => true
  | .cons t ts => pureT t && pureTs ts
end
def lenTs : ITs → Nat
  | .nil => 0
  | .cons _ ts => lenTs ts + 1
mutual
theorem pure_st {P : Calls} {S S2 : Env} {st st2 : Store} {d : D} : ∀ {t : IT}, pureT t = true → asg P t d S st = .ok S2 st2 → st2 = st
  | .nam i, _, h => by
    rw [asg] at h
    cases h
    rfl
  | .tup ts, hp, h => by
    by_cases hd : ∃ l, d = .lst l
    · obtain ⟨l, rfl⟩ := hd
      rw [asg] at h
      exact pures_st (by simpa [pureT] using hp) h
    · rw [asg] at h
      · split at h
        · exact pures_st (by simpa [pureT] using hp) h
        · cases h
        · cases h
      · exact fun l z => hd ⟨l, z⟩
  | .sub _ _, hp, _ => by simp [pureT] at hp
  | .att _ _, hp, _ => by simp [pureT] at hp
theorem pures_st {P : Calls} {S S2 : Env} {st st2 : Store} : ∀ {ts : ITs} {ds : List D}, pureTs ts = true → asgs P ts ds S st = .ok S2 st2 → st2 = st
  | .nil, [], _, h => by
    rw [asgs] at h
    cases h
    rfl
  | .nil, _ :: _, _, h => by
    rw [asgs] at h
    · cases h
    · intro _ z; cases z
    · intro a b c d z; cases z
  | .cons t ts, [], _, h => by
    rw [asgs] at h
    · cases h
    · intro z; cases z
    · intro a b c d z q; cases q
  | .cons t ts, d :: l, hp, h => by
    rw [asgs] at h
    have hp : pureT t = true ∧ pureTs ts = true := by simpa [pureTs] using hp
    cases h1 : asg P t d S st with
    | ok S1 st1 =>
      rw [h1] at h
      have e1 := pure_st hp.1 h1
      have e2 := pures_st hp.2 (show asgs P ts l S1 st1 = .ok S2 st2 from h)
      rw [e2, e1]
    | err _ _ => rw [h1] at h; cases h
    | no => rw [h1] at h; cases h
end
theorem asgs_len {P : Calls} : ∀ {ts : ITs} {ds : List D} {S S2 : Env} {st st2 : Store}, asgs P ts ds S st = .ok S2 st2 → ds.length = lenTs ts
  | .nil, [], _, _, _, _, _ => rfl
  | .nil, _ :: _, _, _, _, _, h => by
    rw [asgs] at h
    · cases h
    · intro _ z; cases z
    · intro a b c d z; cases z
  | .cons t ts, [], _, _, _, _, h => by
    rw [asgs] at h
    · cases h
    · intro z; cases z
    · intro a b c d z q; cases q
  | .cons t ts, d :: l, S, S2, st, st2, h => by
    rw [asgs] at h
    cases h1 : asg P t d S st with
    | ok S1 st1 =>
      rw [h1] at h
      have e := asgs_len (show asgs P ts l S1 st1 = .ok S2 st2 from h)
      simp [lenTs, e]
    | err _ _ => rw [h1] at h; cases h
    | no => rw [h1] at h; cases h
theorem EnvOk.set {K : Kg} {F H H0 : Hp} {rs : List Addr} {G : List Bool} {S : Env} {σ : L2.St} {i : Nat} {d : D} {v : V} (e : EnvOk K F rs H H0 G S σ) (g : G.getD i false = false) (h : Is K F rs d v) :
    EnvOk K F rs H H0 G (S.set i (some d)) (σ.set i (some v)) := by
  refine ⟨by simp [e.len], fun j c hj => ?_, fun j k c c' u hjk gj gk hj hk uj uk => ?_⟩
  · by_cases hij : i = j
    · subst hij
      have hl : i < S.length := by
        have := (List.getElem?_eq_some_iff.mp hj).1
        simpa using this
      rw [List.getElem?_set_self hl] at hj
      cases hj
      refine ⟨v, List.getElem?_set_self (by rw [← e.len]; exact hl), ?_⟩
      rw [g, if_neg Bool.false_ne_true]
      exact h
    · rw [List.getElem?_set_ne hij] at hj ⊢
      exact e.loc j c hj
  · have nj : i ≠ j := fun z => by rw [← z, g] at gj; cases gj
    have nk : i ≠ k := fun z => by rw [← z, g] at gk; cases gk
    rw [List.getElem?_set_ne nj] at hj uj
    rw [List.getElem?_set_ne nk] at hk uk
    exact e.inj j k c c' u hjk gj gk hj hk uj uk
def tG (T : Rd') (t : IT) : TG := fun v σ H Q => ∃ F rs S st d S2, EnvOk T.K F rs H T.H0 T.G S σ ∧ StOk T.K F rs H st ∧ Is T.K F rs d v ∧ asg T.P t d S st = .ok S2 st ∧
  ∀ σ2, EnvOk T.K F rs H T.H0 T.G S2 σ2 → (∀ i, i ∉ namesT t → σ2[i]? = σ[i]?) → σ2.length = σ.length → Q σ2 H
def tGs (T : Rd') (ts : ITs) : TGs := fun vs σ H Q => ∃ F rs S st ds S2, EnvOk T.K F rs H T.H0 T.G S σ ∧ StOk T.K F rs H st ∧ Iss T.K F rs ds vs ∧ asgs T.P ts ds S st = .ok S2 st ∧
  ∀ σ2, EnvOk T.K F rs H T.H0 T.G S2 σ2 → (∀ i, i ∉ namesTs ts → σ2[i]? = σ[i]?) → σ2.length = σ.length → Q σ2 H
section
variable {X : Cx} {T : Rd'} {pos : Pos}
theorem PG.imp {e : Expr} {t t' : TG} (h : PG X e t) (hi : ∀ v σ H Q, t' v σ H Q → t v σ H Q) : PG X e t' := ⟨fun pins s σ H v u Q I r q => h.run pins s σ H v u Q I r (hi v σ H Q q)⟩
theorem PGs.imp {e : List Expr} {t t' : TGs} (h : PGs X e t) (hi : ∀ v σ H Q, t' v σ H Q → t v σ H Q) : PGs X e t' := ⟨fun pins s σ H v u Q I r q => h.run pins s σ H v u Q I r (hi v σ H Q q)⟩
theorem lg_nam {i : Nat} {x : Str} (hN : X.N.Nodup) (hi : X.N[i]? = some x) (hx : Loc X.env.scope x) (hf : X.fn x = true ∨ X.env.scope.names.lookup x = some .local) (g : T.G.getD i false = false) : PG X (.Name x pos) (tG T (.nam i)) := by
  refine PG.imp (pg_name hN hi hx hf) fun v σ H Q ⟨F, rs, S, st, d, S2, ea, sa, ia, e, k⟩ => ?_
  rw [asg] at e
  cases e
  refine k _ (ea.set g ia) (fun j hj => ?_) (by simp)
  simp only [namesT, List.mem_singleton] at hj
  exact List.getElem?_set_ne (fun z => hj z.symm)
theorem lgs_nil : PGs X [] (tGs T .nil) := by
  refine PGs.imp pgs_nil fun vs σ H Q ⟨F, rs, S, st, ds, S2, ea, sa, ia, e, k⟩ => ?_
  cases ds with
  | nil =>
    rw [asgs] at e
    cases e
    cases ia
    exact ⟨rfl, k σ ea (fun _ _ => rfl) rfl⟩
  | cons d l =>
    have z := asgs_len e
    simp [lenTs] at z
theorem lgs_cons {e : Expr} {es : List Expr} {t : IT} {ts : ITs} (hp : pureT t = true) (hs : (assignEach (e :: es) X.env).map (·.2) = assign e X.env :: (assignEach es X.env).map (·.2)) (h1 : PG X e (tG T t)) (h2 : PGs X es (tGs T ts)) : PGs X (e :: es) (tGs T (.cons t ts)) := by
  refine PGs.imp (pgs_cons h1 h2 hs) fun vs σ H Q ⟨F, rs, S, st, ds, S2, ea, sa, ia, e, k⟩ => ?_
  cases ds with
  | nil =>
    have z := asgs_len e
    simp [lenTs] at z
  | cons d l =>
    obtain ⟨v, r, rfl, iv, ir⟩ := ia
    rw [asgs] at e
    cases q : asg T.P t d S st with
    | ok S1 st1 =>
      rw [q] at e
      have e1 := pure_st hp q
      subst e1
      refine ⟨v, r, rfl, F, rs, S, st1, d, S1, ea, sa, iv, q, fun σ1 ea1 f1 l1 => ?_⟩
      refine ⟨F, rs, S1, st1, l, S2, ea1, sa, ir, e, fun σ2 ea2 f2 l2 => k σ2 ea2 (fun i hi => ?_) (l2.trans l1)⟩
      simp only [namesTs, List.mem_append, not_or] at hi
      rw [f2 i hi.2, f1 i hi.1]
    | err _ _ => rw [q] at e; cases e
    | no => rw [q] at e; cases e
theorem lg_tup (hK : T.K.K = X.K) (hc : X.calm = true) {es : List Expr} {k : Nat} {ts : ITs} (hn : (assignEach es X.env).length = lenTs ts) (hst : (assignEach es X.env).findIdx? (·.1) = none) (h : PGs X es (tGs T ts)) : PG X (.Tuple es k pos) (tG T (.tup ts)) := by
  refine PG.imp (pg_tupB hc h hn hst) fun v σ H Q ⟨F, rs, S, st, d, S2, ea, sa, ia, e, k⟩ => ?_
  cases d with
  | tup l =>
    obtain ⟨a, xs, rfl, r, q⟩ := id ia
    rw [asg] at e
    rotate_left
    · intro _ z; cases z
    have e : asgs T.P ts l S st = .ok S2 st := e
    exact ⟨a, xs, rfl, .inl (SqT.of (sa.sm _ _ r)), by rw [← q.length]; exact asgs_len e, F, rs, S, st, l, S2, ea, sa, q, e, fun σ2 h1 h2 h3 => k σ2 h1 (fun i hi => h2 i (by simpa [namesT] using hi)) h3⟩
  | lst l =>
    obtain ⟨a, xs, rfl, r, q⟩ := id ia
    rw [asg] at e
    have e : asgs T.P ts l S st = .ok S2 st := e
    exact ⟨a, xs, rfl, .inr (sa.sm.seqL (.inl r)), by rw [← q.length]; exact asgs_len e, F, rs, S, st, l, S2, ea, sa, q, e, fun σ2 h1 h2 h3 => k σ2 h1 (fun i hi => h2 i (by simpa [namesT] using hi)) h3⟩
  | obj n =>
    exfalso
    rw [asg] at e
    · cases hq : st[n]? with
      | none => simp [see, hq] at e
      | some c => cases c <;> simp [see, hq] at e
    · intro _ z; cases z
  | _ => rw [asg] at e <;> first | (cases e; done) | (intro _ z; cases z)
end
/-! ### comprehensions -/
theorem wipe_get {σ : L2.St} {i : Nat} : ∀ {vs : List Nat}, i ∉ vs → (wipe σ vs)[i]? = σ[i]?
  | [], _ => rfl
  | v :: vs, h => by
    simp only [List.mem_cons, not_or] at h
    unfold wipe
    rw [List.getElem?_set_ne (fun z => h.1 z.symm)]
    exact wipe_get h.2
theorem wipe_in {σ : L2.St} {i : Nat} : ∀ {vs : List Nat}, i ∈ vs → i < σ.length → (wipe σ vs)[i]? = some none
  | [], h, _ => by simp at h
  | v :: vs, h, hl => by
    unfold wipe
    by_cases e : v = i
    · subst e
      exact List.getElem?_set_self (by rw [wipe_length]; exact hl)
    · rw [List.getElem?_set_ne e]
      refine wipe_in ?_ hl
      rcases List.mem_cons.mp h with z | z
      · exact absurd z.symm e
      · exact z
theorem wipe_eq {σ σ2 : L2.St} {vs : List Nat} (hl : σ2.length = σ.length) (h : ∀ i, i ∉ vs → σ2[i]? = (wipe σ vs)[i]?) : wipe σ2 vs = wipe σ vs := by
  refine List.ext_getElem? fun i => ?_
  by_cases hi : i ∈ vs
  · by_cases hlt : i < σ.length
    · rw [wipe_in hi hlt, wipe_in hi (by rw [hl]; exact hlt)]
    · rw [List.getElem?_eq_none (by rw [wipe_length, hl]; omega), List.getElem?_eq_none (by rw [wipe_length]; omega)]
  · rw [wipe_get hi, h i hi]
theorem wipeE_len (S : Env) : ∀ vs : List Nat, (wipeE S vs).length = S.length
  | [] => rfl
  | v :: vs => by unfold wipeE; rw [List.length_set, wipeE_len S vs]
theorem wipeE_some {S : Env} {i : Nat} {d : D} : ∀ {vs : List Nat}, (wipeE S vs)[i]? = some (some d) → S[i]? = some (some d) ∧ i ∉ vs
  | [], h => ⟨h, by simp⟩
  | v :: vs, h => by
    unfold wipeE at h
    by_cases hi : v = i
    · subst hi
      by_cases hv : v < (wipeE S vs).length
      · rw [List.getElem?_set_self hv] at h; cases h
      · rw [List.getElem?_eq_none (by simpa using hv)] at h; cases h
    · rw [List.getElem?_set_ne hi] at h
      obtain ⟨h1, h2⟩ := wipeE_some h
      exact ⟨h1, by simp only [List.mem_cons, not_or]; exact ⟨fun e => hi e.symm, h2⟩⟩
theorem EnvOk.wipe {K : Kg} {F H H0 : Hp} {rs : List Addr} {G : List Bool} {S : Env} {σ : L2.St} (e : EnvOk K F rs H H0 G S σ) (vs : List Nat) : EnvOk K F rs H H0 G (wipeE S vs) (wipe σ vs) := by
  refine ⟨by rw [wipeE_len, wipe_length]; exact e.len, fun i d h => ?_, fun j k c c' u hjk gj gk hj hk uj uk => ?_⟩
  · obtain ⟨h1, h2⟩ := wipeE_some h
    rw [wipe_get h2]
    exact e.loc i d h1
  · obtain ⟨h1, h2⟩ := wipeE_some hj
    obtain ⟨h3, h4⟩ := wipeE_some hk
    rw [wipe_get h2] at uj
    rw [wipe_get h4] at uk
    exact e.inj j k c c' u hjk gj gk h1 h3 uj uk
def tQ (T : Rd') : IEs → TT
  | .nil => tYes
  | .cons q .nil => tB' T q
  | _ => fun _ _ _ => False
/-- a turn -/
def trn (P : Calls) (S : Env) (own : List Nat) (e : IE) (t : IT) (c : IEs) (x : D) (st : Store) : R (Option D) := ((asg P t x (wipeE S own) st).bind fun S2 st => match c with
      | .nil => (ev P S2 e st).bind fun d st => .ok (some d) st
      | .cons q .nil => ((ev P S2 q st).bind fun z st => .of (truD (see st z)) st).bind fun b st => if b then (ev P S2 e st).bind fun d st => .ok (some d) st else .ok none st
      | _ => .no).calm
theorem compR_ok {f : D → Store → R (Option D)} (hf : ∀ x st e st', f x st ≠ .err e st') : ∀ (l : List D) (st : Store) (e : D) (st' : Store), compR f l st ≠ .err e st'
  | [], st, e, st', h => by rw [compR] at h; cases h
  | x :: r, st, e, st', h => by
    rw [compR] at h
    cases h1 : f x st with
    | ok o st1 =>
      rw [h1] at h
      simp only [R.bind] at h
      cases h2 : compR f r st1 with
      | ok l st2 => rw [h2] at h; cases o <;> cases h
      | err e2 st2 => exact compR_ok hf r st1 e2 st2 h2
      | no => rw [h2] at h; cases h
    | err e1 st1 => exact hf _ _ _ _ h1
    | no => rw [h1] at h; cases h
theorem compR_cons {f : D → Store → R (Option D)} {x : D} {r l : List D} {st st' : Store} (h : compR f (x :: r) st = .ok l st') : ∃ o st1 l', f x st = .ok o st1 ∧ compR f r st1 = .ok l' st' ∧ l = o.toList ++ l' := by
  rw [compR] at h
  cases h1 : f x st with
  | ok o st1 =>
    rw [h1] at h
    simp only [R.bind] at h
    cases h2 : compR f r st1 with
    | ok l2 st2 =>
      rw [h2] at h
      cases o with
      | none => cases h; exact ⟨_, _, _, rfl, h2, rfl⟩
      | some d => cases h; exact ⟨_, _, _, rfl, h2, rfl⟩
    | err e2 st2 => rw [h2] at h; cases h
    | no => rw [h2] at h; cases h
  | err e1 st1 => rw [h1] at h; cases h
  | no => rw [h1] at h; cases h
theorem calm_no {A : Type} {x : R A} {e : D} {st : Store} : x.calm ≠ .err e st := by
  cases x <;> simp [R.calm]
theorem calm_ok {A : Type} {x : R A} {a : A} {st : Store} (h : x.calm = .ok a st) : x = .ok a st := by
  cases x with
  | ok b s => exact h
  | err _ _ => cases h
  | no => cases h
end DI

set_option Elab.async false
set_option linter.all false
set_option maxRecDepth 100000
set_option maxHeartbeats 4000000
namespace DI
open PySem PySem.Spec PyProof.Rows L2
section
variable {X : Cx} {T : Rd'} {pos : Pos}
theorem fin_okE {K : Kg} {A B : Type} {r : Rl A B} {F H : Hp} {rs : List Addr} {x : R A} {Q : B → Hp → Prop} {E : XK} (h : Fin K r F rs H x Q E) (he : ∀ e st, x ≠ .err e st) : ∃ a st, x = .ok a st := by
  cases x with
  | ok a st => exact ⟨a, st, rfl⟩
  | err e st => exact absurd rfl (he e st)
  | no => exact h.elim
theorem lcp_read {own : List (Str × Nat)} {ie : IE} {t : IT} {it : II} {c : IEs} (hn : ∀ i, i ∈ namesT t → i ∈ own.map (·.2)) (hp : pureT t = true) {σ : L2.St} {H : Hp} {Q : VK} (h : tE T (relF T.K) (.lcp ie t it c (own.map (·.2))) σ H Q) :
    tLc (tI T it) (tG T t) (tQ T c) (tE T (relK T.K) ie) (own.map (·.2)) σ H Q := by
  obtain ⟨F, rs, S, st, ea, sa, fa⟩ := h
  rw [ev] at fa
  generalize hvs : own.map (·.2) = vs at fa hn ⊢
  refine ⟨F, rs, S, st, ea, sa, fa.bind Up.f fun l st1 J F1 rs1 H1 s1 S1 q1 f1 => ?_⟩
  have q1 : Walk T.K l F1 rs1 H1 J := q1
  have ea1 := ea.step s1
  change Fin T.K (relF T.K) F1 rs1 H1 ((compR (trn T.P S vs ie t c) l st1).bind fun r st => if r.length ≤ 16777216 then .ok (.lst r) st else .no) Q _ at f1
  obtain ⟨rall, sten, hall⟩ : ∃ r st', compR (trn T.P S vs ie t c) l st1 = .ok r st' := by
    cases hq : compR (trn T.P S vs ie t c) l st1 with
    | ok r st' => exact ⟨r, st', rfl⟩
    | err e st' => exact absurd hq (compR_ok (fun x st e st' => calm_no) l st1 e st')
    | no => rw [hq] at f1; exact f1.elim
  rw [hall] at f1
  change Fin T.K (relF T.K) F1 rs1 H1 (if rall.length ≤ 16777216 then .ok (.lst rall) sten else .no) Q _ at f1
  split at f1
  case isFalse => exact f1.elim
  rename_i hlen
  intro D hD
  -- the invariant
  let Pv : Nat → Hp → Prop := fun i H => ∃ F rs st ad xs r, Step F1 rs1 H1 F rs H ∧ StOk T.K F rs H st ∧ compR (trn T.P S vs ie t c) (l.drop i) st = .ok r sten ∧ rall = ad ++ r ∧ H D = some (.lst xs) ∧ Iss T.K F rs ad xs ∧ F D = none ∧ D ∉ rs
  have hDr := S1.notIn hD
  have hDF := S1.freeF hD
  refine ⟨fun i m H => m = l.length - i ∧ i ≤ l.length ∧ Pv i H, ⟨l.length, by simp, Nat.zero_le _, F1, rs1, st1, [], [], rall, Step.lay hD, S1.lay hD, by simpa using hall, rfl, upd_same, rfl, hDF, hDr⟩, ?_⟩
  rintro i m H2 ⟨rfl, hil, F2, rs2, st2, ad, xs, r, s2, S2, hr, hra, hDv, hxs, hF2, hr2⟩
  have wk := q1 F2 rs2 H2 st2 s2.sF s2.pre S2 i
  by_cases hlt : i < l.length
  · have hdr : l.drop i = l[i] :: l.drop (i + 1) := List.drop_eq_getElem_cons hlt
    rw [hdr] at hr
    obtain ⟨o, st3, l', ho, hr3, hrr⟩ := compR_cons hr
    have ho := calm_ok ho
    obtain ⟨go, yl⟩ := wk.1 l[i] (List.getElem?_eq_getElem hlt)
    refine .inr ⟨go, Pv (i + 1), fun H' p' => ⟨l.length - (i + 1), by omega, rfl, hlt, p'⟩, fun x H' y => ?_⟩
    obtain ⟨F3, s3, S3, ix⟩ := yl x H' y
    have s13 := s2.trans s3
    have ea3 := (ea1.step s13).wipe vs
    cases ha : asg T.P t l[i] (wipeE S vs) st2 with
    | err e st' => rw [ha] at ho; cases ho
    | no => rw [ha] at ho; cases ho
    | ok Sx stx =>
      have e1 := pure_st hp ha
      subst e1
      rw [ha] at ho
      refine ⟨F3, rs2, wipeE S vs, stx, l[i], Sx, ea3, S3, ix, ha, fun σ2 ex hsame hlen2 => ⟨?_, ?_⟩⟩
      · exact wipe_eq (by rw [hlen2, wipe_length]) fun j hj => hsame j fun z => hj (hn j z)
      · -- the new list through the turn
        obtain ⟨o1, o2, o3⟩ := s3.ours hDv hF2 hr2
        have hxs3 := hxs.mono s3.sF s3.pre
        -- the value is made and appended
        have push : ∀ {F4 : Hp} {rs4 : List Addr} {H4 : Hp} {st4 : Store}, Step F3 rs2 H' F4 rs4 H4 → StOk T.K F4 rs4 H4 st4 → ((ev T.P Sx ie st4).bind fun d st => R.ok (some d) st) = .ok o st3 →
            tE T (relK T.K) ie σ2 H4 fun y H5 => ∃ acc, H5 D = some (.lst acc) ∧ acc.length < sizeLine ∧ Pv (i + 1) (upd H5 D (.lst (acc ++ [y]))) := by
          intro F4 rs4 H4 st4 s4 S4 h4
          cases hv : ev T.P Sx ie st4 with
          | err e st' => rw [hv] at h4; cases h4
          | no => rw [hv] at h4; cases h4
          | ok d st5 =>
            rw [hv] at h4
            cases h4
            refine ⟨F4, rs4, Sx, st4, ex.step s4, S4, ?_⟩
            rw [hv]
            intro y F5 rs5 H5 s5 S5 iy
            have s35 := s4.trans s5
            obtain ⟨p1, p2, p3⟩ := s35.ours o1 o2 o3
            have hl : rall.length = ad.length + (l'.length + 1) := by rw [hra, hrr]; simp
            refine ⟨xs, p1, ?_, F5, rs5, st3, ad ++ [d], xs ++ [y], l', (s13.trans s35).over hD, S5.over p2 p3, hr3, by rw [hra, hrr]; simp, upd_same, ?_, p2, p3⟩
            · rw [← hxs.length, line_eq]
              omega
            · exact (hxs3.mono s35.sF s35.pre).append ⟨y, [], rfl, iy, rfl⟩
        -- the tests
        cases c with
        | nil =>
          unfold tQ tYes
          show (if true = true then _ else _)
          rw [if_pos rfl]
          exact push Step.refl S3 ho
        | cons q c' =>
          cases c' with
          | cons _ _ => cases ho
          | nil =>
            refine ⟨F3, rs2, Sx, stx, ex, S3, ?_⟩
            change ((evT T.P Sx q stx).bind fun b st => if b then (ev T.P Sx ie st).bind fun d st => .ok (some d) st else .ok none st) = .ok o st3 at ho
            cases hv : evT T.P Sx q stx with
            | err e st' => rw [hv] at ho; cases ho
            | no => rw [hv] at ho; cases ho
            | ok b st5 =>
              rw [hv] at ho
              change (if b then (ev T.P Sx ie st5).bind fun d st => .ok (some d) st else .ok none st5) = .ok o st3 at ho
              intro b' F4 rs4 H4 s4 S4 eb
              have eb : b = b' := eb
              subst eb
              cases b with
              | true =>
                rw [if_pos rfl] at ho ⊢
                exact push s4 S4 ho
              | false =>
                rw [if_neg Bool.false_ne_true] at ho ⊢
                cases ho
                obtain ⟨p1, p2, p3⟩ := s4.ours o1 o2 o3
                exact ⟨F4, rs4, _, ad, xs, l', s13.trans s4, S4, hr3, by rw [hra, hrr]; rfl, p1, hxs3.mono s4.sF s4.pre _ _, p2, p3⟩
  · have e : i = l.length := by omega
    subst e
    rw [List.drop_length, compR] at hr
    cases hr
    rw [List.append_nil] at hra
    subst hra
    exact .inl ⟨wk.2 (Nat.le_refl _), f1 (.ref D) F2 rs2 H2 s2 S2 (.inr ⟨D, rfl, hD, .lst xs, hDv, hF2, hr2, xs, rfl, hxs⟩)⟩
theorem lx_lcp {elt tg iter : Expr} {ifs : List Expr} {scope : Scope} {own : List (Str × Nat)} {ie : IE} {t : IT} {it : II} {c : IEs} (hc : X.calm = true) (hN : X.N.Nodup) (hi : PI X tg iter (tI T it)) (ok : BlkOk X.N X.env.scope scope own)
    (hg : ∀ (s : Shared) (H : Hp) (C : Addr) (cl : List (Str × Addr)) (fp : List Addr), PG (X.blk s H scope (compEnvC scope cl C X.env) fp) tg (tG T t))
    (ht : ∀ (s : Shared) (H : Hp) (C : Addr) (cl : List (Str × Addr)) (fp : List Addr), PTs (X.blk s H scope (compEnvC scope cl C X.env) fp) ifs (tQ T c))
    (he : ∀ (s : Shared) (H : Hp) (C : Addr) (cl : List (Str × Addr)) (fp : List Addr), PE (X.blk s H scope (compEnvC scope cl C X.env) fp) elt (tE T (relK T.K) ie))
    (hs : ∀ x, foldedSetIterable iter X.env x = pure x) (hn : ∀ i, i ∈ namesT t → i ∈ own.map (·.2)) (hp : pureT t = true) :
    PE X (.ListComp elt [⟨tg, iter, ifs, 0⟩] scope pos) (tE T (relF T.K) (.lcp ie t it c (own.map (·.2)))) := by
  exact PE.imp (pe_lc hc hN hi ok hg ht he hs) fun σ H Q h => lcp_read hn hp h
end
end DI

set_option Elab.async false
set_option linter.all false
set_option maxRecDepth 100000
set_option maxHeartbeats 4000000
namespace DI
open PySem PySem.Spec PyProof.Rows L2
theorem put_rel {K : Kg} {F : Hp} {rs : List Addr} {A : Type} [DecidableEq A] (f : A → KD) (hf : ∀ a b, f a = f b → a = b) (j : A) {js : List A} {ds : List D} {zs : List V} {w : D} {v : V} (h : Iss K F rs ds zs) (e : js.length = zs.length) (hw : Is K F rs w v) :
    ∃ (js' : List A) (zs' : List V), (putK (js.map f) ds (f j) w).1 = js'.map f ∧ L2.putK (js.zip zs) j v = js'.zip zs' ∧ js'.length = zs'.length ∧ Iss K F rs (putK (js.map f) ds (f j) w).2 zs' := by
  have ea : ((js.map f).any fun k => decide (k = f j)) = js.any fun k => decide (k = j) := by
    rw [List.any_map]
    congr 1
    funext a
    show decide (f a = f j) = decide (a = j)
    by_cases q : a = j
    · rw [q]; simp
    · rw [decide_eq_false q, decide_eq_false fun z => q (hf _ _ z)]
  have eb : ((js.zip zs).any fun kv => decide (kv.1 = j)) = js.any fun k => decide (k = j) := by
    clear ea
    induction js generalizing zs ds with
    | nil => rfl
    | cons a js ih =>
      cases zs with
      | nil => cases e
      | cons z zs =>
        cases ds with
        | nil => cases h
        | cons d ds =>
          obtain ⟨_, _, e1, _, h2⟩ := h
          cases e1
          simp only [List.zip_cons_cons, List.any_cons]
          rw [ih h2 (by simpa using e)]
  unfold putK L2.putK
  rw [ea, eb]
  by_cases q : (js.any fun k => decide (k = j)) = true
  · rw [if_pos q, if_pos q]
    refine ⟨js, List.zipWith (fun k z => if k = j then v else z) js zs, rfl, ?_, by simp [e], ?_⟩
    · clear ea eb q
      induction js generalizing zs ds with
      | nil => rfl
      | cons a js ih =>
        cases zs with
        | nil => cases e
        | cons z zs =>
          cases ds with
          | nil => cases h
          | cons d ds =>
            obtain ⟨_, _, e1, _, h2⟩ := h
            cases e1
            simp only [List.zip_cons_cons, List.map_cons, List.zipWith_cons_cons]
            rw [ih h2 (by simpa using e)]
            by_cases y : a = j
            · simp [y]
            · simp [y]
    · clear ea eb q
      induction js generalizing zs ds with
      | nil => rfl
      | cons a js ih =>
        cases zs with
        | nil => cases e
        | cons z zs =>
          cases ds with
          | nil => cases h
          | cons d ds =>
            obtain ⟨_, _, e1, h1, h2⟩ := h
            cases e1
            refine ⟨_, _, rfl, ?_, ih h2 (by simpa using e)⟩
            show Is K F rs (if f a = f j then w else d) (if a = j then v else z)
            by_cases y : a = j
            · rw [if_pos y, if_pos (by rw [y])]; exact hw
            · rw [if_neg y, if_neg fun z => y (hf _ _ z)]; exact h1
  · rw [if_neg q, if_neg q]
    refine ⟨js ++ [j], zs ++ [v], by simp, ?_, by simp [e], h.append ⟨v, [], rfl, hw, rfl⟩⟩
    rw [List.zip_append e]
    rfl
/-! ### the names, changed -/
section
variable {K : Kg} {F F' H H' H0 : Hp} {rs rs' : List Addr} {G : List Bool} {S : Env} {σ : L2.St} {st st' : Store}
theorem getD_set (G : List Bool) (i j : Nat) (b : Bool) : (G.set i b).getD j false = if i = j ∧ i < G.length then b else G.getD j false := by
  by_cases e : i = j
  · subst e
    by_cases h : i < G.length
    · rw [if_pos ⟨rfl, h⟩, List.getD_eq_getElem?_getD, List.getElem?_set_self h]; rfl
    · rw [if_neg fun z => h z.2, List.getD_eq_getElem?_getD, List.getD_eq_getElem?_getD, List.getElem?_eq_none (by simpa using h), List.getElem?_eq_none (by simpa using h)]
  · rw [if_neg fun z => e z.1, List.getD_eq_getElem?_getD, List.getD_eq_getElem?_getD, List.getElem?_set_ne e]
theorem getD_off (G : List Bool) (i : Nat) : (G.set i false).getD i false = false := by
  rw [getD_set]
  split
  · rfl
  · rename_i h
    rw [List.getD_eq_getElem?_getD, List.getElem?_eq_none (by omega)]; rfl
theorem getD_off_ne {i j : Nat} (e : i ≠ j) (b : Bool) : (G.set i b).getD j false = G.getD j false := by
  rw [getD_set, if_neg fun z => e z.1]
theorem getD_off_imp {i j : Nat} (h : (G.set i false).getD j false = true) : i ≠ j ∧ G.getD j false = true := by
  by_cases e : i = j
  · subst e; rw [getD_off] at h; cases h
  · rw [getD_off_ne e] at h; exact ⟨e, h⟩
theorem EnvOk.setK {i : Nat} {d : D} {v : V} (e : EnvOk K F rs H H0 G S σ) (h : Is K F rs d v) : EnvOk K F rs H H0 (G.set i false) (S.set i (some d)) (σ.set i (some v)) := by
  refine ⟨by simp [e.len], fun j c hj => ?_, fun j k c c' u hjk gj gk hj hk uj uk => ?_⟩
  · by_cases hij : i = j
    · subst hij
      have hl : i < S.length := by
        have := (List.getElem?_eq_some_iff.mp hj).1
        simpa using this
      rw [List.getElem?_set_self hl] at hj
      cases hj
      refine ⟨v, List.getElem?_set_self (by rw [← e.len]; exact hl), ?_⟩
      rw [getD_off, if_neg Bool.false_ne_true]
      exact h
    · rw [List.getElem?_set_ne hij] at hj ⊢
      rw [getD_off_ne hij]
      exact e.loc j c hj
  · obtain ⟨nj, gj⟩ := getD_off_imp gj
    obtain ⟨nk, gk⟩ := getD_off_imp gk
    rw [List.getElem?_set_ne nj] at hj uj
    rw [List.getElem?_set_ne nk] at hk uk
    exact e.inj j k c c' u hjk gj gk hj hk uj uk
/-- a new box comes under a name that owns it -/
theorem EnvOk.own {i : Nat} {d : D} {p : Addr} (e : EnvOk K F rs H H0 G S σ) (hi : i < G.length) (h : Fresh K F rs H d p) (h0 : H0 p = none) (hn : ∀ j c, j ≠ i → G.getD j false = true → S[j]? = some (some c) → σ[j]? ≠ some (some (.ref p))) :
    EnvOk K F rs H H0 (G.set i true) (S.set i (some d)) (σ.set i (some (.ref p))) := by
  refine ⟨by simp [e.len], fun j c hj => ?_, fun j k c c' u hjk gj gk hj hk uj uk => ?_⟩
  · by_cases hij : i = j
    · subst hij
      have hl : i < S.length := by
        have := (List.getElem?_eq_some_iff.mp hj).1
        simpa using this
      rw [List.getElem?_set_self hl] at hj
      cases hj
      refine ⟨.ref p, List.getElem?_set_self (by rw [← e.len]; exact hl), ?_⟩
      have e1 : (G.set i true).getD i false = true := by
        rw [getD_set]
        exact if_pos ⟨rfl, hi⟩
      rw [if_pos e1]
      exact ⟨p, rfl, h, h0⟩
    · rw [List.getElem?_set_ne hij] at hj ⊢
      rw [getD_off_ne hij]
      exact e.loc j c hj
  · by_cases ij : i = j
    · subst ij
      have nk : i ≠ k := hjk
      have hl : i < S.length := by
        have := (List.getElem?_eq_some_iff.mp hj).1
        simpa using this
      rw [getD_off_ne nk] at gk
      rw [List.getElem?_set_ne nk] at hk uk
      rw [List.getElem?_set_self (by rw [← e.len]; exact hl)] at uj
      cases uj
      exact hn k c' nk.symm gk hk uk
    · by_cases ik : i = k
      · subst ik
        have hl : i < S.length := by
          have := (List.getElem?_eq_some_iff.mp hk).1
          simpa using this
        rw [getD_off_ne ij] at gj
        rw [List.getElem?_set_ne ij] at hj uj
        rw [List.getElem?_set_self (by rw [← e.len]; exact hl)] at uk
        cases uk
        exact hn j c (fun z => ij z.symm) gj hj uj
      · rw [getD_off_ne ij] at gj
        rw [getD_off_ne ik] at gk
        rw [List.getElem?_set_ne ij] at hj uj
        rw [List.getElem?_set_ne ik] at hk uk
        exact e.inj j k c c' u hjk gj gk hj hk uj uk
/-- an own box is seen by others from now on -/
theorem EnvOk.know {i : Nat} {d : D} {p : Addr} {o : HO} (e : EnvOk K F rs H H0 G S σ) (g : G.getD i false = true) (hS : S[i]? = some (some d)) (hσ : σ[i]? = some (some (.ref p))) (hp : H p = some o) (hF : F p = none) (hr : p ∉ rs) (hb : BoxAt K F rs d o) :
    EnvOk K (upd F p o) rs H H0 (G.set i false) S σ := by
  have sm' : Same F (upd F p o) := fun a u h => by rw [upd_ne (ne_of_none h hF)]; exact h
  refine ⟨e.len, fun j c hj => ?_, fun j k c c' u hjk gj gk hj hk uj uk => ?_⟩
  · by_cases hij : i = j
    · subst hij
      rw [hS] at hj
      cases hj
      refine ⟨_, hσ, ?_⟩
      rw [getD_off, if_neg Bool.false_ne_true]
      exact Is.of_box hF hb
    · obtain ⟨v, hv, c2⟩ := e.loc j c hj
      refine ⟨v, hv, ?_⟩
      rw [getD_off_ne hij]
      split at c2
      · rename_i gj
        obtain ⟨q, rfl, ⟨o2, a1, a2, a3, a4⟩, z⟩ := c2
        rw [if_pos gj]
        have ne : q ≠ p := fun y => e.inj i j d c (.ref p) hij g gj hS hj hσ (by rw [hv, y])
        exact ⟨q, rfl, ⟨o2, a1, by rw [upd_ne ne]; exact a2, a3, a4.mono sm' (Pre.refl _)⟩, z⟩
      · rename_i gj
        rw [if_neg gj]
        exact c2.mono sm' (Pre.refl _) _ _
  · obtain ⟨nj, gj⟩ := getD_off_imp gj
    obtain ⟨nk, gk⟩ := getD_off_imp gk
    exact e.inj j k c c' u hjk gj gk hj hk uj uk
/-- an own box is changed -/
theorem EnvOk.put {i : Nat} {d d' : D} {p : Addr} {o' : HO} (e : EnvOk K F rs H H0 G S σ) (g : G.getD i false = true) (hS : S[i]? = some (some d)) (hσ : σ[i]? = some (some (.ref p))) (hF : F p = none) (hr : p ∉ rs) (h0 : H0 p = none) (hb : BoxAt K F rs d' o') :
    EnvOk K F rs (upd H p o') H0 G (S.set i (some d')) σ := by
  have hl : i < S.length := (List.getElem?_eq_some_iff.mp hS).1
  refine ⟨by simp [e.len], fun j c hj => ?_, fun j k c c' u hjk gj gk hj hk uj uk => ?_⟩
  · by_cases hij : i = j
    · subst hij
      rw [List.getElem?_set_self hl] at hj
      cases hj
      refine ⟨_, hσ, ?_⟩
      rw [if_pos g]
      exact ⟨p, rfl, ⟨o', upd_same, hF, hr, hb⟩, h0⟩
    · rw [List.getElem?_set_ne hij] at hj
      obtain ⟨v, hv, c2⟩ := e.loc j c hj
      refine ⟨v, hv, ?_⟩
      split at c2
      · rename_i gj
        obtain ⟨q, rfl, ⟨o2, a1, a2, a3, a4⟩, z⟩ := c2
        rw [if_pos gj]
        have ne : q ≠ p := fun y => e.inj i j d c (.ref p) hij g gj hS hj hσ (by rw [hv, y])
        exact ⟨q, rfl, ⟨o2, by rw [upd_ne ne]; exact a1, a2, a3, a4⟩, z⟩
      · rename_i gj
        rw [if_neg gj]
        exact c2
  · have f : ∀ (m : Nat) (x : D), (S.set i (some d'))[m]? = some (some x) → ∃ y, S[m]? = some (some y) := fun m x hm => by
      by_cases im : i = m
      · subst im; exact ⟨d, hS⟩
      · rw [List.getElem?_set_ne im] at hm; exact ⟨x, hm⟩
    obtain ⟨y1, h1⟩ := f j c hj
    obtain ⟨y2, h2⟩ := f k c' hk
    exact e.inj j k y1 y2 u hjk gj gk h1 h2 uj uk
theorem EnvOk.box {i : Nat} {d : D} (e : EnvOk K F rs H H0 G S σ) (g : G.getD i false = true) (hS : S[i]? = some (some d)) : ∃ p, σ[i]? = some (some (.ref p)) ∧ Fresh K F rs H d p ∧ H0 p = none := by
  obtain ⟨v, hv, c⟩ := e.loc i d hS
  rw [if_pos g] at c
  obtain ⟨p, rfl, f, z⟩ := c
  exact ⟨p, hv, f, z⟩
/-- what a frame stands by: the base, the step from it, the store, the names -/
structure At (T : Rd') (F0 : Hp) (rs0 : List Addr) (G : List Bool) (F : Hp) (rs : List Addr) (H : Hp) (S : Env) (st : Store) (σ : L2.St) : Prop where
  s : Step F0 rs0 T.H0 F rs H
  o : StOk T.K F rs H st
  e : EnvOk T.K F rs H T.H0 G S σ
/-- the base moved on -/
theorem Step.base {F0 : Hp} {rs0 : List Addr} (s : Step F0 rs0 H0 F rs H) : Step F rs H0 F rs H :=
  ⟨Same.refl _, fun _ _ h n => (by rw [n] at h; cases h), ⟨[], by simp, by simp⟩, fun a o na h => s.kp a o (fun z => na (s.pre.mem z)) h, s.al⟩
theorem Step.back {F0 : Hp} {rs0 : List Addr} (s : Step F0 rs0 H0 F rs H) (t : Step F rs H0 F' rs' H') : Step F0 rs0 H0 F' rs' H' := by
  refine ⟨s.sF.trans t.sF, fun a o h n => ?_, ?_, fun a o na h => ?_, t.al⟩
  · cases q : F a with
    | some u => exact s.nF a u q n
    | none => exact t.nF a o h q
  · obtain ⟨m, e, f⟩ := s.pr
    obtain ⟨m2, e2, f2⟩ := t.pr
    refine ⟨m ++ m2, by rw [e2, e]; simp, fun a ha => ?_⟩
    rcases List.mem_append.mp ha with ha | ha
    · exact f a ha
    · exact f2 a ha
  · refine t.kp a o (fun z => ?_) h
    obtain ⟨m, e, f⟩ := s.pr
    rw [e] at z
    rcases List.mem_append.mp z with z | z
    · exact na z
    · rw [f a z] at h; cases h
end
end DI

set_option Elab.async false
set_option linter.all false
set_option maxRecDepth 100000
set_option maxHeartbeats 4000000
namespace DI
open PySem PySem.Spec PyProof.Rows L2
abbrev Rd'.g (T : Rd') (G : List Bool) : Rd' := { T with G := G }
/-- what is to hold behind a statement -/
def FinS (T : Rd') (F0 : Hp) (rs0 : List Addr) (Gn Gb : List Bool) (o : Out) (D : Ends) : Prop := match o with
  | .nxt S st => ∀ F rs H σ, At T F0 rs0 Gn F rs H S st σ → D.nx σ H
  | .brk S st => ∀ F rs H σ, At T F0 rs0 Gb F rs H S st σ → D.bk σ H
  | .cnt S st => ∀ F rs H σ, At T F0 rs0 Gb F rs H S st σ → D.ct σ H
  | .ret d st => ∀ F rs H v, Step F0 rs0 T.H0 F rs H → StOk T.K F rs H st → Is T.K F rs d v → D.rt v H
  | _ => False
def tS (T : Rd') (W : Nat) (G Gn Gb : List Bool) (s : IS) : TS := fun D σ H => ∃ F0 rs0 F rs S st, At T F0 rs0 G F rs H S st σ ∧ FinS T F0 rs0 Gn Gb (exec T.P W s S st) D
def tSs (T : Rd') (W : Nat) (G Gn Gb : List Bool) (s : ISs) : TS := fun D σ H => ∃ F0 rs0 F rs S st, At T F0 rs0 G F rs H S st σ ∧ FinS T F0 rs0 Gn Gb (execs T.P W s S st) D
section
variable {T : Rd'} {F0 F F1 H H1 : Hp} {rs0 rs rs1 : List Addr} {G Gn Gb : List Bool} {S : Env} {st st1 : Store} {σ : L2.St} {D : Ends}
theorem At.step (a : At T F0 rs0 G F rs H S st σ) (s : Step F rs H F1 rs1 H1) (o : StOk T.K F1 rs1 H1 st1) : At T F0 rs0 G F1 rs1 H1 S st1 σ := ⟨a.s.trans s, o, a.e.step s⟩
theorem fin_out {A B : Type} {r : Rl A B} {x : R A} {f : A → Store → Out} {Q : B → Hp → Prop} {E : XK} (h : FinS T F0 rs0 Gn Gb (x.out f) D)
    (k : ∀ d st1 v F1 rs1 H1, Step F rs H F1 rs1 H1 → StOk T.K F1 rs1 H1 st1 → r H F1 rs1 H1 d v → FinS T F0 rs0 Gn Gb (f d st1) D → Q v H1) : Fin T.K r F rs H x Q E := by
  cases x with
  | ok d st1 => exact fun v F1 rs1 H1 s1 S1 q => k d st1 v F1 rs1 H1 s1 S1 q h
  | err e st1 => exact h.elim
  | no => exact h.elim
theorem FinS.rebase (s : Step F0 rs0 T.H0 F rs H) {o : Out} (h : FinS T F0 rs0 Gn Gb o D) : FinS T F rs Gn Gb o D := by
  cases o with
  | nxt S st => exact fun F1 rs1 H1 σ a => h F1 rs1 H1 σ ⟨s.back a.s, a.o, a.e⟩
  | brk S st => exact fun F1 rs1 H1 σ a => h F1 rs1 H1 σ ⟨s.back a.s, a.o, a.e⟩
  | cnt S st => exact fun F1 rs1 H1 σ a => h F1 rs1 H1 σ ⟨s.back a.s, a.o, a.e⟩
  | ret d st => exact fun F1 rs1 H1 v a => h F1 rs1 H1 v (s.back a)
  | err e st => exact h
  | no => exact h
end
section
variable {X : Cx} {T : Rd'} {W : Nat} {G G1 Gn Gb : List Bool} {pos pos' p1 p2 : Pos} {e a b c : Expr} {ie ia ib ic : IE} {stm : Stmt} {sts : List Stmt} {is : IS} {iss : ISs}
theorem lss_nil : PSs X [] (tSs T W G G Gb .nil) := PSs.imp pss_nil fun D σ H ⟨F0, rs0, F, rs, S, st, at_, f⟩ => by
  rw [execs] at f
  exact f F rs H σ at_
theorem lss_cons (h1 : PS X stm (tS T W G G1 Gb is)) (h2 : PSs X sts (tSs T W G1 Gn Gb iss)) : PSs X (stm :: sts) (tSs T W G Gn Gb (.cons is iss)) := by
  refine PSs.imp (pss_cons h1 h2) fun D σ H ⟨F0, rs0, F, rs, S, st, at_, f⟩ => ?_
  rw [execs] at f
  refine ⟨F0, rs0, F, rs, S, st, at_, ?_⟩
  cases h : exec T.P W is S st with
  | nxt S1 st1 => rw [h] at f; exact fun F1 rs1 H1 σ1 a1 => ⟨F0, rs0, F1, rs1, S1, st1, a1, f⟩
  | brk S1 st1 => rw [h] at f; exact f
  | cnt S1 st1 => rw [h] at f; exact f
  | ret d st1 => rw [h] at f; exact f
  | err d st1 => rw [h] at f; exact f
  | no => rw [h] at f; exact f
theorem lss_frz {i : Nat} (h2 : PSs X sts (tSs T W (G.set i false) Gn Gb iss)) : PSs X sts (tSs T W G Gn Gb (.cons (.frz i) iss)) := by
  refine PSs.imp h2 fun D σ H ⟨F0, rs0, F, rs, S, st, at_, f⟩ => ?_
  rw [execs, exec] at f
  have nothing : G.set i false = G → tSs T W (G.set i false) Gn Gb iss D σ H := fun e => ⟨F0, rs0, F, rs, S, st, by rw [e]; exact at_, f⟩
  by_cases g : G.getD i false = true
  · cases hS : S[i]? with
    | none =>
      refine ⟨F0, rs0, F, rs, S, st, ⟨at_.s, at_.o, at_.e.len, fun j d hj => ?_, fun j k c c' u hjk gj gk => ?_⟩, f⟩
      · have ne : i ≠ j := fun z => by rw [← z, hS] at hj; cases hj
        rw [getD_off_ne ne]
        exact at_.e.loc j d hj
      · exact at_.e.inj j k c c' u hjk (getD_off_imp gj).2 (getD_off_imp gk).2
    | some o =>
      cases o with
      | none =>
        refine ⟨F0, rs0, F, rs, S, st, ⟨at_.s, at_.o, at_.e.len, fun j d hj => ?_, fun j k c c' u hjk gj gk => ?_⟩, f⟩
        · have ne : i ≠ j := fun z => by rw [← z, hS] at hj; cases hj
          rw [getD_off_ne ne]
          exact at_.e.loc j d hj
        · exact at_.e.inj j k c c' u hjk (getD_off_imp gj).2 (getD_off_imp gk).2
      | some d =>
        obtain ⟨p, hσ, ⟨o, h1, h2, h3, h4⟩, h0⟩ := at_.e.box g hS
        exact ⟨F0, rs0, upd F p o, rs, S, st, ⟨at_.s.know h0 h2, at_.o.know h2 h3 h1, at_.e.know g hS hσ h1 h2 h3 h4⟩, f⟩
  · refine nothing ?_
    refine List.ext_getElem? fun j => ?_
    by_cases e : i = j
    · subst e
      by_cases hl : i < G.length
      · rw [List.getElem?_set_self hl, List.getElem?_eq_getElem hl]
        rw [List.getD_eq_getElem?_getD, List.getElem?_eq_getElem hl] at g
        simp at g
        rw [g]
      · rw [List.getElem?_eq_none (by simpa using hl), List.getElem?_eq_none (by omega)]
    · rw [List.getElem?_set_ne e]
theorem ls_nvr : PS X stm (tS T W G Gn Gb .nvr) := PS.imp ps_never fun D σ H ⟨F0, rs0, F, rs, S, st, at_, f⟩ => by
  rw [exec] at f
  exact f
theorem ls_pas : PS X (.Pass pos) (tS T W G G Gb .pas) := PS.imp ps_pass fun D σ H ⟨F0, rs0, F, rs, S, st, at_, f⟩ => by
  rw [exec] at f
  exact f F rs H σ at_
theorem ls_brk : PS X (.Break pos) (tS T W G Gn G .brk) := PS.imp ps_break fun D σ H ⟨F0, rs0, F, rs, S, st, at_, f⟩ => by
  rw [exec] at f
  exact f F rs H σ at_
theorem ls_cnt : PS X (.Continue pos) (tS T W G Gn G .cnt) := PS.imp ps_continue fun D σ H ⟨F0, rs0, F, rs, S, st, at_, f⟩ => by
  rw [exec] at f
  exact f F rs H σ at_
theorem ls_exp (he : PE X e (tE (T.g G) (relK T.K) ie)) (hs : swapsWith e none pos.line X.env = pure false) : PS X (.Expr e pos) (tS T W G G Gb (.exp ie)) := PS.imp (ps_expr he hs) fun D σ H ⟨F0, rs0, F, rs, S, st, at_, f⟩ => by
  rw [exec] at f
  exact ⟨F, rs, S, st, at_.e, at_.o, fin_out (T := T) f fun d st1 v F1 rs1 H1 s1 S1 q f1 => f1 F1 rs1 H1 σ (at_.step s1 S1)⟩
theorem ls_ret (he : PE X e (tE (T.g G) (relK T.K) ie)) : PS X (.Return (some e) pos) (tS T W G Gn Gb (.ret ie)) := PS.imp (ps_ret he) fun D σ H ⟨F0, rs0, F, rs, S, st, at_, f⟩ => by
  rw [exec] at f
  exact ⟨F, rs, S, st, at_.e, at_.o, fin_out (T := T) f fun d st1 v F1 rs1 H1 s1 S1 q f1 => f1 F1 rs1 H1 v (at_.s.trans s1) S1 q⟩
theorem ls_iff {sa sb : List Stmt} {isa isb : ISs} (hc : PT X c (tB' (T.g G) ic)) (ha : PSs X sa (tSs T W G Gn Gb isa)) (hb : PSs X sb (tSs T W G Gn Gb isb)) : PS X (.If c sa sb pos) (tS T W G Gn Gb (.iff ic isa isb)) := by
  refine PS.imp (ps_if hc ha hb) fun D σ H ⟨F0, rs0, F, rs, S, st, at_, f⟩ => ?_
  rw [exec] at f
  refine ⟨F, rs, S, st, at_.e, at_.o, ?_⟩
  have f : FinS T F0 rs0 Gn Gb ((evT T.P S ic st).out fun k st => if k = true then execs T.P W isa S st else execs T.P W isb S st) D := by
    unfold evT
    cases hv : ev T.P S ic st with
    | ok x st1 =>
      rw [hv] at f
      change FinS T F0 rs0 Gn Gb (match truD (see st1 x) with | some true => execs T.P W isa S st1 | some false => execs T.P W isb S st1 | none => .no) D at f
      change FinS T F0 rs0 Gn Gb ((R.of (truD (see st1 x)) st1).out _) D
      cases hk : truD (see st1 x) with
      | none => rw [hk] at f; exact f
      | some k =>
        rw [hk] at f
        cases k with
        | true => exact f
        | false => exact f
    | err _ _ => rw [hv] at f; exact f
    | no => rw [hv] at f; exact f
  refine fin_out (T := T) (r := relB) f fun k st1 k' F1 rs1 H1 s1 S1 q f1 => ?_
  have q : k = k' := q
  subst q
  cases k with
  | true =>
    rw [if_pos rfl] at f1 ⊢
    exact ⟨F0, rs0, F1, rs1, S, st1, at_.step s1 S1, f1⟩
  | false =>
    rw [if_neg Bool.false_ne_true] at f1 ⊢
    exact ⟨F0, rs0, F1, rs1, S, st1, at_.step s1 S1, f1⟩
/-! ### name = value -/
theorem store_k {i : Nat} {D : Ends} {σ : L2.St} {H : Hp} {te : VK → Prop} (h : tS T W G (G.set i false) Gb (.set i ie) D σ H) : tE (T.g G) (relK T.K) ie σ H fun x H1 => D.nx (σ.set i (some x)) H1 := by
  obtain ⟨F0, rs0, F, rs, S, st, at_, f⟩ := h
  rw [exec] at f
  exact ⟨F, rs, S, st, at_.e, at_.o, fin_out (T := T) f fun d st1 v F1 rs1 H1 s1 S1 q f1 => f1 F1 rs1 H1 _ ⟨at_.s.trans s1, S1, (at_.e.step s1).setK q⟩⟩
theorem Step.none0 {F0 F H H0 : Hp} {rs0 rs : List Addr} (s : Step F0 rs0 H0 F rs H) {p : Addr} (h : H p = none) : H0 p = none := s.free p h
theorem store_o {i : Nat} {D : Ends} {σ : L2.St} {H : Hp} (hi : i < G.length) (h : tS T W G (G.set i true) Gb (.seto i ie) D σ H) : tE (T.g G) (relF T.K) ie σ H fun x H1 => D.nx (σ.set i (some x)) H1 := by
  obtain ⟨F0, rs0, F, rs, S, st, at_, f⟩ := h
  rw [exec] at f
  refine ⟨F, rs, S, st, at_.e, at_.o, fin_out (T := T) f fun d st1 v F1 rs1 H1 s1 S1 q f1 => ?_⟩
  rcases q with ⟨hb, _⟩ | ⟨p, rfl, hp, fr⟩
  · rw [hb, if_neg Bool.false_ne_true] at f1
    exact f1.elim
  · split at f1
    · refine f1 F1 rs1 H1 _ ⟨at_.s.trans s1, S1, (at_.e.step s1).own hi fr (at_.s.none0 hp) fun j c hj gj hS hσ => ?_⟩
      obtain ⟨q, hq, ⟨o, h1, _⟩, _⟩ := at_.e.box gj hS
      rw [hq] at hσ
      cases hσ
      rw [hp] at h1
      cases h1
    · exact f1.elim
/-- a new box goes into the store -/
theorem Step.ref {F F' H H' : Hp} {rs rs' : List Addr} {p : Addr} (s : Step F rs H F' rs' H') (hp : H p = none) : Step F rs H F' (rs' ++ [p]) H' := by
  refine ⟨s.sF, s.nF, ?_, s.kp, s.al⟩
  obtain ⟨m, e, f⟩ := s.pr
  refine ⟨m ++ [p], by rw [e, List.append_assoc], fun a ha => ?_⟩
  rcases List.mem_append.mp ha with ha | ha
  · exact f a ha
  · rw [List.mem_singleton.mp ha]; exact hp
theorem StOk.ref {K : Kg} {F H : Hp} {rs : List Addr} {st : Store} {p : Addr} {d : D} {cl : Cell} (S : StOk K F rs H st) (fr : Fresh K F rs H d p) (hc : cellOf d = some cl) : StOk K F (rs ++ [p]) H (st ++ [cl]) := by
  obtain ⟨o, h1, h2, h3, h4⟩ := fr
  have pre : Pre rs (rs ++ [p]) := ⟨[p], rfl⟩
  refine ⟨S.sm, by simp [S.len], List.nodup_append.mpr ⟨S.nd, by simp, fun a ha b hb e => h3 (by rw [List.mem_singleton.mp hb] at e; rw [← e]; exact ha)⟩, fun a ha => ?_, fun n c e => ?_⟩
  · rcases List.mem_append.mp ha with ha | ha
    · exact S.out a ha
    · rw [List.mem_singleton.mp ha]; exact h2
  · by_cases hn : n < st.length
    · rw [List.getElem?_append_left hn] at e
      obtain ⟨a, x, e1, e2, e3⟩ := S.cell n c e
      exact ⟨a, x, by rw [List.getElem?_append_left (by rw [S.len]; exact hn)]; exact e1, e2, e3.mono (Same.refl _) pre⟩
    · have hl : n = st.length := by
        have := (List.getElem?_eq_some_iff.mp e).1
        simp at this
        omega
      subst hl
      rw [List.getElem?_append_right (Nat.le_refl _), Nat.sub_self] at e
      cases e
      refine ⟨p, o, by rw [List.getElem?_append_right (by rw [S.len]; exact Nat.le_refl _), S.len, Nat.sub_self]; rfl, h1, ?_⟩
      cases d <;> simp only [cellOf] at hc <;> try cases hc
      · exact CellOk.mono (Same.refl _) pre h4
      · exact CellOk.mono (Same.refl _) pre h4
theorem store_r {i : Nat} {D : Ends} {σ : L2.St} {H : Hp} (h : tS T W G (G.set i false) Gb (.setr i ie) D σ H) : tE (T.g G) (relF T.K) ie σ H fun x H1 => D.nx (σ.set i (some x)) H1 := by
  obtain ⟨F0, rs0, F, rs, S, st, at_, f⟩ := h
  rw [exec] at f
  refine ⟨F, rs, S, st, at_.e, at_.o, fin_out (T := T) f fun d st1 v F1 rs1 H1 s1 S1 q f1 => ?_⟩
  cases hc : cellOf d with
  | none => rw [hc] at f1; exact f1.elim
  | some cl =>
    rw [hc] at f1
    rcases q with ⟨hb, _⟩ | ⟨p, rfl, hp, fr⟩
    · cases d <;> simp [isBox] at hb <;> simp [cellOf] at hc
    · have s2 := s1.ref hp
      refine f1 F1 (rs1 ++ [p]) H1 _ ⟨at_.s.trans s2, S1.ref fr hc, (at_.e.step s2).setK ?_⟩
      refine ⟨p, ?_, rfl⟩
      rw [List.getElem?_append_right (by rw [S1.len]; exact Nat.le_refl _), S1.len, Nat.sub_self]
      rfl
/-- the three stores of a name: k known, o owned, r by reference -/
inductive Sk where
  | k | o | r
def Sk.out (m : Sk) (i : Nat) (e : IE) : IS := match m with
  | .k => .set i e
  | .o => .seto i e
  | .r => .setr i e
def Sk.g (m : Sk) (i : Nat) (G : List Bool) : List Bool := match m with
  | .k => G.set i false
  | .o => G.set i true
  | .r => G.set i false
def Sk.rl (m : Sk) (K : Kg) : Rl D V := match m with
  | .k => relK K
  | .o => relF K
  | .r => relF K
theorem store_m (m : Sk) {i : Nat} {D : Ends} {σ : L2.St} {H : Hp} (hi : i < G.length) (h : tS T W G (m.g i G) Gb (m.out i ie) D σ H) : tE (T.g G) (m.rl T.K) ie σ H fun x H1 => D.nx (σ.set i (some x)) H1 := by
  cases m with
  | k => exact store_k (te := fun _ => True) h
  | o => exact store_o hi h
  | r => exact store_r h
theorem ls_set (m : Sk) {i : Nat} {x : Str} (hl : i < G.length) (hN : X.N.Nodup) (hi : X.N[i]? = some x) (hx : Loc X.env.scope x) (hf : X.fn x = true ∨ X.env.scope.names.lookup x = some .local) (hs : swapsWith e (some (.Name x pos')) pos.line X.env = pure false)
    (he : PE X e (tE (T.g G) (m.rl T.K) ie)) : PS X (.Assign [.Name x pos'] e pos) (tS T W G (m.g i G) Gb (m.out i ie)) :=
  PS.imp (ps_set hN hi hx he hs hf) fun D σ H h => store_m m hl h
end
end DI

set_option Elab.async false
set_option linter.all false
set_option maxRecDepth 100000
set_option maxHeartbeats 4000000
namespace DI
open PySem PySem.Spec PyProof.Rows L2
section
variable {X : Cx} {T : Rd'} {W : Nat} {G G1 Gn Gb : List Bool} {pos pos' p1 p2 : Pos} {e a b c : Expr} {ie ia ib ic : IE} {stm : Stmt} {sts : List Stmt} {iss : ISs}
theorem te_known {m : Sk} {T : Rd'} {σ : L2.St} {H : Hp} {Q : VK} (h : tE T (m.rl T.K) ie σ H Q) : tE T (relF T.K) ie σ H Q := by
  cases m with
  | k =>
    obtain ⟨F, rs, S, st, a, b, c⟩ := h
    exact ⟨F, rs, S, st, a, b, c.known⟩
  | o => exact h
  | r => exact h
theorem ls_setLc (m : Sk) {i : Nat} {y : Str} {py spos : Pos} {elt tg iter : Expr} {ifs : List Expr} {scope : Scope} {own : List (Str × Nat)} {t : IT} {it : II} {cc : IEs} (hl : i < G.length) (hc : X.calm = true) (hN : X.N.Nodup) (hy : X.N[i]? = some y) (hyl : X.env.scope.names.lookup y = some .local)
    (hsw : swapsWith (.ListComp elt [⟨tg, iter, ifs, 0⟩] scope pos) (some (.Name y py)) spos.line X.env = pure true) (hi : PI X tg iter (tI (T.g G) it)) (ok : BlkOk X.N X.env.scope scope own)
    (hg : ∀ (s : Shared) (H : Hp) (C : Addr) (cl : List (Str × Addr)) (fp : List Addr), PG (X.blk s H scope (compEnvC scope cl C X.env) fp) tg (tG (T.g G) t))
    (ht : ∀ (s : Shared) (H : Hp) (C : Addr) (cl : List (Str × Addr)) (fp : List Addr), PTs (X.blk s H scope (compEnvC scope cl C X.env) fp) ifs (tQ (T.g G) cc))
    (he : ∀ (s : Shared) (H : Hp) (C : Addr) (cl : List (Str × Addr)) (fp : List Addr), PE (X.blk s H scope (compEnvC scope cl C X.env) fp) elt (tE (T.g G) (relK T.K) ie))
    (hs : ∀ x, foldedSetIterable iter X.env x = pure x) (hn : ∀ i, i ∈ namesT t → i ∈ own.map (·.2)) (hp : pureT t = true) :
    PS X (.Assign [.Name y py] (.ListComp elt [⟨tg, iter, ifs, 0⟩] scope pos) spos) (tS T W G (m.g i G) Gb (m.out i (.lcp ie t it cc (own.map (·.2))))) :=
  PS.imp (ps_setLc hc hN hy hyl hsw hi ok hg ht he hs) fun D σ H h => lcp_read (T := T.g G) hn hp (te_known (m := m) (T := T.g G) (store_m m hl h))
/-! ### loops -/
theorem ls_whl {body : List Stmt} {ibody : ISs} {g : List Nat} (hx : X.xe = fun _ _ => False) (hc : PT X c (tB' (T.g G) ic)) (hb : PSs X body (tSs T W G G G ibody)) : PS X (.While c body [] pos) (tS T W G G Gb (.whl ic ibody g)) := by
  refine PS.imp (ps_while (by rw [hx]; exact PassesOwn.never) hc hb) fun D σ H ⟨F0, rs0, F, rs, S, st, at_, f⟩ => ?_
  rw [exec] at f
  refine ⟨fun m σ H => ∃ F0 rs0 F rs S st, At T F0 rs0 G F rs H S st σ ∧ FinS T F0 rs0 G Gb (whlR (evT T.P · ic ·) (execs T.P W ibody) m S st) D, ⟨W, F0, rs0, F, rs, S, st, at_, f⟩, ?_⟩
  rintro m σ H ⟨F0, rs0, F, rs, S, st, at_, f⟩
  cases m with
  | zero => rw [whlR] at f; exact f.elim
  | succ n =>
    rw [whlR] at f
    refine ⟨F, rs, S, st, at_.e, at_.o, ?_⟩
    cases hv : evT T.P S ic st with
    | err d st1 => rw [hv] at f; exact f.elim
    | no => rw [hv] at f; exact f.elim
    | ok k st1 =>
      rw [hv] at f
      intro k' F1 rs1 H1 s1 S1 q
      have q : k = k' := q
      subst q
      cases k with
      | false =>
        rw [if_neg Bool.false_ne_true]
        exact f F1 rs1 H1 σ (at_.step s1 S1)
      | true =>
        rw [if_pos rfl]
        refine ⟨_, fun σ' H' h' => ⟨n, Nat.lt_succ_self n, h'⟩, F0, rs0, F1, rs1, S, st1, at_.step s1 S1, ?_⟩
        cases hb : execs T.P W ibody S st1 with
        | nxt S2 st2 =>
          simp only [hb] at f
          exact fun F2 rs2 H2 σ2 a2 => ⟨F0, rs0, F2, rs2, S2, st2, a2, f⟩
        | cnt S2 st2 =>
          simp only [hb] at f
          exact fun F2 rs2 H2 σ2 a2 => ⟨F0, rs0, F2, rs2, S2, st2, a2, f⟩
        | brk S2 st2 => simp only [hb] at f; exact f
        | ret d st2 => simp only [hb] at f; exact f
        | err d st2 => simp only [hb] at f; exact f
        | no => simp only [hb] at f; exact f
theorem ls_frr {tg iter : Expr} {body : List Stmt} {t : IT} {it : II} {ibody : ISs} {g : List Nat} (hx : X.xe = fun _ _ => False) (hc : X.calm = true) (hi : PI X tg iter (tI (T.g G) it)) (hg : PG X tg (tG (T.g G) t)) (hb : PSs X body (tSs T W G G G ibody))
    (hs : ∀ x, foldedSetIterable iter X.env x = pure x) (hp : pureT t = true) : PS X (.For tg iter body [] pos) (tS T W G G Gb (.frr t it ibody g)) := by
  refine PS.imp (ps_for (by rw [hx]; exact PassesOwn.never) hc hi hg hb hs) fun D σ H ⟨F0, rs0, F, rs, S, st, at_, f⟩ => ?_
  rw [exec] at f
  refine ⟨F, rs, S, st, at_.e, at_.o, fin_out (T := T) f fun l st1 J F1 rs1 H1 s1 S1 q f1 => ?_⟩
  have q : Walk T.K l F1 rs1 H1 J := q
  have a1 := at_.step s1 S1
  have f1 := FinS.rebase a1.s f1
  refine ⟨fun i m σ H => m = l.length - i ∧ i ≤ l.length ∧ ∃ F rs S st, At T F1 rs1 G F rs H S st σ ∧ FinS T F1 rs1 G Gb (forR (fun x S st => (asg T.P t x S st).out fun S st => execs T.P W ibody S st) (l.drop i) S st) D, ⟨l.length, by simp, Nat.zero_le _, F1, rs1, S, st1, ⟨a1.s.base, a1.o, a1.e⟩, f1⟩, ?_⟩
  rintro i m σ H ⟨rfl, hil, F2, rs2, S2, st2, a2, f2⟩
  have wk := q F2 rs2 H st2 a2.s.sF a2.s.pre a2.o i
  by_cases hlt : i < l.length
  · have hdr : l.drop i = l[i] :: l.drop (i + 1) := List.drop_eq_getElem_cons hlt
    rw [hdr, forR] at f2
    obtain ⟨go, yl⟩ := wk.1 l[i] (List.getElem?_eq_getElem hlt)
    refine .inr ⟨go, _, fun σ' H' p' => ⟨l.length - (i + 1), by omega, rfl, hlt, p'⟩, fun x H' y => ?_⟩
    obtain ⟨F3, s3, S3, ix⟩ := yl x H' y
    have a3 := a2.step s3 S3
    cases ha : asg T.P t l[i] S2 st2 with
    | err d st3 => simp only [ha, R.out] at f2; exact f2.elim
    | no => simp only [ha, R.out] at f2; exact f2.elim
    | ok Sx stx =>
      have e1 := pure_st hp ha
      subst e1
      simp only [ha, R.out] at f2
      refine ⟨F3, rs2, S2, stx, l[i], Sx, a3.e, S3, ix, ha, fun σ2 ex _ _ => ⟨F1, rs1, F3, rs2, Sx, stx, ⟨a3.s, S3, ex⟩, ?_⟩⟩
      cases hb : execs T.P W ibody Sx stx with
      | nxt S4 st4 =>
        simp only [hb] at f2
        exact fun F4 rs4 H4 σ4 a4 => ⟨F4, rs4, S4, st4, a4, f2⟩
      | cnt S4 st4 =>
        simp only [hb] at f2
        exact fun F4 rs4 H4 σ4 a4 => ⟨F4, rs4, S4, st4, a4, f2⟩
      | brk S4 st4 => simp only [hb] at f2; exact f2
      | ret d st4 => simp only [hb] at f2; exact f2
      | err d st4 => simp only [hb] at f2; exact f2
      | no => simp only [hb] at f2; exact f2
  · have e : i = l.length := by omega
    subst e
    rw [List.drop_length, forR] at f2
    exact .inl ⟨wk.2 (Nat.le_refl _), f2 F2 rs2 H σ a2⟩
/-! ### unpacking -/
theorem ls_unp {tg : Expr} {t : IT} (hp : pureT t = true) (he : PE X e (tE (T.g G) (relK T.K) ie)) (hg : PG X tg (tG (T.g G) t)) (hs : swapsWithSole [tg] e pos.line X.env = pure false) (hw : swappedStores [tg] e X.env = pure none) (h1 : (assignEach [tg] X.env).map (·.2) = [assign tg X.env]) :
    PS X (.Assign [tg] e pos) (tS T W G G Gb (.unp t ie)) := by
  refine PS.imp (ps_asg he hg hs hw h1) fun D σ H ⟨F0, rs0, F, rs, S, st, at_, f⟩ => ?_
  rw [exec] at f
  refine ⟨F, rs, S, st, at_.e, at_.o, fin_out (T := T) f fun d st1 v F1 rs1 H1 s1 S1 q f1 => ?_⟩
  have a1 := at_.step s1 S1
  cases ha : asg T.P t d S st1 with
  | err d st3 => rw [ha] at f1; exact f1.elim
  | no => rw [ha] at f1; exact f1.elim
  | ok Sx stx =>
    have e1 := pure_st hp ha
    subst e1
    rw [ha] at f1
    exact ⟨F1, rs1, S, stx, d, Sx, a1.e, S1, q, ha, fun σ2 ex _ _ => f1 F1 rs1 H1 σ2 ⟨a1.s, S1, ex⟩⟩
end
end DI

set_option Elab.async false
set_option linter.all false
set_option maxRecDepth 100000
set_option maxHeartbeats 4000000
namespace DI
open PySem PySem.Spec PyProof.Rows L2
/-! ### o[k] = v -/
def rSetA : TSet := fun o i v H Q => rSetL o i v H Q ∨ rSetD o i v H Q
theorem set_any {X : Cx} (hu : X.A.units + 1 < cLine) : PSet X rSetA := by
  intro pins s σ H o i v ov iv u Q I ro ri rv h
  rcases h with h | h
  · exact set_list pins s σ H o i v ov iv u Q I ro ri rv h
  · exact set_dict hu pins s σ H o i v ov iv u Q I ro ri rv h
theorem put_box {K : Kg} {F H : Hp} {rs : List Addr} {d z dv d' : D} {o : HO} {y v : V} {p : Addr} (sm : Same F H) (hb : BoxAt K F rs d o) (hp : H p = some o) (hz : Is K F rs z y) (hv : Is K F rs dv v) (h : putD d z dv = some d') :
    ∃ o', BoxAt K F rs d' o' ∧ ∀ Q : Hp → Prop, Q (upd H p o') → rSetA (.ref p) y v H Q := by
  cases d with
  | lst l =>
    obtain ⟨vs, rfl, q⟩ := hb
    cases z with
    | int n =>
      simp only [putD, Option.map_eq_some_iff] at h
      obtain ⟨j, hj, rfl⟩ := h
      cases hz
      exact ⟨.lst (vs.set j v), ⟨_, rfl, q.set j hv⟩, fun Q hQ => .inl ⟨p, vs, n, j, rfl, rfl, hp, by rw [← q.length]; exact hj, hQ⟩⟩
    | _ => simp [putD] at h
  | dic tk ks l =>
    obtain ⟨zs, dc, q⟩ := hb
    simp only [putD] at h
    cases hk : kdOf z with
    | none => rw [hk] at h; cases h
    | some j =>
      rw [hk] at h
      simp only [] at h
      split at h
      · rename_i g
        cases h
        simp only [Bool.and_eq_true, decide_eq_true_eq] at g
        obtain ⟨g1, g2⟩ := g
        unfold DcOk at dc
        cases tk with
        | false =>
          rw [if_neg Bool.false_ne_true] at dc
          obtain ⟨js, rfl, hl, rfl⟩ := dc
          cases j with
          | inr _ => cases g1
          | inl j =>
            have hy : y = kV j := by
              cases z <;> simp [kdOf] at hk
              · subst hk; cases hz; rfl
              · subst hk; cases hz; rfl
            subst hy
            obtain ⟨js', zs', e1, e2, e3, e4⟩ := put_rel (Sum.inl (β := List Key)) (fun _ _ q => Sum.inl.inj q) j q hl hv
            refine ⟨.dK (js'.zip zs'), ⟨zs', ?_, e4⟩, fun Q hQ => .inr ⟨p, _, rfl, DPut.k hp ?_, ?_⟩⟩
            · unfold DcOk
              rw [if_neg Bool.false_ne_true]
              exact ⟨js', e1, e3, rfl⟩
            · have g3 : js.length < 16777216 := by simpa using g2
              rw [List.length_zip, ← hl, Nat.min_self]
              exact g3
            · rw [e2]; exact hQ
        | true =>
          rw [if_pos rfl] at dc
          obtain ⟨js, rfl, hl, rfl⟩ := dc
          cases j with
          | inl _ => cases g1
          | inr j =>
            cases z <;> simp [kdOf] at hk
            rename_i tl
            obtain ⟨b, vs, rfl, hbb, hvv⟩ := hz
            have := keysOf_is hvv hk
            subst this
            obtain ⟨js', zs', e1, e2, e3, e4⟩ := put_rel (Sum.inr (α := Key)) (fun _ _ q => Sum.inr.inj q) j q hl hv
            refine ⟨.dT (js'.zip zs'), ⟨zs', ?_, e4⟩, fun Q hQ => .inr ⟨p, _, rfl, DPut.t hp (sm _ _ hbb) ?_, ?_⟩⟩
            · unfold DcOk
              rw [if_pos rfl]
              exact ⟨js', e1, e3, rfl⟩
            · have g3 : js.length < 16777216 := by simpa using g2
              rw [List.length_zip, ← hl, Nat.min_self]
              exact g3
            · rw [e2]; exact hQ
      · cases h
  | _ => exact hb.elim
section
variable {K : Kg} {F F0 H H0 : Hp} {rs rs0 : List Addr} {G : List Bool} {S : Env} {st : Store} {σ : L2.St} {a : Addr} {o' : HO} {n : Nat} {c' : Cell}
theorem Step.cell (s : Step F0 rs0 H0 F rs H) (ha : a ∈ rs) : Step F0 rs0 H0 F rs (upd H a o') := by
  have key : ∀ b o, b ∉ rs0 → H0 b = some o → b ≠ a := fun b o nb hb z => by
    subst z
    obtain ⟨m, e, f⟩ := s.pr
    rw [e] at ha
    rcases List.mem_append.mp ha with q | q
    · exact nb q
    · rw [f _ q] at hb; cases hb
  refine ⟨s.sF, s.nF, s.pr, fun b o nb hb => by rw [upd_ne (key b o nb hb)]; exact s.kp b o nb hb, fun b o hb => ?_⟩
  by_cases e : b = a
  · exact ⟨o', by rw [e]; exact upd_same⟩
  · rw [upd_ne e]; exact s.al b o hb
theorem StOk.cellSet (S : StOk K F rs H st) (ha : rs[n]? = some a) (hc : CellOk K F rs c' o') : StOk K F rs (upd H a o') (st.set n c') := by
  have am : a ∈ rs := List.mem_of_getElem? ha
  have hl : n < st.length := by rw [← S.len]; exact (List.getElem?_eq_some_iff.mp ha).1
  refine ⟨fun b u h => ?_, by simp [S.len], S.nd, S.out, fun m c e => ?_⟩
  · rw [upd_ne (fun z => by rw [z, S.out a am] at h; cases h)]
    exact S.sm _ _ h
  · by_cases hm : n = m
    · subst hm
      rw [List.getElem?_set_self hl] at e
      cases e
      exact ⟨a, o', ha, upd_same, hc⟩
    · rw [List.getElem?_set_ne hm] at e
      obtain ⟨b, u, h1, h2, h3⟩ := S.cell m c e
      refine ⟨b, u, h1, ?_, h3⟩
      have ne : b ≠ a := fun z => by
        subst z
        obtain ⟨l1, g1⟩ := List.getElem?_eq_some_iff.mp ha
        obtain ⟨l2, g2⟩ := List.getElem?_eq_some_iff.mp h1
        have nd := List.pairwise_iff_getElem.mp S.nd
        rcases Nat.lt_trichotomy n m with q | q | q
        · exact nd n m l1 l2 q (g1.trans g2.symm)
        · exact hm q
        · exact nd m n l2 l1 q (g2.trans g1.symm)
      rw [upd_ne ne]
      exact h2
theorem EnvOk.cellSet (e : EnvOk K F rs H H0 G S σ) (ha : a ∈ rs) : EnvOk K F rs (upd H a o') H0 G S σ := by
  refine ⟨e.len, fun i d h => ?_, e.inj⟩
  obtain ⟨v, hv, c⟩ := e.loc i d h
  refine ⟨v, hv, ?_⟩
  split at c
  · rename_i g
    rw [if_pos g]
    obtain ⟨p, rfl, ⟨o, h1, h2, h3, h4⟩, z⟩ := c
    exact ⟨p, rfl, ⟨o, by rw [upd_ne (fun y => h3 (by rw [y]; exact ha))]; exact h1, h2, h3, h4⟩, z⟩
  · rename_i g
    rw [if_neg g]
    exact c
end
theorem box_cell {K : Kg} {F : Hp} {rs : List Addr} {d : D} {c : Cell} {o : HO} (h : cellOf d = some c) : BoxAt K F rs d o ↔ CellOk K F rs c o := by
  cases d <;> simp [cellOf] at h
  · subst h; exact Iff.rfl
  · subst h; exact Iff.rfl
theorem see_box {K : Kg} {F H : Hp} {rs : List Addr} {st : Store} {n : Nat} {a : Addr} (S : StOk K F rs H st) (ha : rs[n]? = some a) : ∃ o, H a = some o ∧ (BoxAt K F rs (see st (.obj n)) o ∨ ∃ c ks l, see st (.obj n) = .ins c ks l) := by
  obtain ⟨c, o, hc, ho, hk⟩ := S.at ha
  refine ⟨o, ho, ?_⟩
  cases c with
  | lst l => rw [see_obj_lst hc]; exact .inl hk
  | dic t ks l => rw [see_obj_dic hc]; exact .inl hk
  | ins c ks l => rw [see_obj_ins hc]; exact .inr ⟨c, ks, l, rfl⟩
section
variable {X : Cx} {T : Rd'} {W : Nat} {G G1 Gn Gb : List Bool} {pos pos' p1 p2 p3 : Pos} {e a b c k o : Expr} {ie ia ib ic ik io : IE} {stm : Stmt} {sts : List Stmt} {iss : ISs}
theorem ls_sti {i : Nat} {x : Str} (g : G.getD i false = true) (hu : X.A.units + 1 < cLine) (hN : X.N[i]? = some x) (hv : Vis X.env.scope x) (hd : (x == ("__debug__" : Str)) = false) (hcd : (x == ("__classdict__" : Str)) = false)
    (hk : PE X k (tE (T.g G) (relK T.K) ik)) (he : PE X e (tE (T.g G) (relK T.K) ie)) (hs : swapsWithSole [.Subscript (.Name x p1) k pos'] e pos.line X.env = pure false) (hw : swappedStores [.Subscript (.Name x p1) k pos'] e X.env = pure none)
    (h1 : (assignEach [.Subscript (.Name x p1) k pos'] X.env).map (·.2) = [assign (.Subscript (.Name x p1) k pos') X.env])
    (ha : ∀ v, assign (.Subscript (.Name x p1) k pos') X.env v = (do
      let ov ← holding [v] (eval (.Name x p1) X.env)
      let iv ← holding [v, ov] (eval k X.env)
      standAt pos'
      holding [v, ov, iv] (setItem ov iv v)
      release [v, ov, iv] [])) :
    PS X (.Assign [.Subscript (.Name x p1) k pos'] e pos) (tS T W G G Gb (.sti i ik ie)) := by
  refine PS.imp (ps_asg he (pg_sub (pe_var hN hv hd hcd) hk (set_any hu) ha) hs hw h1) fun D σ H ⟨F0, rs0, F, rs, S, st, at_, f⟩ => ?_
  rw [exec] at f
  refine ⟨F, rs, S, st, at_.e, at_.o, fin_out (T := T) f fun d st1 v F1 rs1 H1 s1 S1 q f1 => ?_⟩
  have a1 := at_.step s1 S1
  cases hS : S[i]? with
  | none => simp only [hS] at f1; exact f1.elim
  | some od =>
    cases od with
    | none => simp only [hS] at f1; exact f1.elim
    | some d0 =>
      simp only [hS] at f1
      obtain ⟨p, hσ, _, h0⟩ := a1.e.box g hS
      refine ⟨.ref p, hσ, F1, rs1, S, st1, a1.e, S1, fin_out (T := T) f1 fun z st2 y F2 rs2 H2 s2 S2 q2 f2 => ?_⟩
      have a2 := a1.step s2 S2
      obtain ⟨p', hσ', ⟨o, o1, o2, o3, o4⟩, h0'⟩ := a2.e.box g hS
      rw [hσ] at hσ'
      cases hσ'
      cases hp : putD d0 z d with
      | none => rw [hp] at f2; exact f2.elim
      | some d' =>
        rw [hp] at f2
        obtain ⟨o', b1, b2⟩ := put_box S2.sm o4 o1 q2 (Is.mono s2.sF s2.pre _ _ q) hp
        exact b2 _ (f2 F2 rs2 _ σ ⟨a2.s.over h0, S2.over o2 o3, a2.e.put g hS hσ o2 o3 h0 b1⟩)
theorem pk_obj {K : Kg} {F H : Hp} {rs : List Addr} {n : Nat} {v : V} (h : Pk K F rs H (.obj n) v) : ∃ a, rs[n]? = some a ∧ v = .ref a := by
  rcases h with h | ⟨_, _, _, _, _, _, q⟩
  · exact h
  · exact q.elim
theorem ls_sto (hu : X.A.units + 1 < cLine) (ho : PE X o (tE (T.g G) (relP T.K) io)) (hk : PE X k (tE (T.g G) (relK T.K) ik)) (he : PE X e (tE (T.g G) (relK T.K) ie)) (hs : swapsWithSole [.Subscript o k pos'] e pos.line X.env = pure false)
    (hw : swappedStores [.Subscript o k pos'] e X.env = pure none) (h1 : (assignEach [.Subscript o k pos'] X.env).map (·.2) = [assign (.Subscript o k pos') X.env])
    (ha : ∀ v, assign (.Subscript o k pos') X.env v = (do
      let ov ← holding [v] (eval o X.env)
      let iv ← holding [v, ov] (eval k X.env)
      standAt pos'
      holding [v, ov, iv] (setItem ov iv v)
      release [v, ov, iv] [])) :
    PS X (.Assign [.Subscript o k pos'] e pos) (tS T W G G Gb (.sto io ik ie)) := by
  refine PS.imp (ps_asg he (pg_sub ho hk (set_any hu) ha) hs hw h1) fun D σ H ⟨F0, rs0, F, rs, S, st, at_, f⟩ => ?_
  rw [exec] at f
  refine ⟨F, rs, S, st, at_.e, at_.o, fin_out (T := T) f fun d st1 v F1 rs1 H1 s1 S1 q f1 => ?_⟩
  have a1 := at_.step s1 S1
  refine ⟨F1, rs1, S, st1, a1.e, S1, fin_out (T := T) f1 fun x st2 w F2 rs2 H2 s2 S2 q2 f2 => ?_⟩
  have a2 := a1.step s2 S2
  refine ⟨F2, rs2, S, st2, a2.e, S2, fin_out (T := T) f2 fun z st3 y F3 rs3 H3 s3 S3 q3 f3 => ?_⟩
  have a3 := a2.step s3 S3
  cases x with
  | obj n =>
    obtain ⟨a, hra, rfl⟩ := pk_obj q2
    have hra := s3.pre.get hra
    obtain ⟨o0, ho0, hb0⟩ := see_box S3 hra
    have am : a ∈ rs3 := List.mem_of_getElem? hra
    simp only [] at f3
    cases hp : putD (see st3 (.obj n)) z d with
    | none => rw [hp] at f3; exact f3.elim
    | some d' =>
      simp only [hp] at f3
      cases hc : cellOf d' with
      | none => rw [hc] at f3; exact f3.elim
      | some c' =>
        simp only [hc] at f3
        replace hb0 : BoxAt T.K F3 rs3 (see st3 (.obj n)) o0 := by
          rcases hb0 with hb0 | ⟨_, _, _, e0⟩
          · exact hb0
          · rw [e0] at hp; simp [putD] at hp
        obtain ⟨o', b1, b2⟩ := put_box S3.sm hb0 ho0 q3 (Is.mono s3.sF s3.pre _ _ (Is.mono s2.sF s2.pre _ _ q)) hp
        exact b2 _ (f3 F3 rs3 _ σ ⟨a3.s.cell am, S3.cellSet hra ((box_cell hc).mp b1), a3.e.cellSet am⟩)
  | _ => exact f3.elim
theorem ls_stor (hu : X.A.units + 1 < cLine) (ho : PE X o (tE (T.g G) (relP T.K) io)) (hk : PE X k (tE (T.g G) (relK T.K) ik)) (he : PE X e (tE (T.g G) (relF T.K) ie)) (hs : swapsWithSole [.Subscript o k pos'] e pos.line X.env = pure false)
    (hw : swappedStores [.Subscript o k pos'] e X.env = pure none) (h1 : (assignEach [.Subscript o k pos'] X.env).map (·.2) = [assign (.Subscript o k pos') X.env])
    (ha : ∀ v, assign (.Subscript o k pos') X.env v = (do
      let ov ← holding [v] (eval o X.env)
      let iv ← holding [v, ov] (eval k X.env)
      standAt pos'
      holding [v, ov, iv] (setItem ov iv v)
      release [v, ov, iv] [])) :
    PS X (.Assign [.Subscript o k pos'] e pos) (tS T W G G Gb (.stor io ik ie)) := by
  refine PS.imp (ps_asg he (pg_sub ho hk (set_any hu) ha) hs hw h1) fun D σ H ⟨F0, rs0, F, rs, S, st, at_, f⟩ => ?_
  rw [exec] at f
  refine ⟨F, rs, S, st, at_.e, at_.o, fin_out (T := T) f fun d st1 v F1 rs1 H1 s1 S1 q f1 => ?_⟩
  cases hc0 : cellOf d with
  | none => simp only [hc0] at f1; exact f1.elim
  | some c0 =>
    simp only [hc0] at f1
    rcases q with ⟨hb, _⟩ | ⟨p, rfl, hp, fr⟩
    · cases d <;> simp [isBox] at hb <;> simp [cellOf] at hc0
    · have a1 := at_.step (s1.ref hp) (S1.ref fr hc0)
      have S1r := S1.ref fr hc0
      have qv : Is T.K F1 (rs1 ++ [p]) (.obj st1.length) (.ref p) := ⟨p, by rw [List.getElem?_append_right (by rw [S1.len]; exact Nat.le_refl _), S1.len, Nat.sub_self]; rfl, rfl⟩
      refine ⟨F1, rs1 ++ [p], S, st1 ++ [c0], a1.e, S1r, fin_out (T := T) f1 fun x st2 w F2 rs2 H2 s2 S2 q2 f2 => ?_⟩
      have a2 := a1.step s2 S2
      refine ⟨F2, rs2, S, st2, a2.e, S2, fin_out (T := T) f2 fun z st3 y F3 rs3 H3 s3 S3 q3 f3 => ?_⟩
      have a3 := a2.step s3 S3
      cases x with
      | obj n =>
        obtain ⟨a, hra, rfl⟩ := pk_obj q2
        have hra := s3.pre.get hra
        obtain ⟨o0, ho0, hb0⟩ := see_box S3 hra
        have am : a ∈ rs3 := List.mem_of_getElem? hra
        simp only [] at f3
        cases hpd : putD (see st3 (.obj n)) z (.obj st1.length) with
        | none => rw [hpd] at f3; exact f3.elim
        | some d' =>
          simp only [hpd] at f3
          cases hc : cellOf d' with
          | none => rw [hc] at f3; exact f3.elim
          | some c' =>
            simp only [hc] at f3
            replace hb0 : BoxAt T.K F3 rs3 (see st3 (.obj n)) o0 := by
              rcases hb0 with hb0 | ⟨_, _, _, e0⟩
              · exact hb0
              · rw [e0] at hpd; simp [putD] at hpd
            obtain ⟨o', b1, b2⟩ := put_box S3.sm hb0 ho0 q3 (Is.mono s3.sF s3.pre _ _ (Is.mono s2.sF s2.pre _ _ qv)) hpd
            exact b2 _ (f3 F3 rs3 _ σ ⟨a3.s.cell am, S3.cellSet hra ((box_cell hc).mp b1), a3.e.cellSet am⟩)
      | _ => exact f3.elim
/-! ### attributes stored -/
theorem putF_rel {K : Kg} {F : Hp} {rs : List Addr} {x : Str} {d : D} {v : V} (hd : Is K F rs d v) : ∀ {ks : List Str} {l : List D} {fs : List (Str × V)}, fs.map (·.1) = ks → Iss K F rs l (fs.map (·.2)) → (putF x v fs).map (·.1) = (putA ks l x d).1 ∧ Iss K F rs (putA ks l x d).2 ((putF x v fs).map (·.2))
  | [], l, fs, h, hi => by
    have e : fs = [] := by simpa using h
    subst e
    have el : l = [] := by
      cases l with
      | nil => rfl
      | cons _ _ => obtain ⟨_, _, z, _⟩ := hi; cases z
    subst el
    exact ⟨rfl, ⟨v, [], rfl, hd, rfl⟩⟩
  | k :: ks, [], fs, h, hi => by
    cases fs with
    | nil => simp at h
    | cons a fs => cases hi
  | k :: ks, d0 :: l, [], h, _ => by simp at h
  | k :: ks, d0 :: l, (y, w) :: fs, h, ⟨_, _, e1, h1, h2⟩ => by
    rw [List.map_cons] at h e1
    cases e1
    injection h with hk hks
    have hk : y = k := hk
    subst hk
    unfold putF putA
    by_cases q : y = x
    · rw [if_pos q, if_pos q]
      exact ⟨by rw [List.map_cons, hks], ⟨v, _, rfl, hd, h2⟩⟩
    · rw [if_neg q, if_neg q]
      obtain ⟨z1, z2⟩ := putF_rel hd hks h2
      exact ⟨by rw [List.map_cons, z1], ⟨w, _, rfl, h1, z2⟩⟩
/-- the store of an attribute, as the heap sees it -/
theorem sat_ok {K : Kg} {F H : Hp} {rs : List Addr} {st st' : Store} {y d : D} {x : Str} {v w : V} (S : StOk K F rs H st) (q : Pk K F rs H y v) (hd : Is K F rs d w) (h : satD st y x d = some st') :
    ∃ p c dx fs, v = .ref p ∧ p ∈ rs ∧ H p = some (.ins (K.ca c) dx fs) ∧ fs.length < 1000 ∧ StOk K F rs (upd H p (.ins (K.ca c) dx (putF x w fs))) st' := by
  unfold satD at h
  split at h
  · rename_i n
    obtain ⟨p, hp, rfl⟩ := pk_obj q
    obtain ⟨cl, o, h1, h2, h3⟩ := S.at hp
    rw [h1] at h
    split at h
    · rename_i c ks l e
      cases e
      split at h
      · rename_i hl
        cases h
        obtain ⟨dx, fs, rfl, hk, hi⟩ := h3
        obtain ⟨z1, z2⟩ := putF_rel (x := x) hd hk hi
        refine ⟨p, c, dx, fs, rfl, List.mem_of_getElem? hp, h2, ?_, S.cellSet hp ⟨dx, _, rfl, z1, z2⟩⟩
        have := congrArg List.length hk
        rw [List.length_map] at this
        omega
      · cases h
    · cases h
  · cases h
theorem ls_sat {x : Str} (hA : ∀ c, Cls X.K (T.K.ca c) ∧ NoAttr X.K (T.K.ca c) x) (ho : PE X o (tE (T.g G) (relP T.K) io)) (he : PE X e (tE (T.g G) (relK T.K) ie)) (hs : swapsWith e (some (.Attribute o x pos')) pos.line X.env = pure false) :
    PS X (.Assign [.Attribute o x pos'] e pos) (tS T W G G Gb (.sat io x ie)) := by
  refine PS.imp (ps_fld ho he hs) fun D σ H ⟨F0, rs0, F, rs, S, st, at_, f⟩ => ?_
  rw [exec] at f
  refine ⟨F, rs, S, st, at_.e, at_.o, fin_out (T := T) f fun d st1 w F1 rs1 H1 s1 S1 q f1 => ?_⟩
  have a1 := at_.step s1 S1
  refine ⟨F1, rs1, S, st1, a1.e, S1, fin_out (T := T) f1 fun y st2 v F2 rs2 H2 s2 S2 q2 f2 => ?_⟩
  have a2 := a1.step s2 S2
  cases hp : satD st2 y x d with
  | none => rw [hp] at f2; exact f2.elim
  | some st' =>
    rw [hp] at f2
    obtain ⟨p, c, dx, fs, rfl, pm, hH, hl, S3⟩ := sat_ok S2 q2 (Is.mono s2.sF s2.pre _ _ q) hp
    exact ⟨p, _, dx, fs, rfl, hH, (hA c).1, (hA c).2, hl, f2 F2 rs2 _ σ ⟨a2.s.cell pm, S3, a2.e.cellSet pm⟩⟩
/-! ### a name for what is popped -/
theorem ls_spp {i j : Nat} {x y : Str} {apos cpos : Pos} (gj : G.getD j false = true) (gi : G.getD i false = false) (hN : X.N.Nodup) (hi : X.N[i]? = some x) (hx : Loc X.env.scope x) (hf : X.fn x = true ∨ X.env.scope.names.lookup x = some .local)
    (hNj : X.N[j]? = some y) (hv : Vis X.env.scope y) (hd : (y == ("__debug__" : Str)) = false) (hcd : (y == ("__classdict__" : Str)) = false) (hline : (apos.endLine == cpos.line) = true)
    (hs : swapsWith (.Call (.Attribute (.Name y p2) "pop" apos) [] [] cpos) (some (.Name x pos')) pos.line X.env = pure false) :
    PS X (.Assign [.Name x pos'] (.Call (.Attribute (.Name y p2) "pop" apos) [] [] cpos) pos) (tS T W G G Gb (.spp i j)) := by
  refine PS.imp (ps_set hN hi hx (pe_bm0 PySem.F.plainAttrs_list PySem.F.slot_list_pop PySem.F.type_list_pop mt_pop (pe_var hNj hv hd hcd) rfl hline) hs hf) fun D σ H ⟨F0, rs0, F, rs, S, st, at_, f⟩ => ?_
  rw [exec] at f
  split at f
  · rename_i l hS
    split at f
    · rename_i dd hdd
      split at f
      · rename_i hij
        obtain ⟨p, hσ, ⟨o, o1, o2, o3, o4⟩, h0⟩ := at_.e.box gj hS
        obtain ⟨vs, rfl, q⟩ := o4
        obtain ⟨w, hw, iw⟩ := q.get hdd
        refine ⟨.ref p, hσ, .inl ⟨rfl, vs, SqL.of o1⟩, p, vs, w, rfl, rfl, o1, by rw [← q.length]; exact hw, ?_⟩
        have hdl : Iss T.K F rs l.dropLast vs.dropLast := by
          rw [List.dropLast_eq_take, List.dropLast_eq_take, ← q.length]
          exact q.take _
        have e1 := at_.e.put gj hS hσ o2 o3 h0 (o' := .lst vs.dropLast) (d' := .lst l.dropLast) ⟨_, rfl, hdl⟩
        have e2 := e1.set gi iw
        exact f F rs _ _ ⟨at_.s.over h0, at_.o.over o2 o3, e2⟩
      · exact f.elim
    · exact f.elim
  · exact f.elim
theorem ls_pop {j : Nat} {y : Str} {apos cpos : Pos} (gj : G.getD j false = true)
    (hNj : X.N[j]? = some y) (hv : Vis X.env.scope y) (hd : (y == ("__debug__" : Str)) = false) (hcd : (y == ("__classdict__" : Str)) = false) (hline : (apos.endLine == cpos.line) = true)
    (hs : swapsWith (.Call (.Attribute (.Name y p2) "pop" apos) [] [] cpos) none pos.line X.env = pure false) :
    PS X (.Expr (.Call (.Attribute (.Name y p2) "pop" apos) [] [] cpos) pos) (tS T W G G Gb (.pop j)) := by
  refine PS.imp (ps_expr (pe_bm0 PySem.F.plainAttrs_list PySem.F.slot_list_pop PySem.F.type_list_pop mt_pop (pe_var hNj hv hd hcd) rfl hline) hs) fun D σ H ⟨F0, rs0, F, rs, S, st, at_, f⟩ => ?_
  rw [exec] at f
  split at f
  · rename_i l hS
    split at f
    · rename_i dd hdd
      obtain ⟨p, hσ, ⟨o, o1, o2, o3, o4⟩, h0⟩ := at_.e.box gj hS
      obtain ⟨vs, rfl, q⟩ := o4
      obtain ⟨w, hw, iw⟩ := q.get hdd
      refine ⟨.ref p, hσ, .inl ⟨rfl, vs, SqL.of o1⟩, p, vs, w, rfl, rfl, o1, by rw [← q.length]; exact hw, ?_⟩
      have hdl : Iss T.K F rs l.dropLast vs.dropLast := by
        rw [List.dropLast_eq_take, List.dropLast_eq_take, ← q.length]
        exact q.take _
      have e1 := at_.e.put gj hS hσ o2 o3 h0 (o' := .lst vs.dropLast) (d' := .lst l.dropLast) ⟨_, rfl, hdl⟩
      exact f F rs _ _ ⟨at_.s.over h0, at_.o.over o2 o3, e1⟩
    · exact f.elim
  · exact f.elim
end
end DI

set_option Elab.async false
set_option linter.all false
set_option maxRecDepth 100000
set_option maxHeartbeats 4000000
namespace DI
open PySem PySem.Spec PyProof.Rows L2
section
variable {X : Cx} {T : Rd'} {W : Nat} {G G1 Gn Gb : List Bool} {pos pos' p1 p2 p3 apos cpos apos2 cpos2 : Pos} {e a b c k o : Expr} {ie ia ib ic ik io : IE} {stm : Stmt} {sts : List Stmt} {iss : ISs}
/-! ### append, and append of a pop -/
theorem few_one (h : starEach [e] X.env = (false, eval e X.env) :: starEach [] X.env) : ((backTo cpos (starEach [e] X.env)).all (fun x => !x.1) && (backToKw cpos (keywordEach [] X.env)).all (fun x => x.1.isSome)
      && decide (([e] : List Expr).length + ([] : List Keyword).length + (if ([] : List Keyword).isEmpty then 0 else 1) < 30)) = true := by
  rw [h]
  rfl
theorem ls_app {i : Nat} {x : Str} (g : G.getD i false = true) (hN : X.N[i]? = some x) (hv : Vis X.env.scope x) (hd : (x == ("__debug__" : Str)) = false) (hcd : (x == ("__classdict__" : Str)) = false) (hline : (apos.endLine == cpos.line) = true)
    (hs : starEach [e] X.env = (false, eval e X.env) :: starEach [] X.env) (he : PE X e (tE (T.g G) (relK T.K) ie)) : PS X (.Expr (.Call (.Attribute (.Name x p1) "append" apos) [e] [] cpos) pos) (tS T W G G Gb (.app i ie)) := by
  refine PS.imp (ps_expr (pe_bm PySem.F.plainAttrs_list PySem.F.slot_list_append PySem.F.type_list_append mt_append (pe_var hN hv hd hcd) (pa_cons he pa_nil hs) rfl (few_one hs) hline hs rfl) rfl) fun D σ H ⟨F0, rs0, F, rs, S, st, at_, f⟩ => ?_
  rw [exec] at f
  cases hS : S[i]? with
  | none => simp only [hS] at f; exact f.elim
  | some od =>
    cases od with
    | none => simp only [hS] at f; exact f.elim
    | some d0 =>
      cases d0 with
      | lst l =>
        simp only [hS] at f
        obtain ⟨p, hσ, ⟨o, o1, o2, o3, o4⟩, h0⟩ := at_.e.box g hS
        obtain ⟨vs, rfl, q⟩ := o4
        refine ⟨.ref p, hσ, .inl ⟨rfl, vs, SqL.of o1⟩, F, rs, S, st, at_.e, at_.o, fin_out (T := T) f fun d st1 v F1 rs1 H1 s1 S1 q1 f1 => ?_⟩
        have a1 := at_.step s1 S1
        obtain ⟨p', hσ', ⟨o, o1', o2', o3', o4'⟩, h0'⟩ := a1.e.box g hS
        rw [hσ] at hσ'
        cases hσ'
        obtain ⟨ws, rfl, q'⟩ := o4'
        split at f1
        · rename_i hz
          refine ⟨p, ws, v, rfl, rfl, o1', by rw [← q'.length, line_eq]; exact hz, ?_⟩
          exact f1 F1 rs1 _ σ ⟨a1.s.over h0, S1.over o2' o3', a1.e.put g hS hσ o2' o3' h0 ⟨_, rfl, q'.append ⟨v, [], rfl, q1, rfl⟩⟩⟩
        · exact f1.elim
      | _ => simp only [hS] at f; exact f.elim
theorem ls_apo {i j : Nat} {x y : Str} (gi : G.getD i false = true) (gj : G.getD j false = true) (hN : X.N[i]? = some x) (hv : Vis X.env.scope x) (hd : (x == ("__debug__" : Str)) = false) (hcd : (x == ("__classdict__" : Str)) = false)
    (hN2 : X.N[j]? = some y) (hv2 : Vis X.env.scope y) (hd2 : (y == ("__debug__" : Str)) = false) (hcd2 : (y == ("__classdict__" : Str)) = false) (hline : (apos.endLine == cpos.line) = true) (hline2 : (apos2.endLine == cpos2.line) = true)
    (hs : starEach [e] X.env = (false, eval e X.env) :: starEach [] X.env) (he : PE X e (tE (T.g G) (relK T.K) ie)) :
    PS X (.Expr (.Call (.Attribute (.Name x p1) "append" apos) [.Call (.Attribute (.Name y p2) "pop" apos2) [e] [] cpos2] [] cpos) pos) (tS T W G G Gb (.apo i j ie)) := by
  refine PS.imp (ps_expr (pe_bm PySem.F.plainAttrs_list PySem.F.slot_list_append PySem.F.type_list_append mt_append (pe_var hN hv hd hcd)
    (pa_cons (pe_bm PySem.F.plainAttrs_list PySem.F.slot_list_pop PySem.F.type_list_pop mt_popAt (pe_var hN2 hv2 hd2 hcd2) (pa_cons he pa_nil hs) rfl (few_one hs) hline2 hs rfl) pa_nil rfl) rfl (few_one rfl) hline rfl rfl) rfl) fun D σ H ⟨F0, rs0, F, rs, S, st, at_, f⟩ => ?_
  rw [exec] at f
  split at f
  · rename_i l m hS hS2
    obtain ⟨p, hσ, ⟨o, o1, o2, o3, o4⟩, h0⟩ := at_.e.box gi hS
    obtain ⟨vs, rfl, q⟩ := o4
    obtain ⟨p2, hσ2, ⟨u, u1, u2, u3, u4⟩, h02⟩ := at_.e.box gj hS2
    obtain ⟨ws, rfl, r⟩ := u4
    refine ⟨.ref p, hσ, .inl ⟨rfl, vs, SqL.of o1⟩, .ref p2, hσ2, .inl ⟨rfl, ws, SqL.of u1⟩, F, rs, S, st, at_.e, at_.o, fin_out (T := T) f fun d st1 v F1 rs1 H1 s1 S1 q1 f1 => ?_⟩
    cases d with
    | int n =>
      cases q1
      simp only [] at f1
      split at f1
      · rename_i hcond
        obtain ⟨c1, c2, c3, c4⟩ := hcond
        have a1 := at_.step s1 S1
        obtain ⟨p', hσ', ⟨o, o1', o2', o3', o4'⟩, h0'⟩ := a1.e.box gi hS
        rw [hσ] at hσ'
        cases hσ'
        obtain ⟨vs', rfl, q'⟩ := o4'
        obtain ⟨p2', hσ2', ⟨u, u1', u2', u3', u4'⟩, h02'⟩ := a1.e.box gj hS2
        rw [hσ2] at hσ2'
        cases hσ2'
        obtain ⟨ws', rfl, r'⟩ := u4'
        split at f1
        · rename_i kx hk
          split at f1
          · rename_i dd hdd
            obtain ⟨y, hy, iy⟩ := r'.get hdd
            refine ⟨p2, ws', n, kx, y, rfl, rfl, u1', c1, c2, by rw [← r'.length]; exact hk, hy, ?_⟩
            have e1 := a1.e.put gj hS2 hσ2 u2' u3' h02 (o' := .lst (ws'.eraseIdx kx)) (d' := .lst (m.eraseIdx kx)) ⟨_, rfl, r'.eraseIdx kx⟩
            have S2 := S1.over (o := .lst (ws'.eraseIdx kx)) u2' u3'
            have hS' : (S.set j (some (DI.D.lst (m.eraseIdx kx))))[i]? = some (some (.lst l)) := by rw [List.getElem?_set_ne (Ne.symm c4)]; exact hS
            have ne : p ≠ p2 := fun z => at_.e.inj i j _ _ (.ref p) c4 gi gj hS hS2 hσ (by rw [hσ2, z])
            have o1x : (upd H1 p2 (.lst (ws'.eraseIdx kx))) p = some (.lst vs') := by rw [upd_ne ne]; exact o1'
            refine ⟨p, vs', y, rfl, rfl, o1x, by rw [← q'.length, line_eq]; exact c3, ?_⟩
            exact f1 F1 rs1 _ σ ⟨(a1.s.over h02).over h0, S2.over o2' o3', e1.put gi hS' hσ o2' o3' h0 ⟨_, rfl, q'.append ⟨y, [], rfl, iy, rfl⟩⟩⟩
          · exact f1.elim
        · exact f1.elim
      · exact f1.elim
    | _ => exact f1.elim
  · exact f.elim
/-! ### several names at once -/
def Xs (K : Kg) (F : Hp) (rs : List Addr) (H : Hp) : (Addr → Prop) → List Bool → List D → List V → Prop
  | _, [], [], vs => vs = []
  | Z, o :: os, d :: ds, vs => ∃ v r, vs = v :: r ∧ (if o = true then (isBox d = false ∧ Is K F rs d v) ∨ ∃ p, v = .ref p ∧ Z p ∧ Fresh K F rs H d p else Is K F rs d v) ∧ Xs K F rs H (fun q => Z q ∧ (o = true → isBox d = true → v ≠ .ref q)) os ds r
  | _, _, _, _ => False
theorem Xs.up {K : Kg} {F H : Hp} {rs : List Addr} : ∀ {os : List Bool} {ds : List D} {vs : List V} {Z Z' : Addr → Prop}, (∀ q, Z q → Z' q) → Xs K F rs H Z os ds vs → Xs K F rs H Z' os ds vs
  | [], [], _, _, _, _, h => h
  | o :: os, d :: ds, _, Z, Z', k, ⟨v, r, e, h, t⟩ => by
    refine ⟨v, r, e, ?_, Xs.up (fun q hq => ⟨k q hq.1, hq.2⟩) t⟩
    split at h
    · rename_i ho
      rw [if_pos ho]
      rcases h with h | ⟨p, e, z, f⟩
      · exact .inl h
      · exact .inr ⟨p, e, k p z, f⟩
    · rename_i ho
      rw [if_neg ho]
      exact h
  | [], _ :: _, _, _, _, _, h => h.elim
  | _ :: _, [], _, _, _, _, h => h.elim
def relX (K : Kg) (os : List Bool) : Rl (List D) (List V) := fun Hs F rs H ds vs => Xs K F rs H (fun q => Hs q = none) os ds vs
theorem Up.x {K : Kg} {os : List Bool} : Up (relX K os) := ⟨fun _ _ _ _ _ _ _ k h => Xs.up (fun q hq => k q hq) h⟩
theorem la_nilX : PA X [] (tL T (relX T.K []) .nil) :=
  PA.imp pa_nil fun σ H Q ⟨F, rs, S, st, ea, sa, fa⟩ => by
    rw [evs] at fa
    exact fa.val sa (show Xs T.K F rs H (fun q => H q = none) [] [] [] from rfl)
theorem la_consX {es : List Expr} {ies : IEs} {m : Bool} {os : List Bool} (hs : starEach (a :: es) X.env = (false, eval a X.env) :: starEach es X.env) (ha : PE X a (tE T (if m = true then relF T.K else relK T.K) ia)) (hr : PA X es (tL T (relX T.K os) ies)) :
    PA X (a :: es) (tL T (relX T.K (m :: os)) (.cons ia ies)) := by
  refine PA.imp (pa_cons ha hr hs) fun σ H Q ⟨F, rs, S, st, ea, sa, fa⟩ => ?_
  rw [evs] at fa
  refine ⟨F, rs, S, st, ea, sa, ?_⟩
  cases hx : ev T.P S ia st with
  | no => rw [hx] at fa; exact fa.elim
  | err d st1 => rw [hx] at fa; exact fa
  | ok x st1 =>
  rw [hx] at fa
  intro v F1 rs1 H1 s1 S1 q1
  refine ⟨F1, rs1, S, st1, ea.step s1, S1, ?_⟩
  cases hy : evs T.P S ies st1 with
  | no => simp only [R.bind, hy] at fa; exact fa.elim
  | err d st2 =>
    simp only [R.bind, hy] at fa
    exact fun c dx F2 rs2 H2 s2 S2 z => fa c dx F2 rs2 H2 (s1.trans s2) S2 z
  | ok y st2 =>
  simp only [R.bind, hy] at fa
  intro u F2 rs2 H2 s2 S2 q2
  refine fa (v :: u) F2 rs2 H2 (s1.trans s2) S2 ?_
  have q2 : Xs T.K F2 rs2 H2 (fun q => H1 q = none) os y u := q2
  show Xs T.K F2 rs2 H2 (fun q => H q = none) (m :: os) (x :: y) (v :: u)
  · refine ⟨v, u, rfl, ?_, Xs.up (fun q hq => ⟨s1.free q hq, fun hm hb z => ?_⟩) q2⟩
    · cases m with
      | false => exact Is.mono s2.sF s2.pre _ _ q1
      | true =>
        rw [if_pos rfl]
        rcases q1 with ⟨b1, b2⟩ | ⟨p, e, hp, fr⟩
        · exact .inl ⟨b1, b2.mono s2.sF s2.pre _ _⟩
        · exact .inr ⟨p, e, hp, fr.step s2⟩
    · subst hm
      rcases q1 with ⟨b1, _⟩ | ⟨p, e, hp, ⟨o, h1, _⟩⟩
      · rw [b1] at hb; cases hb
      · rw [e] at z
        cases z
        rw [hq] at h1
        cases h1
end
end DI

set_option Elab.async false
set_option linter.all false
set_option maxRecDepth 100000
set_option maxHeartbeats 4000000
namespace DI
open PySem PySem.Spec PyProof.Rows L2
def setsG : List (Nat × Bool) → List Bool → List Bool
  | [], G => G
  | p :: ps, G => setsG ps (G.set p.1 p.2)
def setsV : List (Nat × Bool) → List V → L2.St → L2.St
  | p :: ps, v :: vs, σ => setsV ps vs (σ.set p.1 (some v))
  | _, _, σ => σ
theorem sets_ok {K : Kg} {F H H0 : Hp} {rs : List Addr} : ∀ {ps : List (Nat × Bool)} {ds : List D} {vs : List V} {S S' : Env} {G : List Bool} {σ : L2.St} {Z : Addr → Prop}, (∀ p ∈ ps, p.1 < G.length) → EnvOk K F rs H H0 G S σ → (∀ q, Z q → H0 q = none) →
    (∀ q, Z q → ∀ j c, G.getD j false = true → S[j]? = some (some c) → σ[j]? ≠ some (some (.ref q))) → Xs K F rs H Z (ps.map (·.2)) ds vs → setsE ps ds S = some S' → EnvOk K F rs H H0 (setsG ps G) S' (setsV ps vs σ)
  | [], [], vs, S, S', G, σ, Z, _, e, _, _, h, q => by
    cases h
    rw [setsE] at q
    cases q
    exact e
  | [], _ :: _, _, _, _, _, _, _, _, _, _, _, h, _ => h.elim
  | _ :: _, [], _, _, _, _, _, _, _, _, _, _, h, _ => h.elim
  | p :: ps, d :: ds, vs, S, S', G, σ, Z, hl, e, h0, hn, ⟨v, r, ev, h, t⟩, q => by
    subst ev
    obtain ⟨i, o⟩ := p
    rw [setsE] at q
    cases o with
    | false =>
      simp only [Bool.false_and, if_neg Bool.false_ne_true] at q
      have h : Is K F rs d v := h
      show EnvOk K F rs H H0 (setsG ps (G.set i false)) S' (setsV ps r (σ.set i (some v)))
      refine sets_ok (G := G.set i false) (Z := fun q => Z q ∧ (false = true → isBox d = true → v ≠ .ref q)) (fun p hp => by rw [List.length_set]; exact hl p (List.mem_cons_of_mem _ hp)) (e.setK h) (fun q hq => h0 q hq.1) (fun q hq j c gj hS hσ => ?_) t q
      obtain ⟨nj, gj⟩ := getD_off_imp gj
      rw [List.getElem?_set_ne nj] at hS hσ
      exact hn q hq.1 j c gj hS hσ
    | true =>
      cases hb : isBox d with
      | false => simp [hb] at q
      | true =>
        simp only [hb, Bool.not_true, Bool.and_false, if_neg Bool.false_ne_true] at q
        rw [if_pos rfl] at h
        rcases h with ⟨b, _⟩ | ⟨p, rfl, zp, fr⟩
        · rw [hb] at b; cases b
        · have hi : i < G.length := hl (i, true) List.mem_cons_self
          have e2 := e.own hi fr (h0 p zp) fun j c hj gj hS hσ => hn p zp j c gj hS hσ
          show EnvOk K F rs H H0 (setsG ps (G.set i true)) S' (setsV ps r (σ.set i (some (.ref p))))
          refine sets_ok (G := G.set i true) (Z := fun q => Z q ∧ (true = true → isBox d = true → V.ref p ≠ .ref q)) (fun p hp => by rw [List.length_set]; exact hl p (List.mem_cons_of_mem _ hp)) e2 (fun q hq => h0 q hq.1) (fun q hq j c gj hS hσ => ?_) t q
          by_cases ij : i = j
          · subst ij
            have hlS : i < σ.length := by
              have := (List.getElem?_eq_some_iff.mp hσ).1
              simpa using this
            rw [List.getElem?_set_self hlS] at hσ
            cases hσ
            exact hq.2 rfl hb rfl
          · rw [getD_off_ne ij] at gj
            rw [List.getElem?_set_ne ij] at hS hσ
            exact hn q hq.1 j c gj hS hσ
theorem setsE_len : ∀ {ps : List (Nat × Bool)} {ds : List D} {S S' : Env}, setsE ps ds S = some S' → ds.length = ps.length
  | [], [], _, _, _ => rfl
  | [], _ :: _, _, _, h => by simp [setsE] at h
  | _ :: _, [], _, _, h => by simp [setsE] at h
  | p :: ps, d :: ds, _, _, h => by
    rw [setsE] at h
    split at h
    · cases h
    · simp [setsE_len h]
theorem Xs.len {K : Kg} {F H : Hp} {rs : List Addr} : ∀ {os : List Bool} {ds : List D} {vs : List V} {Z : Addr → Prop}, Xs K F rs H Z os ds vs → vs.length = os.length
  | [], [], _, _, h => by cases h; rfl
  | o :: os, d :: ds, _, Z, ⟨v, r, e, h, t⟩ => by
    subst e
    simp [Xs.len t]
  | [], _ :: _, _, _, h => h.elim
  | _ :: _, [], _, _, h => h.elim
section
variable {X : Cx} {T : Rd'} {W : Nat} {G G1 Gn Gb : List Bool} {pos pos' p1 p2 p3 apos cpos apos2 cpos2 : Pos} {e a b c k o : Expr} {ie ia ib ic ik io : IE} {stm : Stmt} {sts : List Stmt} {iss : ISs}
theorem par_read {ps : List (Nat × Bool)} {ies : IEs} {D : Ends} {σ : L2.St} {H : Hp} (hl : ∀ p ∈ ps, p.1 < G.length) (h : tS T W G (setsG ps G) Gb (.par ps ies) D σ H) :
    tL (T.g G) (relX T.K (ps.map (·.2))) ies σ H fun vs H1 => vs.length = ps.length ∧ D.nx (setsV ps vs σ) H1 := by
  obtain ⟨F0, rs0, F, rs, S, st, at_, f⟩ := h
  rw [exec] at f
  refine ⟨F, rs, S, st, at_.e, at_.o, fin_out (T := T) f fun ds st1 vs F1 rs1 H1 s1 S1 q f1 => ?_⟩
  have a1 := at_.step s1 S1
  cases hs : setsE ps ds S with
  | none => rw [hs] at f1; exact f1.elim
  | some S' =>
    rw [hs] at f1
    have q : Xs T.K F1 rs1 H1 (fun q => H q = none) (ps.map (·.2)) ds vs := q
    refine ⟨by rw [Xs.len q]; simp, f1 F1 rs1 H1 _ ⟨a1.s, S1, sets_ok hl a1.e (fun q hq => at_.s.none0 hq) (fun q hq j c gj hS hσ => ?_) q hs⟩⟩
    obtain ⟨p, hp, ⟨o, h1, _⟩, _⟩ := at_.e.box gj hS
    rw [hp] at hσ
    cases hσ
    rw [hq] at h1
    cases h1
theorem ls_par2 {i j : Nat} {m n : Bool} {x y : Str} {px py pt : Pos} {kt k2 : Nat} {pt2 : Pos} {ies : IEs} (hl : ∀ p ∈ [(i, m), (j, n)], p.1 < G.length) (hc : X.calm = true) (hN : X.N.Nodup) (hi : X.N[i]? = some x) (hj : X.N[j]? = some y) (hij : i ≠ j)
    (hx : X.env.scope.names.lookup x = some .local) (hy : X.env.scope.names.lookup y = some .local) (ha : PA X [a, b] (tL (T.g G) (relX T.K [m, n]) ies))
    (hw : swappedStores [.Tuple [.Name x px, .Name y py] kt pt] (.Tuple [a, b] k2 pt2) X.env = pure (some [x, y])) :
    PS X (.Assign [.Tuple [.Name x px, .Name y py] kt pt] (.Tuple [a, b] k2 pt2) pos) (tS T W G (setsG [(i, m), (j, n)] G) Gb (.par [(i, m), (j, n)] ies)) := by
  refine PS.imp (ps_par hc hN hi hj hij hx hy ha hw rfl) fun D σ H h => ?_
  obtain ⟨F, rs, S, st, ea, sa, fa⟩ := par_read hl h
  refine ⟨F, rs, S, st, ea, sa, ?_⟩
  cases hv : evs T.P S ies st with
  | no => rw [hv] at fa; exact fa.elim
  | err d st1 => rw [hv] at fa; exact fa
  | ok ds st1 =>
    rw [hv] at fa
    intro vs F1 rs1 H1 s1 S1 q
    obtain ⟨z1, z2⟩ := fa vs F1 rs1 H1 s1 S1 q
    match vs, z1, z2 with
    | [v, w], _, z2 => exact ⟨v, w, rfl, z2⟩
theorem ls_par3 {i j l : Nat} {m n r : Bool} {x y z : Str} {px py pz pt : Pos} {kt k2 : Nat} {pt2 : Pos} {ies : IEs} (hl : ∀ p ∈ [(i, m), (j, n), (l, r)], p.1 < G.length) (hc : X.calm = true) (hN : X.N.Nodup) (hi : X.N[i]? = some x) (hj : X.N[j]? = some y) (hk : X.N[l]? = some z) (hij : i ≠ j) (hil : i ≠ l) (hjl : j ≠ l)
    (hx : X.env.scope.names.lookup x = some .local) (hy : X.env.scope.names.lookup y = some .local) (hz : X.env.scope.names.lookup z = some .local) (ha : PA X [a, b, c] (tL (T.g G) (relX T.K [m, n, r]) ies))
    (hw : swappedStores [.Tuple [.Name x px, .Name y py, .Name z pz] kt pt] (.Tuple [a, b, c] k2 pt2) X.env = pure (some [x, y, z])) :
    PS X (.Assign [.Tuple [.Name x px, .Name y py, .Name z pz] kt pt] (.Tuple [a, b, c] k2 pt2) pos) (tS T W G (setsG [(i, m), (j, n), (l, r)] G) Gb (.par [(i, m), (j, n), (l, r)] ies)) := by
  refine PS.imp (ps_par3 hc hN hi hj hk hij hil hjl hx hy hz ha hw rfl) fun D σ H h => ?_
  obtain ⟨F, rs, S, st, ea, sa, fa⟩ := par_read hl h
  refine ⟨F, rs, S, st, ea, sa, ?_⟩
  cases hv : evs T.P S ies st with
  | no => rw [hv] at fa; exact fa.elim
  | err d st1 => rw [hv] at fa; exact fa
  | ok ds st1 =>
    rw [hv] at fa
    intro vs F1 rs1 H1 s1 S1 q
    obtain ⟨z1, z2⟩ := fa vs F1 rs1 H1 s1 S1 q
    match vs, z1, z2 with
    | [u, v, w], _, z2 => exact ⟨u, v, w, rfl, z2⟩
/-! ### targets that may be places of own lists -/
def tGE (T : Rd') (G : List Bool) (t : IT) : TG := fun v σ H Q => ∃ F0 rs0 F rs S st d S2 st2, At T F0 rs0 G F rs H S st σ ∧ Is T.K F rs d v ∧ asg T.P t d S st = .ok S2 st2 ∧
  ∀ F' rs' H' σ2, At T F0 rs0 G F' rs' H' S2 st2 σ2 → Same F F' → Pre rs rs' → Q σ2 H'
def tGsE (T : Rd') (G : List Bool) (t : ITs) : TGs := fun v σ H Q => ∃ F0 rs0 F rs S st d S2 st2, At T F0 rs0 G F rs H S st σ ∧ Iss T.K F rs d v ∧ asgs T.P t d S st = .ok S2 st2 ∧
  ∀ F' rs' H' σ2, At T F0 rs0 G F' rs' H' S2 st2 σ2 → Same F F' → Pre rs rs' → Q σ2 H'
theorem set_off {i : Nat} (g : G.getD i false = false) : G.set i false = G := by
  refine List.ext_getElem? fun j => ?_
  by_cases e : i = j
  · subst e
    by_cases hl : i < G.length
    · rw [List.getElem?_set_self hl, List.getElem?_eq_getElem hl]
      rw [List.getD_eq_getElem?_getD, List.getElem?_eq_getElem hl] at g
      simp at g
      rw [g]
    · rw [List.getElem?_eq_none (by simpa using hl), List.getElem?_eq_none (by omega)]
  · rw [List.getElem?_set_ne e]
theorem lgE_nam {i : Nat} {x : Str} (hN : X.N.Nodup) (hi : X.N[i]? = some x) (hx : Loc X.env.scope x) (hf : X.fn x = true ∨ X.env.scope.names.lookup x = some .local) (g : G.getD i false = false) : PG X (.Name x pos) (tGE T G (.nam i)) := by
  refine PG.imp (pg_name hN hi hx hf) fun v σ H Q ⟨F0, rs0, F, rs, S, st, d, S2, st2, at_, ia, e, k⟩ => ?_
  rw [asg] at e
  cases e
  exact k F rs H _ ⟨at_.s, at_.o, at_.e.set g ia⟩ (Same.refl _) (Pre.refl _)
theorem lgE_sub {i : Nat} {x : Str} (g : G.getD i false = true) (hu : X.A.units + 1 < cLine) (hN : X.N[i]? = some x) (hv : Vis X.env.scope x) (hd : (x == ("__debug__" : Str)) = false) (hcd : (x == ("__classdict__" : Str)) = false) (hk : PE X k (tE (T.g G) (relK T.K) ik))
    (ha : ∀ v, assign (.Subscript (.Name x p1) k pos) X.env v = (do
      let ov ← holding [v] (eval (.Name x p1) X.env)
      let iv ← holding [v, ov] (eval k X.env)
      standAt pos
      holding [v, ov, iv] (setItem ov iv v)
      release [v, ov, iv] [])) : PG X (.Subscript (.Name x p1) k pos) (tGE T G (.sub i ik)) := by
  refine PG.imp (pg_sub (pe_var hN hv hd hcd) hk (set_any hu) ha) fun v σ H Q ⟨F0, rs0, F, rs, S, st, d, S2, st2, at_, ia, e, kk⟩ => ?_
  rw [asg] at e
  split at e
  · rename_i od hS
    obtain ⟨p, hσ, _, h0⟩ := at_.e.box g hS
    refine ⟨.ref p, hσ, F, rs, S, st, at_.e, at_.o, ?_⟩
    cases hv2 : ev T.P S ik st with
    | err _ _ => rw [hv2] at e; cases e
    | no => rw [hv2] at e; cases e
    | ok z st1 =>
      rw [hv2] at e
      intro y F1 rs1 H1 s1 S1 q
      have a1 := at_.step s1 S1
      obtain ⟨p', hσ', ⟨o, o1, o2, o3, o4⟩, h0'⟩ := a1.e.box g hS
      rw [hσ] at hσ'
      cases hσ'
      have hp : putD od z d = (match od, z with | .lst l, .int n => (ixN l.length n).map fun j => D.lst (l.set j d) | _, _ => putD od z d) := by
        cases od <;> cases z <;> rfl
      cases od with
      | lst l =>
        cases z with
        | int n =>
          simp only [R.bind] at e
          cases hj : ixN l.length n with
          | none => rw [hj] at e; cases e
          | some j =>
            rw [hj] at e
            cases e
            have hpd : putD (.lst l) (.int n) d = some (.lst (l.set j d)) := by simp [putD, hj]
            obtain ⟨o', b1, b2⟩ := put_box S1.sm o4 o1 q (Is.mono s1.sF s1.pre _ _ ia) hpd
            exact b2 _ (kk F1 rs1 _ σ ⟨a1.s.over h0, S1.over o2 o3, a1.e.put g hS hσ o2 o3 h0 b1⟩ s1.sF s1.pre)
        | _ => cases e
      | _ => cases e
  · cases e
/-- o.x = v, a target -/
theorem pg_att {o : Expr} {to : TE} {x : Str} (ho : PE X o to) : PG X (.Attribute o x pos) (fun v σ H Q => to σ H fun y H1 => ∃ a C dx fs, y = .ref a ∧ H1 a = some (.ins C dx fs) ∧ Cls X.K C ∧ NoAttr X.K C x ∧ fs.length < 1000 ∧ Q σ (upd H1 a (.ins C dx (putF x v fs)))) := by
  refine ⟨fun pins s σ H v u Q I r h => ?_⟩
  show wpAny _ _ (do
    let ov ← holding [u] (eval o X.env)
    standAt pos.atName
    holding [u, ov] (setAttr ov x u)
    release [u, ov] []) _ _ _
  refine wpAny_bind (wpAny_holding (thn (ho.run pins s σ H _ I h) fun ov s1 ⟨y, H1, I1, r1, a, C, dx, fs, ey, ea, c, n, hl, q⟩ => ?_))
  subst ey
  cases r1
  refine wpAny_bind (wpAny_standAt (wpAny_bind (wpAny_holding (setattr_ok I1 ea c n hl r fun s2 I2 => ?_))))
  exact wpAny_release ⟨σ, _, I2, q⟩
theorem lgE_att {x : Str} (hA : ∀ c, Cls X.K (T.K.ca c) ∧ NoAttr X.K (T.K.ca c) x) (ho : PE X o (tE (T.g G) (relP T.K) io)) : PG X (.Attribute o x pos) (tGE T G (.att io x)) := by
  refine PG.imp (pg_att ho) fun v σ H Q ⟨F0, rs0, F, rs, S, st, d, S2, st2, at_, ia, e, kk⟩ => ?_
  rw [asg] at e
  refine ⟨F, rs, S, st, at_.e, at_.o, ?_⟩
  cases hv2 : ev T.P S io st with
  | err _ _ => rw [hv2] at e; cases e
  | no => rw [hv2] at e; cases e
  | ok z st1 =>
    rw [hv2] at e
    intro y F1 rs1 H1 s1 S1 q
    have a1 := at_.step s1 S1
    change (match satD st1 z x d with | some st => R.ok S st | none => R.no) = R.ok S2 st2 at e
    cases hp : satD st1 z x d with
    | none => rw [hp] at e; cases e
    | some st' =>
      rw [hp] at e
      cases e
      obtain ⟨p, c, dx, fs, rfl, pm, hH, hl, S3⟩ := sat_ok S1 q (Is.mono s1.sF s1.pre _ _ ia) hp
      exact ⟨p, _, dx, fs, rfl, hH, (hA c).1, (hA c).2, hl, kk F1 rs1 _ σ ⟨a1.s.cell pm, S3, a1.e.cellSet pm⟩ s1.sF s1.pre⟩
theorem lgsE_nil : PGs X [] (tGsE T G .nil) := by
  refine PGs.imp pgs_nil fun vs σ H Q ⟨F0, rs0, F, rs, S, st, ds, S2, st2, at_, ia, e, k⟩ => ?_
  cases ds with
  | nil =>
    rw [asgs] at e
    cases e
    cases ia
    exact ⟨rfl, k F rs H σ at_ (Same.refl _) (Pre.refl _)⟩
  | cons d l =>
    have z := asgs_len e
    simp [lenTs] at z
theorem lgsE_cons {es : List Expr} {t : IT} {ts : ITs} (hs : (assignEach (e :: es) X.env).map (·.2) = assign e X.env :: (assignEach es X.env).map (·.2)) (h1 : PG X e (tGE T G t)) (h2 : PGs X es (tGsE T G ts)) : PGs X (e :: es) (tGsE T G (.cons t ts)) := by
  refine PGs.imp (pgs_cons h1 h2 hs) fun vs σ H Q ⟨F0, rs0, F, rs, S, st, ds, S2, st2, at_, ia, e, k⟩ => ?_
  cases ds with
  | nil =>
    have z := asgs_len e
    simp [lenTs] at z
  | cons d l =>
    obtain ⟨v, r, rfl, iv, ir⟩ := ia
    rw [asgs] at e
    cases q : asg T.P t d S st with
    | ok S1 st1 =>
      rw [q] at e
      refine ⟨v, r, rfl, F0, rs0, F, rs, S, st, d, S1, st1, at_, iv, q, fun F1 rs1 H1 σ1 a1 sF1 pr1 => ?_⟩
      exact ⟨F0, rs0, F1, rs1, S1, st1, l, S2, st2, a1, ir.mono sF1 pr1, e, fun F2 rs2 H2 σ2 a2 sF2 pr2 => k F2 rs2 H2 σ2 a2 (sF1.trans sF2) (pr1.trans pr2)⟩
    | err _ _ => rw [q] at e; cases e
    | no => rw [q] at e; cases e
/-- (t, ..) = (e, ..) through a tuple -/
theorem ls_unt {ts : ITs} (hz : lenTs ts ≤ 100) (hK : T.K.K = X.K) (hc : X.calm = true) {tgs es : List Expr} {ies : IEs} {kt k2 : Nat} {pt pt2 : Pos} (he : PA X es (tL (T.g G) (relL T.K) ies)) (hg : PGs X tgs (tGsE T G ts)) (hn : (assignEach tgs X.env).length = lenTs ts) (hst : (assignEach tgs X.env).findIdx? (·.1) = none)
    (hs : swapsWithSole [.Tuple tgs kt pt] (.Tuple es k2 pt2) pos.line X.env = pure false) (hw : swappedStores [.Tuple tgs kt pt] (.Tuple es k2 pt2) X.env = pure none) (h1 : (assignEach [.Tuple tgs kt pt] X.env).map (·.2) = [assign (.Tuple tgs kt pt) X.env]) :
    PS X (.Assign [.Tuple tgs kt pt] (.Tuple es k2 pt2) pos) (tS T W G G Gb (.unt ts ies)) := by
  refine PS.imp (ps_asg (pe_tup he) (pg_tup hc hg hn hst) hs hw h1) fun D σ H ⟨F0, rs0, F, rs, S, st, at_, f⟩ => ?_
  rw [exec] at f
  refine ⟨F, rs, S, st, at_.e, at_.o, fin_out (T := T) f fun ds st1 vs F1 rs1 H1 s1 S1 q f1 => ?_⟩
  have a1 := at_.step s1 S1
  have q : Iss T.K F1 rs1 ds vs := q
  cases ha : asgs T.P ts ds S st1 with
  | err _ _ => rw [ha] at f1; exact f1.elim
  | no => rw [ha] at f1; exact f1.elim
  | ok S2 st2 =>
    rw [ha] at f1
    refine ⟨by rw [← q.length, asgs_len ha, line_eq]; omega, fun p hp => ?_⟩
    have hF := S1.freeF hp
    have s2 : Step F1 rs1 H1 (upd F1 p (.tup vs)) rs1 (upd H1 p (.tup vs)) := Step.new hp hF
    have a2 := a1.step s2 (S1.new hp)
    refine ⟨p, vs, rfl, SqT.of upd_same, by rw [← q.length]; exact asgs_len ha, F0, rs0, _, rs1, S, st1, ds, S2, st2, a2, q.mono s2.sF s2.pre, ha, fun F3 rs3 H3 σ3 a3 _ _ => f1 F3 rs3 H3 σ3 a3⟩
end
end DI

set_option Elab.async false
set_option linter.all false
set_option maxRecDepth 100000
set_option maxHeartbeats 4000000
namespace DI
open PySem PySem.Spec PyProof.Rows L2
/-! ### looks at the text -/
def notStar : Expr → Bool
  | .Starred _ _ => false
  | _ => true
def isLC : Expr → Bool
  | .ListComp _ _ _ _ => true
  | .SetComp _ _ _ _ => true
  | .DictComp _ _ _ _ _ => true
  | _ => false
def isTupX : Expr → Bool
  | .Tuple _ _ _ => true
  | _ => false
def isSetX : Expr → Bool
  | .Set _ _ _ => true
  | _ => false
def isSliceX : Expr → Bool
  | .Slice _ _ _ _ => true
  | _ => false
def isNameX : Expr → Bool
  | .Name _ _ => true
  | _ => false
/-- its truth is its value's -/
def plainT : Expr → Bool
  | .UnaryOp .Not _ _ => false
  | .BoolOp _ _ _ => false
  | .IfExp _ _ _ _ => false
  | .Compare _ _ _ _ => false
  | _ => true
/-- no call of super -/
def baseB : Expr → Bool
  | .Call (.Name _ _) [] [] _ => false
  | _ => true
theorem base_of {o : Expr} {x : Str} {env : PySem.Env} (h : baseB o = true) : ∀ w, attributeBase o x env w = w := by
  intro w
  unfold attributeBase
  split
  · simp [baseB] at h
  · rfl
theorem star_cons {e : Expr} {es : List Expr} {env : PySem.Env} (h : notStar e = true) : starEach (e :: es) env = (false, eval e env) :: starEach es env := by
  cases e <;> first | rfl | (simp [notStar] at h)
theorem star_any {env : PySem.Env} {pos : Pos} : ∀ {es : List Expr}, es.all notStar = true → (backTo pos (starEach es env)).any (·.1) = false
  | [], _ => rfl
  | e :: es, h => by
    simp only [List.all_cons, Bool.and_eq_true] at h
    rw [star_cons h.1]
    have ih := star_any (env := env) (pos := pos) h.2
    simpa [backTo] using ih
theorem star_last {env : PySem.Env} {pos : Pos} {c : Expr} {q : Pos} : ∀ {es : List Expr}, es.all notStar = true → (backTo pos (starEach (es ++ [.Starred c q]) env)).any (·.1) = true
  | [], _ => rfl
  | e :: es, h => by
    simp only [List.all_cons, Bool.and_eq_true] at h
    rw [List.cons_append, star_cons h.1]
    have ih := star_last (env := env) (pos := pos) (c := c) (q := q) h.2
    simpa [backTo] using ih
/-- a method's call: few arguments, none starred -/
theorem few_form {env : PySem.Env} {pos : Pos} {es : List Expr} (h : es.all notStar = true) (hl : es.length < 30) : methodCallForm (es.length + ([] : List Keyword).length) (backTo pos (starEach es env)) (backToKw pos (keywordEach [] env)) = true := by
  have z := star_any (env := env) (pos := pos) h
  unfold methodCallForm
  have e1 : (backTo pos (starEach es env)).all (fun x => !x.1) = true := by
    rw [List.all_eq_true]
    intro x hx
    have := List.any_eq_false.mp z x hx
    simpa using this
  have e2 : (backToKw pos (keywordEach [] env)).all (fun x => x.1.isSome) = true := rfl
  have e3 : (backToKw pos (keywordEach [] env)).isEmpty = true := rfl
  rw [e1, e2, e3]
  simp
  exact hl
theorem asg_cons {e : Expr} {es : List Expr} {env : PySem.Env} (h : notStar e = true) : assignEach (e :: es) env = (false, assign e env) :: assignEach es env := by
  cases e <;> first | rfl | (simp [notStar] at h)
theorem asg_idx {env : PySem.Env} : ∀ {es : List Expr}, es.all notStar = true → (assignEach es env).findIdx? (·.1) = none
  | [], _ => rfl
  | e :: es, h => by
    simp only [List.all_cons, Bool.and_eq_true] at h
    rw [asg_cons h.1]
    have ih := asg_idx (env := env) h.2
    simp [List.findIdx?_cons, ih]
theorem asg_len {env : PySem.Env} : ∀ {es : List Expr}, es.all notStar = true → (assignEach es env).length = es.length
  | [], _ => rfl
  | e :: es, h => by
    simp only [List.all_cons, Bool.and_eq_true] at h
    rw [asg_cons h.1]
    simp [asg_len h.2]
theorem plain_is {e : Expr} {env : PySem.Env} (h : plainT e = true) : ∀ whole, isTrue e env whole = (do let v ← whole; standAt e.pos; holding [v] (truthy v)) := by
  intro whole
  cases e with
  | UnaryOp op a p => cases op <;> first | rfl | (simp [plainT] at h)
  | _ => first | rfl | (simp [plainT] at h)
theorem set_plain {e : Expr} {env : PySem.Env} (h : isSetX e = false) : ∀ x, foldedSetIterable e env x = pure x := by
  intro x
  cases e <;> first | rfl | (simp [isSetX] at h)
theorem swaps_no {e : Expr} {t : Option Expr} {l : Nat} {env : PySem.Env} (h : isLC e = false) : swapsWith e t l env = pure false := by
  cases e <;> first | rfl | (simp [isLC] at h)
theorem swaps_sub {e o k : Expr} {p : Pos} {l : Nat} {env : PySem.Env} : swapsWithSole [.Subscript o k p] e l env = pure false := by
  cases e <;> rfl
theorem swaps_tup {e : Expr} {ts : List Expr} {n : Nat} {p : Pos} {l : Nat} {env : PySem.Env} : swapsWithSole [.Tuple ts n p] e l env = pure false := by
  cases e <;> rfl
theorem stores_sub {e o k : Expr} {p : Pos} {env : PySem.Env} : swappedStores [.Subscript o k p] e env = pure none := by
  cases e <;> rfl
theorem stores_tup {e : Expr} {ts : List Expr} {n : Nat} {p : Pos} {env : PySem.Env} (h : isTupX e = false) : swappedStores [.Tuple ts n p] e env = pure none := by
  cases e <;> first | rfl | (simp [isTupX] at h)
theorem assign_sub {o k : Expr} {pos : Pos} {env : PySem.Env} (h : isSliceX k = false) : ∀ v, assign (.Subscript o k pos) env v = (do
      let ov ← holding [v] (eval o env)
      let iv ← holding [v, ov] (eval k env)
      standAt pos
      holding [v, ov, iv] (setItem ov iv v)
      release [v, ov, iv] []) := by
  intro v
  cases k <;> first | rfl | (simp [isSliceX] at h)
theorem plain_ix {k : Expr} (h : isSliceX k = false) : PlainIx k := by
  intro o i
  cases k <;> first | rfl | (simp [isSliceX] at h)
/-- the names of a parallel store, where its stores are swapped -/
def nmOf (sc : Scope) (l : Nat) : Expr → Option Str
  | .Name id pos => if sc.names.lookup id == some .local && pos.line == l then some id else none
  | _ => none
def swNames (sc : Scope) (ts : List Expr) : List Str := ts.filterMap (nmOf sc ((ts.head?.map (·.pos.line)).getD 0))
def isStarX : Expr → Bool
  | .Starred _ _ => true
  | _ => false
theorem sw_eq {ts vs : List Expr} {n m : Nat} {p q : Pos} {env : PySem.Env} : swappedStores [.Tuple ts n p] (.Tuple vs m q) env =
    if (!(ts.length == 2 || ts.length == 3) || vs.length != ts.length || env.blockKind != .function) = true then pure none else
    if (vs.any isStarX) = true then pure none else
    if ((swNames env.scope ts).length != ts.length || (swNames env.scope ts).eraseDups.length != (swNames env.scope ts).length) = true then pure none else
    if vs.all (foldedForSure 8) = true then pure none else
    if vs.all (constantsAlone 8) = true then (unsupported "assign.tuple-of-constant-expressions:order-of-the-stores" >>= fun (_ : PUnit) => pure (some (swNames env.scope ts))) else pure (some (swNames env.scope ts)) := rfl
theorem stores_par {ts vs : List Expr} {n m : Nat} {p q : Pos} {env : PySem.Env} {sc : Scope} (hs : env.scope = sc) (hk : sc.kind = .function) (hl : (ts.length == 2 || ts.length == 3) = true) (hv : vs.length = ts.length) (hn : vs.any isStarX = false) (h1 : (swNames sc ts).length = ts.length)
    (h2 : (swNames sc ts).eraseDups.length = (swNames sc ts).length) (h3 : vs.all (foldedForSure 8) = false) (h4 : vs.all (constantsAlone 8) = false) : swappedStores [.Tuple ts n p] (.Tuple vs m q) env = pure (some (swNames sc ts)) := by
  have hb : env.blockKind = .function := by unfold Env.blockKind; rw [hs, hk]; rfl
  rw [sw_eq, hs, hb, hl, hv, h2, h1, h3, h4, hn]
  simp
theorem stores_big {ts vs : List Expr} {n m : Nat} {p q : Pos} {env : PySem.Env} (hl : (ts.length == 2 || ts.length == 3) = false) : swappedStores [.Tuple ts n p] (.Tuple vs m q) env = pure none := by
  rw [sw_eq, hl]
  rfl
theorem filterMap_short {A B : Type} {f : A → Option B} : ∀ {l : List A}, (∃ t ∈ l, f t = none) → (l.filterMap f).length ≠ l.length
  | a :: l, ⟨t, ht, hx⟩, e => by
    have le : (l.filterMap f).length ≤ l.length := List.length_filterMap_le f l
    rcases List.mem_cons.mp ht with rfl | ht
    · rw [List.filterMap_cons, hx] at e
      simp only [List.length_cons] at e
      omega
    · have ih := filterMap_short ⟨t, ht, hx⟩
      rw [List.filterMap_cons] at e
      split at e
      · simp only [List.length_cons] at e
        omega
      · simp only [List.length_cons] at e
        omega
theorem stores_sub2 {ts vs : List Expr} {n m : Nat} {p q : Pos} {env : PySem.Env} (h : ∃ t ∈ ts, isNameX t = false) : swappedStores [.Tuple ts n p] (.Tuple vs m q) env = pure none := by
  have key : (swNames env.scope ts).length ≠ ts.length := by
    obtain ⟨t, ht, hx⟩ := h
    refine filterMap_short ⟨t, ht, ?_⟩
    cases t <;> first | rfl | (simp [isNameX] at hx)
  rw [sw_eq]
  split
  · rfl
  · split
    · rfl
    · rw [if_pos]
      simp [key]
theorem swaps_cell {elt : Expr} {gens : List Comprehension} {sc : Scope} {p q : Pos} {x : Str} {l : Nat} {env : PySem.Env} (h : env.scope.names.lookup x = some .cell) : swapsWith (.ListComp elt gens sc p) (some (.Name x q)) l env = pure false := by
  have e : swapsWith (.ListComp elt gens sc p) (some (.Name x q)) l env = pure (env.blockKind == .function && env.kindOf x == some .local && q.line == (Expr.ListComp elt gens sc p).pos.line && !(sc.names.any fun (n, k) => n == x && (k == .local || k == .cell))) := rfl
  have k : (env.kindOf x == some .local) = false := by
    have e : env.kindOf x = env.scope.names.lookup x := rfl
    rw [e, h]
    rfl
  rw [e, k, Bool.and_false, Bool.false_and, Bool.false_and]
theorem stores_len {ts vs : List Expr} {n m : Nat} {p q : Pos} {env : PySem.Env} (h : (swNames env.scope ts).length ≠ ts.length) : swappedStores [.Tuple ts n p] (.Tuple vs m q) env = pure none := by
  rw [sw_eq]
  split
  · rfl
  · split
    · rfl
    · rw [if_pos]
      simp [h]
end DI

set_option Elab.async false
set_option linter.all false
set_option maxRecDepth 100000
set_option maxHeartbeats 4000000
namespace DI
open PySem PySem.Spec PyProof.Rows L2
/-- the classes' tables: attributes, properties, makers, constants; which defs are methods -/
structure CT where
  atts : List Str
  prps : List (Nat × Str × Nat)
  news : List (Nat × Str × Nat)
  csts : List (Nat × Str × Str × Int)
  mets : List Nat
  mtds : List (Nat × Str × Nat)
  lens : List (Nat × Nat)
  gens : List (Nat × Str)
structure Sc where
  N : List Str
  sc : Scope
  fc : Option Scope
  fs : List Str
  ct : CT
inductive Md where
  | k | p | f
  deriving DecidableEq
def Md.rl (m : Md) (K : Kg) : Rl D V := match m with
  | .k => relK K
  | .p => relP K
  | .f => relF K
def visB (c : Sc) (x : Str) : Bool := match c.sc.names.lookup x with
  | some .local => true
  | some .cell => true
  | some .free => true
  | _ => false
def locB (c : Sc) (x : Str) : Bool := match c.sc.names.lookup x with
  | some .local => true
  | some .cell => (match c.fc with
    | none => true
    | some s => decide (s.names.lookup x = some .cell))
  | _ => false
def lclB (c : Sc) (x : Str) : Bool := decide (c.sc.names.lookup x = some .local)
def glB (c : Sc) (x : Str) : Bool := decide (c.sc.names.lookup x = some .globalImplicit)
def okN (x : Str) : Bool := !(x == ("__debug__" : Str)) && !(x == ("__classdict__" : Str))
def varB (c : Sc) (i : Nat) (x : Str) : Bool := decide (c.N[i]? = some x) && visB c x && okN x
def bltNs : List Str := ["len", "list", "tuple", "sum", "all", "any", "min", "max", "sorted", "abs", "isinstance", "range", "enumerate", "zip", "set", "int", "bool", "str", "repr"]
def conB (c : Sc) : D → Expr → Bool
  | .int i, e => (match e with
    | .Constant (.int j) _ _ => decide (i = j)
    | _ => false)
  | .bl i, e => (match e with
    | .Constant (.bool j) _ _ => decide (i = j)
    | _ => false)
  | .str i, e => (match e with
    | .Constant (.str j) _ _ => decide (i = j)
    | _ => false)
  | .non, e => (match e with
    | .Constant .none _ _ => true
    | _ => false)
  | .ty n, e => (match e with
    | .Name x _ => glB c x && ((decide (n = "int") && decide (x = ("int" : Str))) || (decide (n = "bool") && decide (x = ("bool" : Str))) || (decide (n = "tuple") && decide (x = ("tuple" : Str))) || (decide (n = "str") && decide (x = ("str" : Str))))
    | _ => false)
  | _, _ => false
def Sc.blk (c : Sc) (s : Scope) : Sc := { c with sc := relS s c.sc, fc := some s }
mutual
def dE (c : Sc) (G : List Bool) : Md → IE → Expr → Bool
  | md, .var i, e => (match e with
    | .Name x _ => varB c i x && (match md with
      | .k => !(G.getD i false)
      | .p => true
      | .f => false)
    | _ => false)
  | md, .con d, e => decide (md ≠ .f) && conB c d e
  | _, .glb _ _, _ => false
  | _, .bin op a b, e => (match e with
    | .BinOp ea op' eb _ => decide (op = op') && dE c G .p a ea && dE c G .p b eb
    | _ => false)
  | _, .neg a, e => (match e with
    | .UnaryOp .USub ea _ => dE c G .p a ea
    | _ => false)
  | _, .not a, e => (match e with
    | .UnaryOp .Not ea _ => dE c G .p a ea
    | _ => false)
  | _, .cmp op a b, e => (match e with
    | .Compare ea [op'] [eb] _ => decide (op = op') && !(behindInMarks op eb) && dE c G .p a ea && dE c G .p b eb
    | _ => false)
  | _, .chn o1 o2 a b d, e => (match e with
    | .Compare ea [p1, p2] [eb, ed] _ => decide (o1 = p1) && decide (o2 = p2) && !(lastMarks [o1, o2] [eb, ed]) && dE c G .p a ea && dE c G .p b eb && dE c G .p d ed
    | _ => false)
  | md, .and a b, e => (match e with
    | .BoolOp .And (ea :: eb :: r) p => dE c G md a ea && (match r with
      | [] => dE c G md b eb
      | _ => dE c G md b (.BoolOp .And (eb :: r) p))
    | _ => false)
  | md, .or a b, e => (match e with
    | .BoolOp .Or (ea :: eb :: r) p => dE c G md a ea && (match r with
      | [] => dE c G md b eb
      | _ => dE c G md b (.BoolOp .Or (eb :: r) p))
    | _ => false)
  | md, .ite t a b, e => (match e with
    | .IfExp et ea eb _ => dT c G t et && dE c G md a ea && dE c G md b eb
    | _ => false)
  | _, .tup es, e => (match e with
    | .Tuple l _ _ => dL c G es l
    | _ => false)
  | _, .lst es, e => (match e with
    | .List l _ => dL c G es l
    | _ => false)
  | _, .dnw _, e => (match e with
    | .Dict [] [] _ => true
    | _ => false)
  | _, .dsp ks vs, e => (match e with
    | .Dict keys vals _ => decide (keys ≠ []) && decide (keys.length ≤ 15) && dD c G ks vs keys vals
    | _ => false)
  | md, .idx a i, e => (match e with
    | .Subscript ea ei _ => decide (md ≠ .f) && !(isSliceX ei) && dE c G .p a ea && dE c G .p i ei
    | _ => false)
  | _, .slc a lo hi, e => (match e with
    | .Subscript ea (.Slice el eh none _) _ => dE c G .p a ea && (match el with
      | none => isGap lo
      | some x => !(isGap lo) && dE c G .p lo x) && (match eh with
      | none => isGap hi
      | some x => !(isGap hi) && dE c G .p hi x)
    | _ => false)
  | _, .rev a, e => (match e with
    | .Subscript ea (.Slice none none (some (.UnaryOp .USub (.Constant (.int 1) _ _) _)) _) _ => dE c G .p a ea
    | _ => false)
  | _, .gap, _ => false
  | _, .blt b es, e => (match e with
    | .Call (.Name x _) l [] _ => (match b with
      | .listRg => decide (x = ("list" : Str)) && glB c "list" && glB c "range" && (match l with
        | [.Call (.Name y _) l2 [] _] => decide (y = ("range" : Str)) && dR c G es l2
        | _ => false)
      | .tupRg => decide (x = ("tuple" : Str)) && glB c "tuple" && glB c "range" && (match l with
        | [.Call (.Name y _) l2 [] _] => decide (y = ("range" : Str)) && dR c G es l2
        | _ => false)
      | .lenSet => decide (x = ("len" : Str)) && glB c "len" && glB c "set" && (match l with
        | [.Call (.Name y _) l2 [] _] => decide (y = ("set" : Str)) && (match l2 with
          | [_] => dR c G es l2
          | _ => false)
        | _ => false)
      | _ => decide (x = b.nm) && glB c b.nm && decide (l ≠ []) && dP c G es l)
    | _ => false)
  | _, .mth _ _ _, _ => false
  | md, .cal f x es, e => (match e with
    | .Call (.Name y _) l [] _ => decide (md ≠ .f) && decide (x = y) && decide (c.fs[f]? = some x) && !(c.ct.mets.contains f) && glB c x && okN x && dL c G es l
    | _ => false)
  | _, .lcp ie t it cs own, e => (match e with
    | .ListComp elt [⟨tg, iter, ifs, asy⟩] scope _ => decide (asy = 0) && dI c G it tg iter && blkC c.N c.sc scope (own.map fun i => (c.N.getD i Str.empty, i)) && dG (c.blk scope) G t tg && pureT t && (namesT t).all (own.contains ·) &&
      dQ (c.blk scope) G cs ifs && dE (c.blk scope) G .k ie elt && !(isSetX iter)
    | _ => false)
  | md, .att a x, e => (match e with
    | .Attribute ea y _ => decide (md ≠ .f) && decide (x = y) && c.ct.atts.contains x && baseB ea && dE c G .p a ea
    | _ => false)
  | md, .prp k f a x, e => (match e with
    | .Attribute ea y _ => decide (md ≠ .f) && decide (x = y) && c.ct.prps.contains (k, x, f) && baseB ea && dE c G .p a ea
    | _ => false)
  | md, .mtd k f x o es, e => (match e with
    | .Call (.Attribute eo y ap) l [] p => decide (md ≠ .f) && decide (x = y) && c.ct.mtds.contains (k, x, f) && baseB eo && dE c G .p o eo && (ap.endLine == p.line) && decide (l.length < 30) && dL c G es l
    | _ => false)
  | md, .lnO k f a, e => (match e with
    | .Call (.Name x _) [ea] [] _ => decide (md ≠ .f) && decide (x = ("len" : Str)) && c.ct.lens.contains (k, f) && glB c "len" && notStar ea && dE c G .p a ea
    | _ => false)
  | _, .gls f x es ic, e => (match e with
    | .Call (.Name y _) [.Call (.Name z _) l [] _] [] _ => decide (y = ("list" : Str)) && glB c "list" && decide (x = z) && c.ct.gens.contains (f, x) && glB c x && okN x && dL c G es l.dropLast && !l.dropLast.isEmpty && (match l.getLast? with
      | some (.Starred ec _) => dE c G .k ic ec
      | _ => false)
    | _ => false)
  | md, .new k f x es, e => (match e with
    | .Call (.Name y _) l [] _ => decide (md ≠ .f) && decide (x = y) && c.ct.news.contains (k, x, f) && glB c x && okN x && !l.isEmpty && dL c G es l
    | _ => false)
  | md, .cst k x y d, e => (match e with
    | .Attribute (.Name x' _) y' _ => decide (md ≠ .f) && decide (x = x') && decide (y = y') && glB c x && okN x && (match d with
      | .int i => c.ct.csts.contains (k, x, y, i)
      | _ => false)
    | _ => false)
/-- as a test -/
def dT (c : Sc) (G : List Bool) : IE → Expr → Bool
  | .cmp op a b, e => (match e with
    | .Compare ea [op'] [eb] _ => decide (op = op') && !(behindInMarks op eb) && dE c G .p a ea && dE c G .p b eb
    | _ => false)
  | .chn o1 o2 a b d, e => (match e with
    | .Compare ea [p1, p2] [eb, ed] _ => decide (o1 = p1) && decide (o2 = p2) && !(lastMarks [o1, o2] [eb, ed]) && dE c G .p a ea && dE c G .p b eb && dE c G .p d ed
    | _ => false)
  | .not a, e => (match e with
    | .UnaryOp .Not ea _ => dT c G a ea
    | _ => false)
  | .and a b, e => (match e with
    | .BoolOp .And (ea :: eb :: r) p => dT c G a ea && (match r with
      | [] => dT c G b eb
      | _ => dT c G b (.BoolOp .And (eb :: r) p))
    | _ => false)
  | .or a b, e => (match e with
    | .BoolOp .Or (ea :: eb :: r) p => dT c G a ea && (match r with
      | [] => dT c G b eb
      | _ => dT c G b (.BoolOp .Or (eb :: r) p))
    | _ => false)
  | .var i, e => (match e with
    | .Name x _ => varB c i x
    | _ => false)
  | .cal f x es, e => (match e with
    | .Call (.Name y _) l [] _ => decide (x = y) && decide (c.fs[f]? = some x) && !(c.ct.mets.contains f) && glB c x && okN x && dL c G es l
    | _ => false)
  | .blt b es, e => (match e with
    | .Call (.Name x _) l [] _ => decide (b ≠ .listRg) && decide (b ≠ .tupRg) && decide (b ≠ .lenSet) && decide (x = b.nm) && glB c b.nm && decide (l ≠ []) && dP c G es l
    | _ => false)
  | .bin op a b, e => (match e with
    | .BinOp ea op' eb _ => decide (op = op') && dE c G .p a ea && dE c G .p b eb
    | _ => false)
  | _, _ => false
/-- arguments, known -/
def dL (c : Sc) (G : List Bool) : IEs → List Expr → Bool
  | .nil, l => (match l with
    | [] => true
    | _ => false)
  | .cons a r, l => (match l with
    | e :: es => notStar e && dE c G .k a e && dL c G r es
    | [] => false)
/-- arguments, looked at -/
def dP (c : Sc) (G : List Bool) : IEs → List Expr → Bool
  | .nil, l => (match l with
    | [] => true
    | _ => false)
  | .cons a r, l => (match l with
    | e :: es => notStar e && dE c G .p a e && dP c G r es
    | [] => false)
/-- one or two arguments -/
def dR (c : Sc) (G : List Bool) : IEs → List Expr → Bool
  | .cons a .nil, l => (match l with
    | [e] => notStar e && dE c G .p a e
    | _ => false)
  | .cons a (.cons b .nil), l => (match l with
    | [e, u] => notStar e && notStar u && dE c G .p a e && dE c G .p b u
    | _ => false)
  | _, _ => false
/-- a display's pairs -/
def dD (c : Sc) (G : List Bool) : List Str → IEs → List (Option Expr) → List Expr → Bool
  | ks, .nil, keys, vals => decide (ks = []) && (match keys, vals with
    | [], [] => true
    | _, _ => false)
  | ks, .cons a r, keys, vals => (match ks, keys, vals with
    | k :: ks, some (.Constant (.str s) _ _) :: keys, e :: vals => decide (k = s) && dE c G .k a e && dD c G ks r keys vals
    | _, _, _ => false)
/-- the tests of a comprehension -/
def dQ (c : Sc) (G : List Bool) : IEs → List Expr → Bool
  | .nil, l => (match l with
    | [] => true
    | _ => false)
  | .cons a .nil, l => (match l with
    | [e] => dT c G a e
    | _ => false)
  | _, _ => false
def dG (c : Sc) (G : List Bool) : IT → Expr → Bool
  | .nam i, e => (match e with
    | .Name x _ => decide (c.N[i]? = some x) && locB c x && !(G.getD i false)
    | _ => false)
  | .tup ts, e => (match e with
    | .Tuple l _ _ => dGs c G ts l
    | _ => false)
  | .sub _ _, _ => false
  | .att _ _, _ => false
def dGs (c : Sc) (G : List Bool) : ITs → List Expr → Bool
  | .nil, l => (match l with
    | [] => true
    | _ => false)
  | .cons t r, l => (match l with
    | e :: es => notStar e && pureT t && dG c G t e && dGs c G r es
    | [] => false)
def dI (c : Sc) (G : List Bool) : II → Expr → Expr → Bool
  | .val a, _, e => dE c G .k a e
  | .rng es, _, e => (match e with
    | .Call (.Name x _) l [] _ => decide (x = ("range" : Str)) && glB c "range" && dR c G es l
    | _ => false)
  | .enm a, tg, e => isTupX tg && (match e with
    | .Call (.Name x _) [ea] [] _ => decide (x = ("enumerate" : Str)) && glB c "enumerate" && notStar ea && dE c G .k a ea
    | _ => false)
  | .zip a b, tg, e => isTupX tg && (match e with
    | .Call (.Name x _) [ea, eb] [] _ => decide (x = ("zip" : Str)) && glB c "zip" && notStar ea && notStar eb && dE c G .k a ea && dE c G .k b eb
    | _ => false)
end
end DI

set_option Elab.async false
set_option linter.all false
set_option maxRecDepth 100000
set_option maxHeartbeats 4000000
namespace DI
open PySem PySem.Spec PyProof.Rows L2
/-- what is known where a piece of text stands -/
structure Cok (T : Rd') (k : Nat) (X : Cx) (c : Sc) : Prop where
  hK : T.K.K = X.K
  hN : X.N = c.N
  nd : X.N.Nodup
  sc : X.env.scope = c.sc
  kd : c.sc.kind = .function
  cm : X.calm = true
  xe : X.xe = fun _ _ => False
  hW : T.W = fun _ _ _ _ => False
  rm : RmB k X.A
  fn : ∀ x, (match c.fc with | none => true | some s => decide (s.names.lookup x = some .cell)) = true → X.fn x = true
  bl : ∀ x ∈ bltNs, X.mg x = none
  fs : ∀ f x, c.fs[f]? = some x → FnG X.prog X.w X.K X.mg X.base k (T.K.fa f) (spD T.K T.P f)
  gs : ∀ f x, c.fs[f]? = some x → c.ct.mets.contains f = false → X.mg x = some (.ref (T.K.fa f)) ∧ PySem.W.keepIn X.K (.ref (T.K.fa f)) = true
  at_ : ∀ x, c.ct.atts.contains x = true → ∀ k, Cls X.K (T.K.ca k) ∧ NoAttr X.K (T.K.ca k) x
  pr : ∀ k x f, c.ct.prps.contains (k, x, f) = true → Cls X.K (T.K.ca k) ∧ (∃ pa, PropOf X.K (T.K.ca k) x pa (T.K.fa f)) ∧ ∃ y, c.fs[f]? = some y
  nw : ∀ k x f, c.ct.news.contains (k, x, f) = true → Mk X.K (T.K.ca k) (T.K.fa f) ∧ X.mg x = some (.ref (T.K.ca k)) ∧ ∃ y, c.fs[f]? = some y
  cs : ∀ k x y i, c.ct.csts.contains (k, x, y, i) = true → x ≠ "__name__" ∧ X.mg x = some (.ref (T.K.ca k)) ∧ ∃ mc u, ClX.CRead X.K (T.K.ca k) mc ∧ ClX.CVal X.K (T.K.ca k) mc y (.int i) u
  mt : ∀ k x f, c.ct.mtds.contains (k, x, f) = true → Cls X.K (T.K.ca k) ∧ Meth X.K (T.K.ca k) x (T.K.fa f) ∧ ∃ y, c.fs[f]? = some y
  ln : ∀ k f, c.ct.lens.contains (k, f) = true → Meth X.K (T.K.ca k) "__len__" (T.K.fa f) ∧ ∃ y, c.fs[f]? = some y
  gn : ∀ f x, c.ct.gens.contains (f, x) = true → FnGn X.prog X.w X.K X.mg X.base k (T.K.fa f) (spG T.K T.P f) ∧ X.mg x = some (.ref (T.K.fa f)) ∧ PySem.W.keepIn X.K (.ref (T.K.fa f)) = true
section
variable {T : Rd'} {k : Nat} {X : Cx} {c : Sc} {G : List Bool} {md : Md} {e a b d : Expr} {ie ia ib : IE}
theorem Cok.hu (ok : Cok T k X c) : X.A.units + 65 < cLine := by have := ok.rm.un; omega
theorem Cok.hu1 (ok : Cok T k X c) : X.A.units + 1 < cLine := by have := ok.rm.un; omega
theorem Cok.vis (ok : Cok T k X c) {x : Str} (h : visB c x = true) : Vis X.env.scope x := by
  unfold visB at h
  unfold Vis
  rw [ok.sc]
  split at h
  · rename_i q; exact .inl q
  · rename_i q; exact .inr (.inl q)
  · rename_i q; exact .inr (.inr q)
  · cases h
theorem Cok.loc (ok : Cok T k X c) {x : Str} (h : locB c x = true) : L2.Loc X.env.scope x ∧ (X.fn x = true ∨ X.env.scope.names.lookup x = some .local) := by
  unfold locB at h
  unfold L2.Loc
  rw [ok.sc]
  split at h
  · rename_i q; exact ⟨.inl q, .inr q⟩
  · rename_i q; exact ⟨.inr q, .inl (ok.fn x h)⟩
  · cases h
theorem Cok.gl (ok : Cok T k X c) {x : Str} (h : glB c x = true) : Gl X x := by
  unfold glB at h
  show X.env.scope.names.lookup x = _
  rw [ok.sc]
  exact of_decide_eq_true h
theorem okN_1 {x : Str} (h : okN x = true) : (x == ("__debug__" : Str)) = false ∧ (x == ("__classdict__" : Str)) = false := by
  unfold okN at h
  simpa using h
theorem Cok.var (ok : Cok T k X c) {i : Nat} {x : Str} (h : varB c i x = true) : X.N[i]? = some x ∧ Vis X.env.scope x ∧ (x == ("__debug__" : Str)) = false ∧ (x == ("__classdict__" : Str)) = false := by
  unfold varB at h
  simp only [Bool.and_eq_true, decide_eq_true_eq] at h
  exact ⟨by rw [ok.hN]; exact h.1.1, ok.vis h.1.2, okN_1 h.2⟩
/-- a comprehension's block -/
theorem Cok.blk (ok : Cok T k X c) {scope : Scope} (hk : scope.kind = .function) (s : Shared) (H : Hp) (C : Addr) (cl : List (Str × Addr)) (fp : List Addr) : Cok T k (X.blk s H scope (compEnvC scope cl C X.env) fp) (c.blk scope) := by
  refine ⟨ok.hK, ok.hN, ok.nd, ?_, hk, ok.cm, rfl, ok.hW, ok.rm, fun x h => ?_, ok.bl, ok.fs, ok.gs, ok.at_, ok.pr, ok.nw, ok.cs, ok.mt, ok.ln, ok.gn⟩
  · show relS scope X.env.scope = relS scope c.sc
    rw [ok.sc]
  · have h : decide (scope.names.lookup x = some NameKind.cell) = true := h
    show (scope.names.lookup x == some NameKind.cell) = true
    rw [of_decide_eq_true h]
    rfl
theorem of_f (h : PE X e (tE (T.g G) (relF T.K) ie)) : PE X e (tE (T.g G) (md.rl T.K) ie) := by
  cases md with
  | k => exact pe_know h
  | p => exact pe_peek (pe_know h)
  | f => exact h
theorem of_k (hm : md ≠ .f) (h : PE X e (tE (T.g G) (relK T.K) ie)) : PE X e (tE (T.g G) (md.rl T.K) ie) := by
  cases md with
  | k => exact h
  | p => exact pe_peek h
  | f => exact absurd rfl hm
theorem Md.up (md : Md) (K : Kg) : Up (md.rl K) := by
  cases md with
  | k => exact Up.k
  | p => exact Up.p
  | f => exact Up.f
theorem Md.pk (md : Md) {K : Kg} : ∀ Hs F rs H d v, md.rl K Hs F rs H d v → Pk K F rs H d v := by
  intro Hs F rs H d v h
  cases md with
  | k => exact .inl h
  | p => exact h
  | f =>
    rcases h with ⟨_, h⟩ | ⟨p, e, _, h⟩
    · exact .inl h
    · exact .inr ⟨p, e, h⟩
theorem sCon (ok : Cok T k X c) {dv : D} (h : conB c dv e = true) : PE X e (tE (T.g G) (relK T.K) (.con dv)) := by
  cases dv with
  | int i =>
    unfold conB at h
    dsimp only at h
    split at h
    · have := of_decide_eq_true h
      subst this
      exact lx_con pe_int fun _ _ => rfl
    · cases h
  | bl i =>
    unfold conB at h
    dsimp only at h
    split at h
    · have := of_decide_eq_true h
      subst this
      exact lx_con pe_bl fun _ _ => rfl
    · cases h
  | str i =>
    unfold conB at h
    dsimp only at h
    split at h
    · have := of_decide_eq_true h
      subst this
      exact lx_con pe_str fun _ _ => rfl
    · cases h
  | non =>
    unfold conB at h
    dsimp only at h
    split at h
    · exact lx_con pe_non fun _ _ => rfl
    · cases h
  | ty n =>
    unfold conB at h
    dsimp only at h
    split at h
    · simp only [Bool.and_eq_true, Bool.or_eq_true, decide_eq_true_eq] at h
      obtain ⟨g, h⟩ := h
      rcases h with ((⟨rfl, rfl⟩ | ⟨rfl, rfl⟩) | ⟨rfl, rfl⟩) | ⟨rfl, rfl⟩
      · exact lx_con (pe_bltn (v := .ty "int") (ok.gl g) (ok.bl _ (by decide)) (by decide +kernel : bootBuiltins "int" = some (.type "int")) rfl (by decide) (by decide)) fun _ _ => rfl
      · exact lx_con (pe_bltn (v := .ty "bool") (ok.gl g) (ok.bl _ (by decide)) (by decide +kernel : bootBuiltins "bool" = some (.type "bool")) rfl (by decide) (by decide)) fun _ _ => rfl
      · exact lx_con (pe_bltn (v := .ty "tuple") (ok.gl g) (ok.bl _ (by decide)) (by decide +kernel : bootBuiltins "tuple" = some (.type "tuple")) rfl (by decide) (by decide)) fun _ _ => rfl
      · exact lx_con (pe_bltn (v := .ty "str") (ok.gl g) (ok.bl _ (by decide)) (by decide +kernel : bootBuiltins "str" = some (.type "str")) rfl (by decide) (by decide)) fun _ _ => rfl
    · cases h
  | _ => simp [conB] at h
theorem dP_star : ∀ {es : IEs} {l : List Expr}, dP c G es l = true → l.all notStar = true
  | .nil, l, h => by
    rw [dP.eq_def] at h
    dsimp only at h
    split at h
    · rfl
    · cases h
  | .cons a r, l, h => by
    rw [dP.eq_def] at h
    dsimp only at h
    split at h
    · simp only [Bool.and_eq_true] at h
      simp only [List.all_cons, Bool.and_eq_true]
      exact ⟨h.1.1, dP_star h.2⟩
    · cases h
theorem dL_star : ∀ {es : IEs} {l : List Expr}, dL c G es l = true → l.all notStar = true
  | .nil, l, h => by
    rw [dL.eq_def] at h
    dsimp only at h
    split at h
    · rfl
    · cases h
  | .cons a r, l, h => by
    rw [dL.eq_def] at h
    dsimp only at h
    split at h
    · simp only [Bool.and_eq_true] at h
      simp only [List.all_cons, Bool.and_eq_true]
      exact ⟨h.1.1, dL_star h.2⟩
    · cases h
theorem dGs_star : ∀ {ts : ITs} {l : List Expr}, dGs c G ts l = true → l.all notStar = true ∧ l.length = lenTs ts
  | .nil, l, h => by
    rw [dGs.eq_def] at h
    dsimp only at h
    split at h
    · exact ⟨rfl, rfl⟩
    · cases h
  | .cons a r, l, h => by
    rw [dGs.eq_def] at h
    dsimp only at h
    split at h
    · simp only [Bool.and_eq_true] at h
      simp only [List.all_cons, Bool.and_eq_true]
      have ih := dGs_star h.2
      exact ⟨⟨h.1.1.1, ih.1⟩, by simp [lenTs, ih.2]⟩
    · cases h
/-- a built-in function by its name -/
theorem sBlt (ok : Cok T k X c) {bi : Bi} {es : IEs} {l : List Expr} {p pos : Pos} (h1 : bi ≠ .listRg) (h2 : bi ≠ .tupRg) (h3 : bi ≠ .lenSet) (g : glB c bi.nm = true) (hl : l ≠ []) (hs : l.all notStar = true) (ha : PA X l (tL (T.g G) (relPs T.K) es)) :
    PE X (.Call (.Name bi.nm p) l [] pos) (tE (T.g G) (relF T.K) (.blt bi es)) := by
  cases l with
  | nil => exact absurd rfl hl
  | cons a l =>
    simp only [List.all_cons, Bool.and_eq_true] at hs
    have hm : X.mg bi.nm = none := ok.bl _ (by cases bi <;> decide)
    exact lx_blt (T := T.g G) ok.hK ok.cm ok.rm.gd ok.hu h1 h2 h3 (ok.gl g) hm (star_cons hs.1) (star_any hs.2) ha
theorem sCal (ok : Cok T k X c) {f : Nat} {x : Str} {es : IEs} {l : List Expr} {p pos : Pos} (hf : c.fs[f]? = some x) (hmt : c.ct.mets.contains f = false) (g : glB c x = true) (hx : okN x = true) (hd : dL c G es l = true) (ha : PA X l (tL (T.g G) (relL T.K) es)) :
    PE X (.Call (.Name x p) l [] pos) (tE (T.g G) (relK T.K) (.cal f x es)) := by
  have m3 := ok.fs f x hf
  obtain ⟨m1, m2⟩ := ok.gs f x hf hmt
  have hs := dL_star hd
  cases l with
  | nil =>
    cases es with
    | nil => exact lx_cal0 (T := T.g G) ok.hW m3 ok.rm m2 (ok.gl g) m1 (okN_1 hx).1
    | cons _ _ => simp [dL] at hd
  | cons a l =>
    simp only [List.all_cons, Bool.and_eq_true] at hs
    exact lx_cal (T := T.g G) ok.hW m3 ok.rm m2 (ok.gl g) m1 (okN_1 hx).1 ha (star_cons hs.1) (star_any hs.2)
end
end DI

set_option Elab.async false
set_option linter.all false
set_option maxRecDepth 100000
set_option maxHeartbeats 8000000
namespace DI
open PySem PySem.Spec PyProof.Rows L2
def isBO : Expr → Bool
  | .BoolOp _ _ _ => true
  | _ => false
theorem own_snd (N : List Str) (own : List Nat) : (own.map fun i => (N.getD i Str.empty, i)).map (·.2) = own := by
  rw [List.map_map]
  exact List.map_id' own
section
variable {T : Rd'} {k : Nat}
mutual
theorem sE : ∀ (ie : IE) {X : Cx} {c : Sc} {G : List Bool} {md : Md} {e : Expr}, Cok T k X c → dE c G md ie e = true → PE X e (tE (T.g G) (md.rl T.K) ie)
  | .var i, X, c, G, md, e, ok, h => by
    rw [dE.eq_def] at h
    dsimp only at h
    split at h
    · rename_i x p
      simp only [Bool.and_eq_true] at h
      obtain ⟨a1, a2, a3, a4⟩ := ok.var h.1
      cases md with
      | k =>
        have g : (T.g G).G.getD i false = false := by simpa using h.2
        exact lx_var (T := T.g G) a1 a2 a3 a4 g
      | p => exact lx_varP (T := T.g G) a1 a2 a3 a4
      | f => cases h.2
    · cases h
  | .con d, X, c, G, md, e, ok, h => by
    rw [dE.eq_def] at h
    dsimp only at h
    simp only [Bool.and_eq_true, decide_eq_true_eq] at h
    exact of_k h.1 (sCon ok h.2)
  | .glb _ _, X, c, G, md, e, ok, h => by
    rw [dE.eq_def] at h
    cases h
  | .bin op a b, X, c, G, md, e, ok, h => by
    rw [dE.eq_def] at h
    dsimp only at h
    split at h
    · simp only [Bool.and_eq_true, decide_eq_true_eq] at h
      obtain ⟨⟨rfl, h1⟩, h2⟩ := h
      exact of_f (lx_bin (T := T.g G) ok.hK (sE a ok h1) (sE b ok h2))
    · cases h
  | .neg a, X, c, G, md, e, ok, h => by
    rw [dE.eq_def] at h
    dsimp only at h
    split at h
    · exact of_f (lx_neg (T := T.g G) (sE a ok h))
    · cases h
  | .not a, X, c, G, md, e, ok, h => by
    rw [dE.eq_def] at h
    dsimp only at h
    split at h
    · exact of_f (lx_not (T := T.g G) ok.hK (sE a ok h))
    · cases h
  | .cmp op a b, X, c, G, md, e, ok, h => by
    rw [dE.eq_def] at h
    dsimp only at h
    split at h
    · simp only [Bool.and_eq_true, decide_eq_true_eq, Bool.not_eq_true'] at h
      obtain ⟨⟨⟨rfl, h0⟩, h1⟩, h2⟩ := h
      exact of_f (lx_cmp (T := T.g G) ok.hK ok.hu h0 (sE a ok h1) (sE b ok h2))
    · cases h
  | .chn o1 o2 a b d, X, c, G, md, e, ok, h => by
    rw [dE.eq_def] at h
    dsimp only at h
    split at h
    · simp only [Bool.and_eq_true, decide_eq_true_eq, Bool.not_eq_true'] at h
      obtain ⟨⟨⟨⟨⟨rfl, rfl⟩, h0⟩, h1⟩, h2⟩, h3⟩ := h
      exact of_f (lx_chn (T := T.g G) ok.hK ok.hu h0 (sE a ok h1) (sE b ok h2) (sE d ok h3))
    · cases h
  | .and a b, X, c, G, md, e, ok, h => by
    rw [dE.eq_def] at h
    dsimp only at h
    split at h
    · rename_i ea eb r p
      simp only [Bool.and_eq_true] at h
      obtain ⟨h1, h2⟩ := h
      refine lx_and (T := T.g G) ok.hK (md.up _) md.pk (sE a ok h1) ?_
      split at h2
      · exact pe_one (sE b ok h2)
      · exact sE b ok h2
    · cases h
  | .or a b, X, c, G, md, e, ok, h => by
    rw [dE.eq_def] at h
    dsimp only at h
    split at h
    · rename_i ea eb r p
      simp only [Bool.and_eq_true] at h
      obtain ⟨h1, h2⟩ := h
      refine lx_or (T := T.g G) ok.hK (md.up _) md.pk (sE a ok h1) ?_
      split at h2
      · exact pe_one (sE b ok h2)
      · exact sE b ok h2
    · cases h
  | .ite t a b, X, c, G, md, e, ok, h => by
    rw [dE.eq_def] at h
    dsimp only at h
    split at h
    · simp only [Bool.and_eq_true] at h
      obtain ⟨⟨h0, h1⟩, h2⟩ := h
      exact lx_ite (T := T.g G) (md.up _) (sT t ok h0).1 (sE a ok h1) (sE b ok h2)
    · cases h
  | .tup es, X, c, G, md, e, ok, h => by
    rw [dE.eq_def] at h
    dsimp only at h
    split at h
    · exact of_f (lx_tup (T := T.g G) (sL es ok h))
    · cases h
  | .lst es, X, c, G, md, e, ok, h => by
    rw [dE.eq_def] at h
    dsimp only at h
    split at h
    · exact of_f (lx_lst (T := T.g G) (sL es ok h))
    · cases h
  | .dnw tk, X, c, G, md, e, ok, h => by
    rw [dE.eq_def] at h
    dsimp only at h
    split at h
    · exact of_f (lx_dnew (T := T.g G))
    · cases h
  | .dsp ks vs, X, c, G, md, e, ok, h => by
    rw [dE.eq_def] at h
    dsimp only at h
    split at h
    · simp only [Bool.and_eq_true, decide_eq_true_eq] at h
      exact of_f (lx_dsp (T := T.g G) (sD vs ok h.2) h.1.1 h.1.2)
    · cases h
  | .idx a i, X, c, G, md, e, ok, h => by
    rw [dE.eq_def] at h
    dsimp only at h
    split at h
    · simp only [Bool.and_eq_true, decide_eq_true_eq, Bool.not_eq_true'] at h
      obtain ⟨⟨⟨hm, hs⟩, h1⟩, h2⟩ := h
      exact of_k hm (lx_idx (T := T.g G) ok.hK ok.hu1 (plain_ix hs) (sE a ok h1) (sE i ok h2))
    · cases h
  | .slc a lo hi, X, c, G, md, e, ok, h => by
    rw [dE.eq_def] at h
    dsimp only at h
    split at h
    · rename_i ea el eh p1 p2
      simp only [Bool.and_eq_true] at h
      obtain ⟨⟨h1, h2⟩, h3⟩ := h
      refine of_f (lx_slc (T := T.g G) ok.hK (sE a ok h1) ?_ ?_)
      · split at h2
        · cases lo <;> first | exact lo_none | (simp [isGap] at h2)
        · simp only [Bool.and_eq_true, Bool.not_eq_true'] at h2
          exact lo_some (T := T.g G) h2.1 (sE lo ok h2.2)
      · split at h3
        · cases hi <;> first | exact lo_none | (simp [isGap] at h3)
        · simp only [Bool.and_eq_true, Bool.not_eq_true'] at h3
          exact lo_some (T := T.g G) h3.1 (sE hi ok h3.2)
    · cases h
  | .rev a, X, c, G, md, e, ok, h => by
    rw [dE.eq_def] at h
    dsimp only at h
    split at h
    · exact of_f (lx_rev (T := T.g G) (sE a ok h))
    · cases h
  | .gap, X, c, G, md, e, ok, h => by
    rw [dE.eq_def] at h
    cases h
  | .blt bi es, X, c, G, md, e, ok, h => by
    rw [dE.eq_def] at h
    dsimp only at h
    split at h
    · rename_i x p l p2
      split at h
      · simp only [Bool.and_eq_true, decide_eq_true_eq] at h
        obtain ⟨⟨⟨rfl, g1⟩, g2⟩, h⟩ := h
        split at h
        · simp only [Bool.and_eq_true, decide_eq_true_eq] at h
          obtain ⟨rfl, h⟩ := h
          refine of_f ?_
          rcases sR es ok h with ⟨a, ia, rfl, rfl, n1, ha⟩ | ⟨a, b, ia, ib, rfl, rfl, n1, n2, ha, hb⟩
          · exact lx_rg1 (T := T.g G) (t := false) ok.cm (ok.gl g1) (ok.bl _ (by decide)) (ok.gl g2) (ok.bl _ (by decide)) rfl (star_cons n1) ha
          · exact lx_rg2 (T := T.g G) (t := false) ok.cm (ok.gl g1) (ok.bl _ (by decide)) (ok.gl g2) (ok.bl _ (by decide)) rfl (star_cons n1) (star_cons n2) (star_any (by simp [n2])) ha hb
        · cases h
      · simp only [Bool.and_eq_true, decide_eq_true_eq] at h
        obtain ⟨⟨⟨rfl, g1⟩, g2⟩, h⟩ := h
        split at h
        · simp only [Bool.and_eq_true, decide_eq_true_eq] at h
          obtain ⟨rfl, h⟩ := h
          refine of_f ?_
          rcases sR es ok h with ⟨a, ia, rfl, rfl, n1, ha⟩ | ⟨a, b, ia, ib, rfl, rfl, n1, n2, ha, hb⟩
          · exact lx_rg1 (T := T.g G) (t := true) ok.cm (ok.gl g1) (ok.bl _ (by decide)) (ok.gl g2) (ok.bl _ (by decide)) rfl (star_cons n1) ha
          · exact lx_rg2 (T := T.g G) (t := true) ok.cm (ok.gl g1) (ok.bl _ (by decide)) (ok.gl g2) (ok.bl _ (by decide)) rfl (star_cons n1) (star_cons n2) (star_any (by simp [n2])) ha hb
        · cases h
      · simp only [Bool.and_eq_true, decide_eq_true_eq] at h
        obtain ⟨⟨⟨rfl, g1⟩, g2⟩, h⟩ := h
        split at h
        · simp only [Bool.and_eq_true, decide_eq_true_eq] at h
          obtain ⟨rfl, h⟩ := h
          split at h
          · refine of_f ?_
            rcases sR es ok h with ⟨a, ia, hl, rfl, n1, ha⟩ | ⟨a, b, ia, ib, hl, rfl, n1, n2, ha, hb⟩
            · cases hl
              exact lx_lenSet (T := T.g G) ok.hK ok.cm (ok.gl g1) (ok.bl _ (by decide)) (ok.gl g2) (ok.bl _ (by decide)) (star_cons n1) ha
            · cases hl
          · cases h
        · cases h
      · rename_i n1 n2 n3
        simp only [Bool.and_eq_true, decide_eq_true_eq] at h
        obtain ⟨⟨⟨rfl, g⟩, hl⟩, h⟩ := h
        exact of_f (sBlt ok n1 n2 n3 g hl (dP_star h) (sP es ok h))
    · cases h
  | .mth _ _ _, X, c, G, md, e, ok, h => by
    rw [dE.eq_def] at h
    cases h
  | .cal f x es, X, c, G, md, e, ok, h => by
    rw [dE.eq_def] at h
    dsimp only at h
    split at h
    · simp only [Bool.and_eq_true, decide_eq_true_eq] at h
      obtain ⟨⟨⟨⟨⟨⟨hm, rfl⟩, hf⟩, hmt⟩, g⟩, hx⟩, hl⟩ := h
      exact of_k hm (sCal ok hf (by simpa using hmt) g hx hl (sL es ok hl))
    · cases h
  | .lcp ie t it cs own, X, c, G, md, e, ok, h => by
    rw [dE.eq_def] at h
    dsimp only at h
    split at h
    · rename_i elt tg iter ifs asy scope p
      simp only [Bool.and_eq_true, decide_eq_true_eq, Bool.not_eq_true'] at h
      obtain ⟨⟨⟨⟨⟨⟨⟨⟨rfl, hi⟩, hb⟩, hg⟩, hp⟩, hn⟩, hq⟩, he⟩, hs⟩ := h
      have bo := blkOk_by hb
      have z := lx_lcp (X := X) (T := T.g G) (pos := p) (own := own.map fun i => (c.N.getD i Str.empty, i)) (ie := ie) (t := t) (it := it) (c := cs) (elt := elt) (ifs := ifs) (scope := scope) ok.cm ok.nd (sI it ok hi) (by rw [ok.hN, ok.sc]; exact bo)
        (fun s H C cl fp => sG t (ok.blk bo.kind s H C cl fp) hg) (fun s H C cl fp => sQ cs (ok.blk bo.kind s H C cl fp) hq) (fun s H C cl fp => sE ie (ok.blk bo.kind s H C cl fp) he) (set_plain hs)
        (fun i hi => by rw [own_snd]; exact List.contains_iff_mem.mp (List.all_eq_true.mp hn i hi)) hp
      rw [own_snd] at z
      exact of_f z
    · cases h
  | .att a x, X, c, G, md, e, ok, h => by
    rw [dE.eq_def] at h
    dsimp only at h
    split at h
    · simp only [Bool.and_eq_true, decide_eq_true_eq] at h
      obtain ⟨⟨⟨⟨hm, rfl⟩, hA⟩, hb⟩, h⟩ := h
      exact of_k hm (lx_att (T := T.g G) ok.hK (ok.at_ _ hA) (sE a (md := .p) ok h) (base_of hb _))
    · cases h
  | .prp k f a x, X, c, G, md, e, ok, h => by
    rw [dE.eq_def] at h
    dsimp only at h
    split at h
    · simp only [Bool.and_eq_true, decide_eq_true_eq] at h
      obtain ⟨⟨⟨⟨hm, rfl⟩, hA⟩, hb⟩, h⟩ := h
      obtain ⟨p1, ⟨pa, p2⟩, y, p3⟩ := ok.pr _ _ _ hA
      exact of_k hm (lx_prp (T := T.g G) ok.hW (ok.fs f y p3) ok.rm p1 p2 (sE a (md := .p) ok h) (base_of hb _))
    · cases h
  | .mtd k f x o es, X, c, G, md, e, ok, h => by
    rw [dE.eq_def] at h
    dsimp only at h
    split at h
    · rename_i eo y ap l p
      simp only [Bool.and_eq_true, decide_eq_true_eq] at h
      obtain ⟨⟨⟨⟨⟨⟨⟨hm, rfl⟩, hA⟩, hb⟩, ho⟩, hl⟩, h30⟩, h⟩ := h
      obtain ⟨p1, p2, y, p3⟩ := ok.mt _ _ _ hA
      have hs := dL_star h
      cases l with
      | nil =>
        cases es with
        | nil => exact of_k hm (lx_mtd0 (T := T.g G) ok.hW (ok.fs f y p3) ok.rm p1 p2 (sE o (md := .p) ok ho) (base_of hb _) hl)
        | cons _ _ => rw [dL.eq_def] at h; cases h
      | cons a l =>
        have hs2 := hs
        simp only [List.all_cons, Bool.and_eq_true] at hs2
        exact of_k hm (lx_mtd (T := T.g G) ok.hW (ok.fs f y p3) ok.rm p1 p2 (sE o (md := .p) ok ho) (sL es ok h) (base_of hb _) (star_cons hs2.1) (star_any hs2.2) (few_form hs h30) hl)
    · cases h
  | .lnO k f a, X, c, G, md, e, ok, h => by
    rw [dE.eq_def] at h
    dsimp only at h
    split at h
    · simp only [Bool.and_eq_true, decide_eq_true_eq] at h
      obtain ⟨⟨⟨⟨⟨hm, rfl⟩, hA⟩, g⟩, hn⟩, h⟩ := h
      obtain ⟨p2, y, p3⟩ := ok.ln _ _ hA
      exact of_k hm (lx_lnO (T := T.g G) ok.hW (ok.fs f y p3) ok.rm p2 (ok.gl g) (ok.bl _ (by decide)) (sE a (md := .p) ok h) (star_cons hn))
    · cases h
  | .gls f x es ic, X, c, G, md, e, ok, h => by
    rw [dE.eq_def] at h
    dsimp only at h
    split at h
    · rename_i y p1 z p2 l p3 p4
      simp only [Bool.and_eq_true, decide_eq_true_eq, Bool.not_eq_true'] at h
      obtain ⟨⟨⟨⟨⟨⟨⟨⟨rfl, g1⟩, rfl⟩, hA⟩, g2⟩, hx⟩, hL⟩, hne⟩, hS⟩ := h
      split at hS
      · rename_i ec q hlast
        have hs := dL_star hL
        have el : l = l.dropLast ++ [.Starred ec q] := by
          have hn : l ≠ [] := by rintro rfl; simp at hlast
          have := List.dropLast_concat_getLast hn
          rw [List.getLast?_eq_getLast hn] at hlast
          injection hlast with hlast
          rw [hlast] at this
          exact this.symm
        generalize l.dropLast = l0 at *
        subst el
        obtain ⟨m1, m2, m3⟩ := ok.gn _ _ hA
        cases l0 with
        | nil => cases hne
        | cons a l0 =>
          have hs2 := hs
          simp only [List.all_cons, Bool.and_eq_true] at hs2
          exact of_f (lx_gls (T := T.g G) ok.hW m1 ok.rm m3 (ok.gl g2) m2 (okN_1 hx).1 (sLS es ok hL (sE ic (md := .k) ok hS)) (star_cons hs2.1) (star_last hs2.2) (ok.gl g1) (ok.bl _ (by decide)) (star_cons rfl))
      · cases hS
    · cases h
  | .new k f x es, X, c, G, md, e, ok, h => by
    rw [dE.eq_def] at h
    dsimp only at h
    split at h
    · rename_i y p l p2
      simp only [Bool.and_eq_true, decide_eq_true_eq, Bool.not_eq_true'] at h
      obtain ⟨⟨⟨⟨⟨⟨hm, rfl⟩, hA⟩, g⟩, hx⟩, hl⟩, h⟩ := h
      obtain ⟨p1, p2, y, p3⟩ := ok.nw _ _ _ hA
      have hs := dL_star h
      cases l with
      | nil => cases hl
      | cons a l =>
        simp only [List.all_cons, Bool.and_eq_true] at hs
        exact of_k hm (lx_new (T := T.g G) ok.hW p1 (ok.fs f y p3) ok.rm (ok.gl g) p2 (okN_1 hx).1 (sL es ok h) (star_cons hs.1) (star_any hs.2))
    · cases h
  | .cst k x y d, X, c, G, md, e, ok, h => by
    rw [dE.eq_def] at h
    dsimp only at h
    split at h
    · simp only [Bool.and_eq_true, decide_eq_true_eq] at h
      obtain ⟨⟨⟨⟨⟨hm, rfl⟩, rfl⟩, g⟩, hx⟩, h⟩ := h
      cases d with
      | int i =>
        obtain ⟨p0, p1, mc, u, p2, p3⟩ := ok.cs _ _ _ _ h
        exact of_k hm (lx_cst (T := T.g G) (ok.gl g) p1 (okN_1 hx).1 p0 p2 p3 (fun _ _ => rfl) (base_of rfl _))
      | _ => cases h
    · cases h
theorem sT : ∀ (ie : IE) {X : Cx} {c : Sc} {G : List Bool} {e : Expr}, Cok T k X c → dT c G ie e = true → PT X e (tB' (T.g G) ie) ∧ (isBO e = true → PW X e (tB' (T.g G) ie))
  | .cmp op a b, X, c, G, e, ok, h => by
    rw [dT.eq_def] at h
    dsimp only at h
    split at h
    · simp only [Bool.and_eq_true, decide_eq_true_eq, Bool.not_eq_true'] at h
      obtain ⟨⟨⟨rfl, h0⟩, h1⟩, h2⟩ := h
      exact ⟨lt_cmp (T := T.g G) ok.hK ok.hu h0 (sE a (md := .p) ok h1) (sE b (md := .p) ok h2), fun z => by cases z⟩
    · cases h
  | .chn o1 o2 a b d, X, c, G, e, ok, h => by
    rw [dT.eq_def] at h
    dsimp only at h
    split at h
    · simp only [Bool.and_eq_true, decide_eq_true_eq, Bool.not_eq_true'] at h
      obtain ⟨⟨⟨⟨⟨rfl, rfl⟩, h0⟩, h1⟩, h2⟩, h3⟩ := h
      exact ⟨lt_chn (T := T.g G) ok.hK ok.hu h0 (sE a (md := .p) ok h1) (sE b (md := .p) ok h2) (sE d (md := .p) ok h3), fun z => by cases z⟩
    · cases h
  | .not a, X, c, G, e, ok, h => by
    rw [dT.eq_def] at h
    dsimp only at h
    split at h
    · exact ⟨lt_not (T := T.g G) (sT a ok h).1, fun z => by cases z⟩
    · cases h
  | .and a b, X, c, G, e, ok, h => by
    rw [dT.eq_def] at h
    dsimp only at h
    split at h
    · rename_i ea eb r p
      simp only [Bool.and_eq_true] at h
      obtain ⟨h1, h2⟩ := h
      have hb : PW X (.BoolOp .And (eb :: r) p) (tB' (T.g G) b) := by
        split at h2
        · exact pw_and1 (sT b ok h2).1
        · exact (sT b ok h2).2 rfl
      have w := lw_and (T := T.g G) (sT a ok h1).1 hb
      exact ⟨w.pt, fun _ => w⟩
    · cases h
  | .or a b, X, c, G, e, ok, h => by
    rw [dT.eq_def] at h
    dsimp only at h
    split at h
    · rename_i ea eb r p
      simp only [Bool.and_eq_true] at h
      obtain ⟨h1, h2⟩ := h
      have hb : PW X (.BoolOp .Or (eb :: r) p) (tB' (T.g G) b) := by
        split at h2
        · exact pw_or1 (sT b ok h2).1
        · exact (sT b ok h2).2 rfl
      have w := lw_or (T := T.g G) (sT a ok h1).1 hb
      exact ⟨w.pt, fun _ => w⟩
    · cases h
  | .var i, X, c, G, e, ok, h => by
    rw [dT.eq_def] at h
    dsimp only at h
    split at h
    · obtain ⟨a1, a2, a3, a4⟩ := ok.var h
      exact ⟨lt_val (T := T.g G) ok.hK (lx_varP (T := T.g G) a1 a2 a3 a4) (plain_is rfl), fun z => by cases z⟩
    · cases h
  | .cal f x es, X, c, G, e, ok, h => by
    rw [dT.eq_def] at h
    dsimp only at h
    split at h
    · simp only [Bool.and_eq_true, decide_eq_true_eq] at h
      obtain ⟨⟨⟨⟨⟨rfl, hf⟩, hmt⟩, g⟩, hx⟩, hl⟩ := h
      exact ⟨lt_val (T := T.g G) ok.hK (pe_peek (sCal ok hf (by simpa using hmt) g hx hl (sL es ok hl))) (plain_is rfl), fun z => by cases z⟩
    · cases h
  | .blt bi es, X, c, G, e, ok, h => by
    rw [dT.eq_def] at h
    dsimp only at h
    split at h
    · simp only [Bool.and_eq_true, decide_eq_true_eq] at h
      obtain ⟨⟨⟨⟨⟨⟨n1, n2⟩, n3⟩, rfl⟩, g⟩, hl⟩, h⟩ := h
      exact ⟨lt_val (T := T.g G) ok.hK (pe_peek (pe_know (sBlt ok n1 n2 n3 g hl (dP_star h) (sP es ok h)))) (plain_is rfl), fun z => by cases z⟩
    · cases h
  | .bin op a b, X, c, G, e, ok, h => by
    rw [dT.eq_def] at h
    dsimp only at h
    split at h
    · simp only [Bool.and_eq_true, decide_eq_true_eq] at h
      obtain ⟨⟨rfl, h1⟩, h2⟩ := h
      exact ⟨lt_val (T := T.g G) ok.hK (pe_peek (pe_know (lx_bin (T := T.g G) ok.hK (sE a (md := .p) ok h1) (sE b (md := .p) ok h2)))) (plain_is rfl), fun z => by cases z⟩
    · cases h
  | .con _, _, _, _, _, _, h | .glb _ _, _, _, _, _, _, h | .neg _, _, _, _, _, _, h | .ite _ _ _, _, _, _, _, _, h | .tup _, _, _, _, _, _, h | .lst _, _, _, _, _, _, h | .dnw _, _, _, _, _, _, h | .dsp _ _, _, _, _, _, _, h | .idx _ _, _, _, _, _, _, h
  | .slc _ _ _, _, _, _, _, _, h | .rev _, _, _, _, _, _, h | .gap, _, _, _, _, _, h | .mth _ _ _, _, _, _, _, _, h | .lcp _ _ _ _ _, _, _, _, _, _, h | .att _ _, _, _, _, _, _, h | .prp _ _ _ _, _, _, _, _, _, h | .gls _ _ _ _, _, _, _, _, _, h | .mtd _ _ _ _ _, _, _, _, _, _, h | .lnO _ _ _, _, _, _, _, _, h | .new _ _ _ _, _, _, _, _, _, h
  | .cst _ _ _ _, _, _, _, _, _, h => by
    rw [dT.eq_def] at h
    cases h
theorem sL : ∀ (es : IEs) {X : Cx} {c : Sc} {G : List Bool} {l : List Expr}, Cok T k X c → dL c G es l = true → PA X l (tL (T.g G) (relL T.K) es)
  | .nil, X, c, G, l, ok, h => by
    rw [dL.eq_def] at h
    dsimp only at h
    split at h
    · exact la_nil (T := T.g G) fun _ _ _ _ => rfl
    · cases h
  | .cons a r, X, c, G, l, ok, h => by
    rw [dL.eq_def] at h
    dsimp only at h
    split at h
    · simp only [Bool.and_eq_true] at h
      exact la_cons (T := T.g G) (star_cons h.1.1) (sE a (md := .k) ok h.1.2) (sL r ok h.2)
    · cases h
theorem sLS : ∀ (es : IEs) {X : Cx} {c : Sc} {G : List Bool} {l : List Expr} {ec : Expr} {q : Pos} {ic : IE}, Cok T k X c → dL c G es l = true → PE X ec (tE (T.g G) (relK T.K) ic) → PA X (l ++ [.Starred ec q]) (tLS (T.g G) es ic)
  | .nil, X, c, G, l, ec, q, ic, ok, h, hc => by
    rw [dL.eq_def] at h
    dsimp only at h
    split at h
    · exact la_starN rfl hc
    · cases h
  | .cons e es, X, c, G, l, ec, q, ic, ok, h, hc => by
    rw [dL.eq_def] at h
    dsimp only at h
    split at h
    · simp only [Bool.and_eq_true] at h
      obtain ⟨⟨hn, he⟩, hr⟩ := h
      exact la_starC (star_cons hn) (sE e (md := .k) ok he) (sLS es ok hr hc)
    · cases h
theorem sP : ∀ (es : IEs) {X : Cx} {c : Sc} {G : List Bool} {l : List Expr}, Cok T k X c → dP c G es l = true → PA X l (tL (T.g G) (relPs T.K) es)
  | .nil, X, c, G, l, ok, h => by
    rw [dP.eq_def] at h
    dsimp only at h
    split at h
    · exact la_nil (T := T.g G) fun _ _ _ _ => rfl
    · cases h
  | .cons a r, X, c, G, l, ok, h => by
    rw [dP.eq_def] at h
    dsimp only at h
    split at h
    · simp only [Bool.and_eq_true] at h
      exact la_consP (T := T.g G) (star_cons h.1.1) (sE a (md := .p) ok h.1.2) (sP r ok h.2)
    · cases h
theorem sR : ∀ (es : IEs) {X : Cx} {c : Sc} {G : List Bool} {l : List Expr}, Cok T k X c → dR c G es l = true →
    (∃ a ia, l = [a] ∧ es = .cons ia .nil ∧ notStar a = true ∧ PE X a (tE (T.g G) (relP T.K) ia)) ∨
    ∃ a b ia ib, l = [a, b] ∧ es = .cons ia (.cons ib .nil) ∧ notStar a = true ∧ notStar b = true ∧ PE X a (tE (T.g G) (relP T.K) ia) ∧ PE X b (tE (T.g G) (relP T.K) ib)
  | .nil, X, c, G, l, ok, h => by
    rw [dR.eq_def] at h
    cases h
  | .cons a .nil, X, c, G, l, ok, h => by
    rw [dR.eq_def] at h
    dsimp only at h
    split at h
    · simp only [Bool.and_eq_true] at h
      exact .inl ⟨_, _, rfl, rfl, h.1, sE a (md := .p) ok h.2⟩
    · cases h
  | .cons a (.cons b .nil), X, c, G, l, ok, h => by
    rw [dR.eq_def] at h
    dsimp only at h
    split at h
    · simp only [Bool.and_eq_true] at h
      exact .inr ⟨_, _, _, _, rfl, rfl, h.1.1.1, h.1.1.2, sE a (md := .p) ok h.1.2, sE b (md := .p) ok h.2⟩
    · cases h
  | .cons a (.cons b (.cons _ _)), X, c, G, l, ok, h => by
    rw [dR.eq_def] at h
    cases h
theorem sD : ∀ (es : IEs) {X : Cx} {c : Sc} {G : List Bool} {ks : List Str} {keys : List (Option Expr)} {vals : List Expr} {pos : Pos}, Cok T k X c → dD c G ks es keys vals = true → PDs X (T.g G) pos keys vals ks es
  | .nil, X, c, G, ks, keys, vals, pos, ok, h => by
    rw [dD.eq_def] at h
    dsimp only at h
    simp only [Bool.and_eq_true, decide_eq_true_eq] at h
    obtain ⟨rfl, h⟩ := h
    split at h
    · exact pds_nil
    · cases h
  | .cons a r, X, c, G, ks, keys, vals, pos, ok, h => by
    rw [dD.eq_def] at h
    dsimp only at h
    split at h
    · simp only [Bool.and_eq_true, decide_eq_true_eq] at h
      obtain ⟨⟨rfl, h1⟩, h2⟩ := h
      exact pds_cons (T := T.g G) (sE a (md := .k) ok h1) (sD r ok h2)
    · cases h
theorem sQ : ∀ (es : IEs) {X : Cx} {c : Sc} {G : List Bool} {l : List Expr}, Cok T k X c → dQ c G es l = true → PTs X l (tQ (T.g G) es)
  | .nil, X, c, G, l, ok, h => by
    rw [dQ.eq_def] at h
    dsimp only at h
    split at h
    · exact pts_nil
    · cases h
  | .cons a .nil, X, c, G, l, ok, h => by
    rw [dQ.eq_def] at h
    dsimp only at h
    split at h
    · exact pts_one (sT a ok h).1
    · cases h
  | .cons a (.cons _ _), X, c, G, l, ok, h => by
    rw [dQ.eq_def] at h
    cases h
theorem sG : ∀ (t : IT) {X : Cx} {c : Sc} {G : List Bool} {e : Expr}, Cok T k X c → dG c G t e = true → PG X e (tG (T.g G) t)
  | .nam i, X, c, G, e, ok, h => by
    rw [dG.eq_def] at h
    dsimp only at h
    split at h
    · simp only [Bool.and_eq_true, decide_eq_true_eq, Bool.not_eq_true'] at h
      obtain ⟨⟨h1, h2⟩, h3⟩ := h
      obtain ⟨l1, l2⟩ := ok.loc h2
      exact lg_nam (T := T.g G) ok.nd (by rw [ok.hN]; exact h1) l1 l2 h3
    · cases h
  | .tup ts, X, c, G, e, ok, h => by
    rw [dG.eq_def] at h
    dsimp only at h
    split at h
    · obtain ⟨h1, h2⟩ := dGs_star h
      exact lg_tup (T := T.g G) ok.hK ok.cm (by rw [asg_len h1]; exact h2) (asg_idx h1) (sGs ts ok h)
    · cases h
  | .sub _ _, X, c, G, e, ok, h => by
    rw [dG.eq_def] at h
    cases h
  | .att _ _, X, c, G, e, ok, h => by
    rw [dG.eq_def] at h
    cases h
theorem sGs : ∀ (t : ITs) {X : Cx} {c : Sc} {G : List Bool} {l : List Expr}, Cok T k X c → dGs c G t l = true → PGs X l (tGs (T.g G) t)
  | .nil, X, c, G, l, ok, h => by
    rw [dGs.eq_def] at h
    dsimp only at h
    split at h
    · exact lgs_nil
    · cases h
  | .cons t r, X, c, G, l, ok, h => by
    rw [dGs.eq_def] at h
    dsimp only at h
    split at h
    · simp only [Bool.and_eq_true] at h
      exact lgs_cons (T := T.g G) h.1.1.2 (by rw [asg_cons h.1.1.1]; rfl) (sG t ok h.1.2) (sGs r ok h.2)
    · cases h
theorem sI : ∀ (it : II) {X : Cx} {c : Sc} {G : List Bool} {tg e : Expr}, Cok T k X c → dI c G it tg e = true → PI X tg e (tI (T.g G) it)
  | .val a, X, c, G, tg, e, ok, h => by
    rw [dI.eq_def] at h
    dsimp only at h
    exact li_val (T := T.g G) ok.hK (sE a (md := .k) ok h)
  | .rng es, X, c, G, tg, e, ok, h => by
    rw [dI.eq_def] at h
    dsimp only at h
    split at h
    · simp only [Bool.and_eq_true, decide_eq_true_eq] at h
      obtain ⟨⟨rfl, g⟩, h⟩ := h
      rcases sR es ok h with ⟨a, ia, rfl, rfl, n1, ha⟩ | ⟨a, b, ia, ib, rfl, rfl, n1, n2, ha, hb⟩
      · exact li_rng1 (T := T.g G) (ok.gl g) (ok.bl _ (by decide)) (star_cons n1) ha
      · exact li_rng2 (T := T.g G) (ok.gl g) (ok.bl _ (by decide)) (star_cons n1) (star_cons n2) ha hb
    · cases h
  | .enm a, X, c, G, tg, e, ok, h => by
    rw [dI.eq_def] at h
    dsimp only at h
    simp only [Bool.and_eq_true] at h
    obtain ⟨ht, h⟩ := h
    split at h
    · simp only [Bool.and_eq_true, decide_eq_true_eq] at h
      obtain ⟨⟨⟨rfl, g⟩, n1⟩, h⟩ := h
      cases tg with
      | Tuple elts kk tpos => exact li_enm (T := T.g G) ok.hK (ok.gl g) (ok.bl _ (by decide)) (star_cons n1) (sE a (md := .k) ok h)
      | _ => simp [isTupX] at ht
    · cases h
  | .zip a b, X, c, G, tg, e, ok, h => by
    rw [dI.eq_def] at h
    dsimp only at h
    simp only [Bool.and_eq_true] at h
    obtain ⟨ht, h⟩ := h
    split at h
    · simp only [Bool.and_eq_true, decide_eq_true_eq] at h
      obtain ⟨⟨⟨⟨⟨rfl, g⟩, n1⟩, n2⟩, h1⟩, h2⟩ := h
      cases tg with
      | Tuple elts kk tpos => exact li_zip (T := T.g G) (ok.gl g) (ok.bl _ (by decide)) (star_cons n1) (star_cons n2) (star_any (by simp [n2])) (sE a (md := .k) ok h1) (sE b (md := .k) ok h2)
      | _ => simp [isTupX] at ht
    · cases h
end
end
end DI

set_option Elab.async false
set_option linter.all false
set_option maxRecDepth 100000
set_option maxHeartbeats 8000000
namespace DI
open PySem PySem.Spec PyProof.Rows L2
def Sk.md : Sk → Md
  | .k => .k
  | .o => .f
  | .r => .f
def lcB (c : Sc) (G : List Bool) (ie : IE) (t : IT) (it : II) (cs : IEs) (own : List Nat) (elt tg iter : Expr) (ifs : List Expr) (scope : Scope) : Bool :=
  dI c G it tg iter && blkC c.N c.sc scope (own.map fun i => (c.N.getD i Str.empty, i)) && dG (c.blk scope) G t tg && pureT t && (namesT t).all (own.contains ·) && dQ (c.blk scope) G cs ifs && dE (c.blk scope) G .k ie elt && !(isSetX iter)
def setB (c : Sc) (G Gn : List Bool) (m : Sk) (i : Nat) (e : IE) (s : Stmt) : Bool := match s with
  | .Assign [.Name x p1] ev p => decide (c.N[i]? = some x) && locB c x && decide (i < G.length) && decide (Gn = m.g i G) && (match ev with
    | .ListComp elt [⟨tg, iter, ifs, asy⟩] scope pos => if decide (c.sc.names.lookup x = some .cell) then dE c G m.md e (.ListComp elt [⟨tg, iter, ifs, asy⟩] scope pos) else (match e with
      | .lcp ie t it cs own => decide (asy = 0) && lclB c x && (p1.line == pos.line) && !(scope.names.any fun (n, k) => n == x && (k == .local || k == .cell)) && lcB c G ie t it cs own elt tg iter ifs scope
      | _ => false)
    | _ => !(isLC ev) && dE c G m.md e ev)
  | _ => false
def parB (c : Sc) (G : List Bool) : List (Nat × Bool) → IEs → List Expr → List Expr → Bool
  | [], es, ts, vs => (match es with
    | .nil => true
    | _ => false) && ts.isEmpty && vs.isEmpty
  | (i, m) :: ps, es, ts, vs => (match es with
    | .cons a r => (match ts, vs with
      | .Name x _ :: ts, v :: vs => decide (c.N[i]? = some x) && lclB c x && decide (i < G.length) && notStar v && dE c G (if m then .f else .k) a v && parB c G ps r ts vs
      | _, _ => false)
    | _ => false)
def swB (c : Sc) (ts vs : List Expr) : Bool := (ts.length == 2 || ts.length == 3) && decide (vs.length = ts.length) && !(vs.any isStarX) && decide ((swNames c.sc ts).length = ts.length) && decide ((swNames c.sc ts).eraseDups.length = (swNames c.sc ts).length) && !(vs.all (foldedForSure 8)) && !(vs.all (constantsAlone 8))
def dGE (c : Sc) (G : List Bool) : IT → Expr → Bool
  | .nam i, e => (match e with
    | .Name x _ => decide (c.N[i]? = some x) && locB c x && !(G.getD i false)
    | _ => false)
  | .sub i k, e => (match e with
    | .Subscript (.Name x _) ek _ => varB c i x && G.getD i false && !(isSliceX ek) && dE c G .k k ek
    | _ => false)
  | .att o x, e => (match e with
    | .Attribute eo y _ => decide (x = y) && c.ct.atts.contains x && dE c G .p o eo
    | _ => false)
  | .tup _, _ => false
def dGsE (c : Sc) (G : List Bool) : ITs → List Expr → Bool
  | .nil, l => l.isEmpty
  | .cons t r, l => (match l with
    | e :: es => notStar e && dGE c G t e && dGsE c G r es
    | [] => false)
mutual
def endsR : ISs → Bool
  | .nil => false
  | .cons s r => endsR1 s || endsR r
def endsR1 : IS → Bool
  | .ret _ => true
  | .nvr => true
  | .brk => true
  | .cnt => true
  | .iff _ a b => endsR a && endsR b
  | _ => false
end
mutual
def nextG : List Bool → IS → List Bool
  | G, .set i _ => G.set i false
  | G, .seto i _ => G.set i true
  | G, .setr i _ => G.set i false
  | G, .par ps _ => setsG ps G
  | G, .frz i => G.set i false
  | G, .iff _ a b => if endsR a then nextGs G b else nextGs G a
  | G, _ => G
def nextGs : List Bool → ISs → List Bool
  | G, .nil => G
  | G, .cons s r => nextGs (nextG G s) r
end
def isFrz : IS → Option Nat
  | .frz i => some i
  | _ => none
mutual
def dS (c : Sc) (G Gn Gb : List Bool) : IS → Stmt → Bool
  | .set i e, s => setB c G Gn .k i e s
  | .seto i e, s => setB c G Gn .o i e s
  | .setr i e, s => setB c G Gn .r i e s
  | .unp t e, s => (match s with
    | .Assign [tg] ev _ => isTupX tg && !(isTupX ev) && pureT t && dG c G t tg && dE c G .k e ev && decide (Gn = G)
    | _ => false)
  | .par ps es, s => (match s with
    | .Assign [.Tuple ts _ _] (.Tuple vs _ _) _ => decide (Gn = setsG ps G) && decide ((ps.map (·.1)).Nodup) && swB c ts vs && parB c G ps es ts vs
    | _ => false)
  | .unt ts es, s => (match s with
    | .Assign [.Tuple tgs _ _] (.Tuple vs _ _) _ => (tgs.any (fun t => !(isNameX t)) || !(tgs.length == 2 || tgs.length == 3) || decide ((swNames c.sc tgs).length ≠ tgs.length)) && decide (lenTs ts ≤ 100) && dGsE c G ts tgs && dL c G es vs && decide (Gn = G)
    | _ => false)
  | .sti i k e, s => (match s with
    | .Assign [.Subscript (.Name x _) ek _] ev _ => varB c i x && G.getD i false && !(isSliceX ek) && dE c G .k k ek && dE c G .k e ev && decide (Gn = G)
    | _ => false)
  | .sto o k e, s => (match s with
    | .Assign [.Subscript eo ek _] ev _ => !(isSliceX ek) && dE c G .p o eo && dE c G .k k ek && dE c G .k e ev && decide (Gn = G)
    | _ => false)
  | .stor o k e, s => (match s with
    | .Assign [.Subscript eo ek _] ev _ => !(isSliceX ek) && dE c G .p o eo && dE c G .k k ek && dE c G .f e ev && decide (Gn = G)
    | _ => false)
  | .aug _ _ _, _ => false
  | .app i e, s => (match s with
    | .Expr (.Call (.Attribute (.Name x _) m ap) [ee] [] cp) _ => decide (m = ("append" : Str)) && varB c i x && G.getD i false && (ap.endLine == cp.line) && notStar ee && dE c G .k e ee && decide (Gn = G)
    | _ => false)
  | .apo i j e, s => (match s with
    | .Expr (.Call (.Attribute (.Name x _) m ap) [.Call (.Attribute (.Name y _) m2 ap2) [ee] [] cp2] [] cp) _ => decide (m = ("append" : Str)) && decide (m2 = ("pop" : Str)) && varB c i x && varB c j y && G.getD i false && G.getD j false &&
      (ap.endLine == cp.line) && (ap2.endLine == cp2.line) && notStar ee && dE c G .k e ee && decide (Gn = G)
    | _ => false)
  | .exp e, s => (match s with
    | .Expr ev _ => !(isLC ev) && dE c G .k e ev && decide (Gn = G)
    | _ => false)
  | .ret e, s => (match s with
    | .Return (some ev) _ => dE c G .k e ev
    | _ => false)
  | .iff t a b, s => (match s with
    | .If et sa sb _ => dT c G t et && dSs c G Gn Gb a sa && dSs c G Gn Gb b sb
    | _ => false)
  | .whl t b _, s => (match s with
    | .While et sb [] _ => dT c G t et && dSs c G G G b sb && decide (Gn = G)
    | _ => false)
  | .frr t it b _, s => (match s with
    | .For tg iter sb [] _ => dI c G it tg iter && dG c G t tg && pureT t && !(isSetX iter) && dSs c G G G b sb && decide (Gn = G)
    | _ => false)
  | .brk, s => (match s with
    | .Break _ => decide (Gb = G)
    | _ => false)
  | .cnt, s => (match s with
    | .Continue _ => decide (Gb = G)
    | _ => false)
  | .pas, s => (match s with
    | .Pass _ => decide (Gn = G)
    | _ => false)
  | .nvr, _ => true
  | .frz _, _ => false
  | .sat o x e, s => (match s with
    | .Assign [.Attribute eo y _] ev _ => decide (x = y) && c.ct.atts.contains x && !(isLC ev) && dE c G .p o eo && dE c G .k e ev && decide (Gn = G)
    | _ => false)
  | .spp i j, s => (match s with
    | .Assign [.Name x _] (.Call (.Attribute (.Name y _) m ap) [] [] cp) _ => decide (m = ("pop" : Str)) && decide (c.N[i]? = some x) && locB c x && !(G.getD i false) && varB c j y && G.getD j false && (ap.endLine == cp.line) && decide (Gn = G)
    | _ => false)
  | .pop j, s => (match s with
    | .Expr (.Call (.Attribute (.Name y _) m ap) [] [] cp) _ => decide (m = ("pop" : Str)) && varB c j y && G.getD j false && (ap.endLine == cp.line) && decide (Gn = G)
    | _ => false)
def dSs (c : Sc) (G Gn Gb : List Bool) : ISs → List Stmt → Bool
  | .nil, l => (match l with
    | [] => decide (Gn = G)
    | _ => false)
  | .cons s r, l => (match isFrz s with
    | some i => dSs c (G.set i false) Gn Gb r l
    | none => (match l with
      | x :: xs => dS c G (nextG G s) Gb s x && dSs c (nextG G s) Gn Gb r xs
      | [] => false))
end
section
variable {T : Rd'} {k W : Nat} {X : Cx} {c : Sc} {G Gn Gb : List Bool}
theorem sSet (m : Sk) {i : Nat} {e : IE} {s : Stmt} (ok : Cok T k X c) (h : setB c G Gn m i e s = true) : PS X s (tS T W G Gn Gb (m.out i e)) := by
  unfold setB at h
  split at h
  · rename_i x p1 ev p
    simp only [Bool.and_eq_true, decide_eq_true_eq] at h
    obtain ⟨⟨⟨⟨hN, hl⟩, hi⟩, rfl⟩, h⟩ := h
    obtain ⟨l1, l2⟩ := ok.loc hl
    have hN' : X.N[i]? = some x := by rw [ok.hN]; exact hN
    split at h
    · rename_i elt tg iter ifs asy scope pos
      split at h
      · rename_i hcell
        refine ls_set m hi ok.nd hN' l1 l2 (swaps_cell (by rw [ok.sc]; simpa using hcell)) ?_
        cases m with
        | k => exact sE e (md := .k) ok h
        | o => exact sE e (md := .f) ok h
        | r => exact sE e (md := .f) ok h
      split at h
      · rename_i ie t it cs own
        unfold lcB at h
        simp only [Bool.and_eq_true, decide_eq_true_eq, Bool.not_eq_true'] at h
        obtain ⟨⟨⟨⟨rfl, hx⟩, hline⟩, hno⟩, ⟨⟨⟨⟨⟨⟨hI, hb⟩, hg⟩, hp⟩, hn⟩, hq⟩, he⟩, hs⟩ := h
        have bo := blkOk_by hb
        have hy : X.env.scope.names.lookup x = some .local := by rw [ok.sc]; exact of_decide_eq_true hx
        have z := ls_setLc (X := X) (T := T) (W := W) (Gb := Gb) (pos := pos) (spos := p) (py := p1) m (own := own.map fun i => (c.N.getD i Str.empty, i)) (ie := ie) (t := t) (it := it) (cc := cs) (elt := elt) (ifs := ifs) (scope := scope) hi ok.cm ok.nd hN' hy
          (sw_true (by rw [ok.sc]; exact ok.kd) hy hline hno) (sI it ok hI) (by rw [ok.hN, ok.sc]; exact bo)
          (fun s H C cl fp => sG t (ok.blk bo.kind s H C cl fp) hg) (fun s H C cl fp => sQ cs (ok.blk bo.kind s H C cl fp) hq) (fun s H C cl fp => sE ie (ok.blk bo.kind s H C cl fp) he) (set_plain hs)
          (fun i hi => by rw [own_snd]; exact List.contains_iff_mem.mp (List.all_eq_true.mp hn i hi)) hp
        rw [own_snd] at z
        exact z
      · cases h
    · simp only [Bool.and_eq_true, Bool.not_eq_true'] at h
      refine ls_set m hi ok.nd hN' l1 l2 (swaps_no h.1) ?_
      cases m with
      | k => exact sE e (md := .k) ok h.2
      | o => exact sE e (md := .f) ok h.2
      | r => exact sE e (md := .f) ok h.2
  · cases h
theorem sGE : ∀ (t : IT) {e : Expr}, Cok T k X c → dGE c G t e = true → PG X e (tGE T G t)
  | .nam i, e, ok, h => by
    unfold dGE at h
    dsimp only at h
    split at h
    · simp only [Bool.and_eq_true, decide_eq_true_eq, Bool.not_eq_true'] at h
      obtain ⟨⟨h1, h2⟩, h3⟩ := h
      obtain ⟨l1, l2⟩ := ok.loc h2
      exact lgE_nam ok.nd (by rw [ok.hN]; exact h1) l1 l2 h3
    · cases h
  | .sub i kk, e, ok, h => by
    unfold dGE at h
    dsimp only at h
    split at h
    · simp only [Bool.and_eq_true, Bool.not_eq_true'] at h
      obtain ⟨⟨⟨h1, h2⟩, h3⟩, h4⟩ := h
      obtain ⟨a1, a2, a3, a4⟩ := ok.var h1
      exact lgE_sub h2 ok.hu1 a1 a2 a3 a4 (sE kk (md := .k) ok h4) (assign_sub h3)
    · cases h
  | .att o x, e, ok, h => by
    unfold dGE at h
    dsimp only at h
    split at h
    · simp only [Bool.and_eq_true, decide_eq_true_eq] at h
      obtain ⟨⟨rfl, h1⟩, h2⟩ := h
      exact lgE_att (ok.at_ _ h1) (sE o (md := .p) ok h2)
    · cases h
  | .tup _, e, ok, h => by
    unfold dGE at h
    cases h
theorem sGsE : ∀ (t : ITs) {l : List Expr}, Cok T k X c → dGsE c G t l = true → PGs X l (tGsE T G t) ∧ l.all notStar = true ∧ l.length = lenTs t
  | .nil, l, ok, h => by
    unfold dGsE at h
    cases l with
    | nil => exact ⟨lgsE_nil, rfl, rfl⟩
    | cons _ _ => cases h
  | .cons t r, l, ok, h => by
    rw [dGsE.eq_def] at h
    dsimp only at h
    split at h
    · simp only [Bool.and_eq_true] at h
      obtain ⟨z1, z2, z3⟩ := sGsE r ok h.2
      exact ⟨lgsE_cons (by rw [asg_cons h.1.1]; rfl) (sGE t ok h.1.2) z1, by simp [h.1.1]; simpa using z2, by simp [lenTs, z3]⟩
    · cases h
theorem parB_args (ok : Cok T k X c) : ∀ {ps : List (Nat × Bool)} {es : IEs} {ts vs : List Expr}, parB c G ps es ts vs = true →
    PA X vs (tL (T.g G) (relX T.K (ps.map (·.2))) es) ∧ (∀ p ∈ ps, p.1 < G.length) ∧ ∃ xs : List (Str × Pos), ts = xs.map (fun x => .Name x.1 x.2) ∧ xs.length = ps.length ∧ vs.length = ps.length ∧ ∀ (j : Nat) (p : Nat × Bool) (x : Str × Pos), ps[j]? = some p → xs[j]? = some x → c.N[p.1]? = some x.1 ∧ lclB c x.1 = true
  | [], es, ts, vs, h => by
    unfold parB at h
    simp only [Bool.and_eq_true, List.isEmpty_iff] at h
    obtain ⟨⟨h, rfl⟩, rfl⟩ := h
    cases es with
    | nil => exact ⟨la_nilX (T := T.g G), by simp, [], rfl, rfl, rfl, by simp⟩
    | cons _ _ => cases h
  | (i, m) :: ps, es, ts, vs, h => by
    rw [parB.eq_def] at h
    dsimp only at h
    split at h
    · split at h
      · rename_i x px ts v vs
        simp only [Bool.and_eq_true, decide_eq_true_eq] at h
        obtain ⟨⟨⟨⟨⟨h1, h2⟩, h3⟩, h4⟩, h5⟩, h6⟩ := h
        obtain ⟨z1, z2, xs, e1, e2, e3, e4⟩ := parB_args ok h6
        refine ⟨la_consX (T := T.g G) (star_cons h4) ?_ z1, fun p hp => ?_, (x, px) :: xs, by rw [e1]; rfl, by simp [e2], by simp [e3], fun j p y hj hy => ?_⟩
        · cases m with
          | true => exact sE _ (md := .f) ok h5
          | false => exact sE _ (md := .k) ok h5
        · rcases List.mem_cons.mp hp with rfl | hp
          · exact h3
          · exact z2 p hp
        · cases j with
          | zero =>
            simp at hj hy
            subst hj hy
            exact ⟨h1, h2⟩
          | succ j =>
            simp at hj hy
            exact e4 j p y hj hy
      · cases h
    · cases h
end
section
variable {T : Rd'} {k W : Nat} {X : Cx} {c : Sc}
theorem isFrz_some {s : IS} {i : Nat} (h : isFrz s = some i) : s = .frz i := by
  cases s <;> simp [isFrz] at h
  rw [h]
theorem swB_stores (ok : Cok T k X c) {ts vs : List Expr} {n m : Nat} {p q : Pos} (h : swB c ts vs = true) : swappedStores [.Tuple ts n p] (.Tuple vs m q) X.env = pure (some (swNames c.sc ts)) := by
  unfold swB at h
  simp only [Bool.and_eq_true, decide_eq_true_eq, Bool.not_eq_true'] at h
  obtain ⟨⟨⟨⟨⟨⟨h1, h2⟩, h3⟩, h4⟩, h5⟩, h6⟩, h7⟩ := h
  exact stores_par ok.sc ok.kd h1 h2 h3 h4 h5 h6 h7
theorem swNames_2 {c : Sc} {x y : Str} {px py : Pos} (h : (swNames c.sc [.Name x px, .Name y py]).length = 2) : swNames c.sc [.Name x px, .Name y py] = [x, y] := by
  unfold swNames at h ⊢
  simp only [List.filterMap_cons, List.filterMap_nil, nmOf] at h ⊢
  split at h
  · split at h <;> simp at h
  · rename_i a ha
    split at h
    · simp at h
    · rename_i b hb
      split at ha
      · split at hb
        · cases ha
          cases hb
          rfl
        · cases hb
      · cases ha
theorem swNames_3 {c : Sc} {x y z : Str} {px py pz : Pos} (h : (swNames c.sc [.Name x px, .Name y py, .Name z pz]).length = 3) : swNames c.sc [.Name x px, .Name y py, .Name z pz] = [x, y, z] := by
  have key : ∀ (f : Expr → Option Str) (a b d : Expr) (u v w : Str), (∀ o, f a = some o → o = u) → (∀ o, f b = some o → o = v) → (∀ o, f d = some o → o = w) → ([a, b, d].filterMap f).length = 3 → [a, b, d].filterMap f = [u, v, w] := by
    intro f a b d u v w ha hb hd hl
    simp only [List.filterMap_cons, List.filterMap_nil] at hl ⊢
    cases h1 : f a <;> cases h2 : f b <;> cases h3 : f d <;> simp [h1, h2, h3] at hl ⊢
    exact ⟨ha _ h1, hb _ h2, hd _ h3⟩
  unfold swNames at h ⊢
  refine key _ _ _ _ x y z ?_ ?_ ?_ h
  · intro o ho
    unfold nmOf at ho
    dsimp only at ho
    split at ho
    · exact (Option.some.inj ho).symm
    · cases ho
  · intro o ho
    unfold nmOf at ho
    dsimp only at ho
    split at ho
    · exact (Option.some.inj ho).symm
    · cases ho
  · intro o ho
    unfold nmOf at ho
    dsimp only at ho
    split at ho
    · exact (Option.some.inj ho).symm
    · cases ho
theorem sPar (ok : Cok T k X c) {G Gb : List Bool} {ps : List (Nat × Bool)} {es : IEs} {ts vs : List Expr} {n m : Nat} {p q pos : Pos} (hnd : (ps.map (·.1)).Nodup) (hw : swB c ts vs = true) (h : parB c G ps es ts vs = true) :
    PS X (.Assign [.Tuple ts n p] (.Tuple vs m q) pos) (tS T W G (setsG ps G) Gb (.par ps es)) := by
  obtain ⟨ha, hl, xs, rfl, e2, e3, e4⟩ := parB_args ok h
  have hs := swB_stores ok (n := n) (m := m) (p := p) (q := q) hw
  unfold swB at hw
  simp only [Bool.and_eq_true, decide_eq_true_eq, Bool.not_eq_true'] at hw
  have hlen := hw.1.1.1.1.1.1
  have hnames := hw.1.1.1.2
  have lk : ∀ {i : Nat} {x : Str}, c.N[i]? = some x → X.N[i]? = some x := fun h => by rw [ok.hN]; exact h
  have lo : ∀ {x : Str}, lclB c x = true → X.env.scope.names.lookup x = some .local := fun h => by rw [ok.sc]; exact of_decide_eq_true h
  match ps, xs, vs, e2, e3, ha, hl, hnd, e4, hs, hlen, hnames with
  | [(i, o1), (j, o2)], [x, y], [a, b], _, _, ha, hl, hnd, e4, hs, hlen, hnames =>
    have q1 := e4 0 _ _ rfl rfl
    have q2 := e4 1 _ _ rfl rfl
    have ne : i ≠ j := by simpa using hnd
    exact ls_par2 hl ok.cm ok.nd (lk q1.1) (lk q2.1) ne (lo q1.2) (lo q2.2) ha (hs.trans (congrArg (fun z => pure (some z)) (swNames_2 hnames)))
  | [(i, o1), (j, o2), (l, o3)], [x, y, z], [a, b, d], _, _, ha, hl, hnd, e4, hs, hlen, hnames =>
    have q1 := e4 0 _ _ rfl rfl
    have q2 := e4 1 _ _ rfl rfl
    have q3 := e4 2 _ _ rfl rfl
    have ne : (i ≠ j ∧ i ≠ l) ∧ j ≠ l := by simpa using hnd
    exact ls_par3 hl ok.cm ok.nd (lk q1.1) (lk q2.1) (lk q3.1) ne.1.1 ne.1.2 ne.2 (lo q1.2) (lo q2.2) (lo q3.2) ha (hs.trans (congrArg (fun z => pure (some z)) (swNames_3 hnames)))
  | [], [], _, _, _, _, _, _, _, _, hlen, _ => simp at hlen
  | [_], [_], _, _, _, _, _, _, _, _, hlen, _ => simp at hlen
  | _ :: _ :: _ :: _ :: _, _ :: _ :: _ :: _ :: _, _, _, _, _, _, _, _, _, hlen, _ => simp at hlen
mutual
theorem sS : ∀ (s : IS) {G Gn Gb : List Bool} {st : Stmt}, Cok T k X c → dS c G Gn Gb s st = true → PS X st (tS T W G Gn Gb s)
  | .set i e, G, Gn, Gb, st, ok, h => by
    rw [dS.eq_def] at h
    exact sSet .k ok h
  | .seto i e, G, Gn, Gb, st, ok, h => by
    rw [dS.eq_def] at h
    exact sSet .o ok h
  | .setr i e, G, Gn, Gb, st, ok, h => by
    rw [dS.eq_def] at h
    exact sSet .r ok h
  | .unp t e, G, Gn, Gb, st, ok, h => by
    rw [dS.eq_def] at h
    dsimp only at h
    split at h
    · rename_i tg ev pos
      simp only [Bool.and_eq_true, decide_eq_true_eq, Bool.not_eq_true'] at h
      obtain ⟨⟨⟨⟨⟨h1, h2⟩, h3⟩, h4⟩, h5⟩, rfl⟩ := h
      cases tg with
      | Tuple elts kk tpos => exact ls_unp h3 (sE e (md := .k) ok h5) (sG t ok h4) swaps_tup (stores_tup h2) rfl
      | _ => simp [isTupX] at h1
    · cases h
  | .par ps es, G, Gn, Gb, st, ok, h => by
    rw [dS.eq_def] at h
    dsimp only at h
    split at h
    · simp only [Bool.and_eq_true, decide_eq_true_eq] at h
      obtain ⟨⟨⟨rfl, h1⟩, h2⟩, h3⟩ := h
      exact sPar ok h1 h2 h3
    · cases h
  | .unt ts es, G, Gn, Gb, st, ok, h => by
    rw [dS.eq_def] at h
    dsimp only at h
    split at h
    · rename_i tgs n p vs m q pos
      simp only [Bool.and_eq_true, decide_eq_true_eq, Bool.or_eq_true] at h
      obtain ⟨⟨⟨⟨h0, h1⟩, h2⟩, h3⟩, rfl⟩ := h
      obtain ⟨z1, z2, z3⟩ := sGsE ts ok h2
      refine ls_unt h1 ok.hK ok.cm (sL es ok h3) z1 (by rw [asg_len z2]; exact z3) (asg_idx z2) swaps_tup ?_ rfl
      rcases h0 with (h0 | h0) | h0
      · rw [List.any_eq_true] at h0
        obtain ⟨t, ht, hx⟩ := h0
        exact stores_sub2 ⟨t, ht, by simpa using hx⟩
      · exact stores_big (by simpa using h0)
      · exact stores_len (by rw [ok.sc]; exact h0)
    · cases h
  | .sti i kk e, G, Gn, Gb, st, ok, h => by
    rw [dS.eq_def] at h
    dsimp only at h
    split at h
    · simp only [Bool.and_eq_true, decide_eq_true_eq, Bool.not_eq_true'] at h
      obtain ⟨⟨⟨⟨⟨h1, h2⟩, h3⟩, h4⟩, h5⟩, rfl⟩ := h
      obtain ⟨a1, a2, a3, a4⟩ := ok.var h1
      exact ls_sti h2 ok.hu1 a1 a2 a3 a4 (sE kk (md := .k) ok h4) (sE e (md := .k) ok h5) swaps_sub stores_sub rfl (assign_sub h3)
    · cases h
  | .sto o kk e, G, Gn, Gb, st, ok, h => by
    rw [dS.eq_def] at h
    dsimp only at h
    split at h
    · simp only [Bool.and_eq_true, decide_eq_true_eq, Bool.not_eq_true'] at h
      obtain ⟨⟨⟨⟨h1, h2⟩, h3⟩, h4⟩, rfl⟩ := h
      exact ls_sto ok.hu1 (sE o (md := .p) ok h2) (sE kk (md := .k) ok h3) (sE e (md := .k) ok h4) swaps_sub stores_sub rfl (assign_sub h1)
    · cases h
  | .stor o kk e, G, Gn, Gb, st, ok, h => by
    rw [dS.eq_def] at h
    dsimp only at h
    split at h
    · simp only [Bool.and_eq_true, decide_eq_true_eq, Bool.not_eq_true'] at h
      obtain ⟨⟨⟨⟨h1, h2⟩, h3⟩, h4⟩, rfl⟩ := h
      exact ls_stor ok.hu1 (sE o (md := .p) ok h2) (sE kk (md := .k) ok h3) (sE e (md := .f) ok h4) swaps_sub stores_sub rfl (assign_sub h1)
    · cases h
  | .aug _ _ _, G, Gn, Gb, st, ok, h => by
    rw [dS.eq_def] at h
    cases h
  | .app i e, G, Gn, Gb, st, ok, h => by
    rw [dS.eq_def] at h
    dsimp only at h
    split at h
    · simp only [Bool.and_eq_true, decide_eq_true_eq] at h
      obtain ⟨⟨⟨⟨⟨⟨rfl, h1⟩, h2⟩, h3⟩, h4⟩, h5⟩, rfl⟩ := h
      obtain ⟨a1, a2, a3, a4⟩ := ok.var h1
      exact ls_app h2 a1 a2 a3 a4 h3 (star_cons h4) (sE e (md := .k) ok h5)
    · cases h
  | .apo i j e, G, Gn, Gb, st, ok, h => by
    rw [dS.eq_def] at h
    dsimp only at h
    split at h
    · simp only [Bool.and_eq_true, decide_eq_true_eq] at h
      obtain ⟨⟨⟨⟨⟨⟨⟨⟨⟨⟨rfl, rfl⟩, h1⟩, h2⟩, h3⟩, h4⟩, h5⟩, h6⟩, h7⟩, h8⟩, rfl⟩ := h
      obtain ⟨a1, a2, a3, a4⟩ := ok.var h1
      obtain ⟨b1, b2, b3, b4⟩ := ok.var h2
      exact ls_apo h3 h4 a1 a2 a3 a4 b1 b2 b3 b4 h5 h6 (star_cons h7) (sE e (md := .k) ok h8)
    · cases h
  | .exp e, G, Gn, Gb, st, ok, h => by
    rw [dS.eq_def] at h
    dsimp only at h
    split at h
    · simp only [Bool.and_eq_true, decide_eq_true_eq, Bool.not_eq_true'] at h
      obtain ⟨⟨h1, h2⟩, rfl⟩ := h
      exact ls_exp (sE e (md := .k) ok h2) (swaps_no h1)
    · cases h
  | .ret e, G, Gn, Gb, st, ok, h => by
    rw [dS.eq_def] at h
    dsimp only at h
    split at h
    · exact ls_ret (sE e (md := .k) ok h)
    · cases h
  | .iff t a b, G, Gn, Gb, st, ok, h => by
    rw [dS.eq_def] at h
    dsimp only at h
    split at h
    · simp only [Bool.and_eq_true] at h
      exact ls_iff (sT t ok h.1.1).1 (sSs a ok h.1.2) (sSs b ok h.2)
    · cases h
  | .whl t b g, G, Gn, Gb, st, ok, h => by
    rw [dS.eq_def] at h
    dsimp only at h
    split at h
    · simp only [Bool.and_eq_true, decide_eq_true_eq] at h
      obtain ⟨⟨h1, h2⟩, rfl⟩ := h
      exact ls_whl ok.xe (sT t ok h1).1 (sSs b ok h2)
    · cases h
  | .frr t it b g, G, Gn, Gb, st, ok, h => by
    rw [dS.eq_def] at h
    dsimp only at h
    split at h
    · simp only [Bool.and_eq_true, decide_eq_true_eq, Bool.not_eq_true'] at h
      obtain ⟨⟨⟨⟨⟨h1, h2⟩, h3⟩, h4⟩, h5⟩, rfl⟩ := h
      exact ls_frr ok.xe ok.cm (sI it ok h1) (sG t ok h2) (sSs b ok h5) (set_plain h4) h3
    · cases h
  | .brk, G, Gn, Gb, st, ok, h => by
    rw [dS.eq_def] at h
    dsimp only at h
    split at h
    · have := of_decide_eq_true h
      subst this
      exact ls_brk
    · cases h
  | .cnt, G, Gn, Gb, st, ok, h => by
    rw [dS.eq_def] at h
    dsimp only at h
    split at h
    · have := of_decide_eq_true h
      subst this
      exact ls_cnt
    · cases h
  | .pas, G, Gn, Gb, st, ok, h => by
    rw [dS.eq_def] at h
    dsimp only at h
    split at h
    · have := of_decide_eq_true h
      subst this
      exact ls_pas
    · cases h
  | .nvr, G, Gn, Gb, st, ok, h => ls_nvr
  | .frz _, G, Gn, Gb, st, ok, h => by
    rw [dS.eq_def] at h
    cases h
  | .sat o x e, G, Gn, Gb, st, ok, h => by
    rw [dS.eq_def] at h
    dsimp only at h
    split at h
    · simp only [Bool.and_eq_true, decide_eq_true_eq, Bool.not_eq_true'] at h
      obtain ⟨⟨⟨⟨⟨rfl, h1⟩, h2⟩, h3⟩, h4⟩, rfl⟩ := h
      exact ls_sat (ok.at_ _ h1) (sE o (md := .p) ok h3) (sE e (md := .k) ok h4) (swaps_no h2)
    · cases h
  | .spp i j, G, Gn, Gb, st, ok, h => by
    rw [dS.eq_def] at h
    dsimp only at h
    split at h
    · simp only [Bool.and_eq_true, decide_eq_true_eq, Bool.not_eq_true'] at h
      obtain ⟨⟨⟨⟨⟨⟨⟨rfl, h1⟩, h2⟩, h3⟩, h4⟩, h5⟩, h6⟩, rfl⟩ := h
      obtain ⟨a1, a2, a3, a4⟩ := ok.var h4
      obtain ⟨l1, l2⟩ := ok.loc h2
      exact ls_spp h5 h3 ok.nd (by rw [ok.hN]; exact h1) l1 l2 a1 a2 a3 a4 h6 (swaps_no rfl)
    · cases h
  | .pop j, G, Gn, Gb, st, ok, h => by
    rw [dS.eq_def] at h
    dsimp only at h
    split at h
    · simp only [Bool.and_eq_true, decide_eq_true_eq, Bool.not_eq_true'] at h
      obtain ⟨⟨⟨⟨rfl, h4⟩, h5⟩, h6⟩, rfl⟩ := h
      obtain ⟨a1, a2, a3, a4⟩ := ok.var h4
      exact ls_pop h5 a1 a2 a3 a4 h6 (swaps_no rfl)
    · cases h
theorem sSs : ∀ (s : ISs) {G Gn Gb : List Bool} {st : List Stmt}, Cok T k X c → dSs c G Gn Gb s st = true → PSs X st (tSs T W G Gn Gb s)
  | .nil, G, Gn, Gb, st, ok, h => by
    rw [dSs.eq_def] at h
    dsimp only at h
    split at h
    · have := of_decide_eq_true h
      subst this
      exact lss_nil
    · cases h
  | .cons s r, G, Gn, Gb, st, ok, h => by
    rw [dSs.eq_def] at h
    dsimp only at h
    split at h
    · rename_i i hi
      rw [isFrz_some hi]
      exact lss_frz (sSs r ok h)
    · split at h
      · simp only [Bool.and_eq_true] at h
        exact lss_cons (sS s ok h.1) (sSs r ok h.2)
      · cases h
end
end
end DI

set_option Elab.async false
set_option linter.all false
set_option maxRecDepth 100000
set_option maxHeartbeats 4000000
/-! a generator's body as a tree -/
namespace DI
open PySem PySem.Spec PyProof.Rows L2 GenW
def FinG (T : Rd') (F0 : Hp) (rs0 : List Addr) (Gn Gb : List Bool) (o : OutG) (D : GEnds) : Prop := match o with
  | .nxt S st ds => ∀ F rs H σ ys, At T F0 rs0 Gn F rs H S st σ → Iss T.K F rs ds ys → D.nx ys σ H
  | .brk S st ds => ∀ F rs H σ ys, At T F0 rs0 Gb F rs H S st σ → Iss T.K F rs ds ys → D.bk ys σ H
  | .cnt S st ds => ∀ F rs H σ ys, At T F0 rs0 Gb F rs H S st σ → Iss T.K F rs ds ys → D.ct ys σ H
  | .ret st ds => ∀ F rs H ys, Step F0 rs0 T.H0 F rs H → StOk T.K F rs H st → Iss T.K F rs ds ys → D.rt ys .non H
  | .no => False
def tIG (T : Rd') (W : Nat) (G Gn Gb : List Bool) (s : IG) : TGn := fun D ys σ H => ∃ F0 rs0 F rs S st ds, At T F0 rs0 G F rs H S st σ ∧ Iss T.K F rs ds ys ∧ FinG T F0 rs0 Gn Gb (execG T.P W s S st ds) D
def tIGs (T : Rd') (W : Nat) (G Gn Gb : List Bool) (s : IGs) : TGn := fun D ys σ H => ∃ F0 rs0 F rs S st ds, At T F0 rs0 G F rs H S st σ ∧ Iss T.K F rs ds ys ∧ FinG T F0 rs0 Gn Gb (execGs T.P W s S st ds) D
section
variable {X : Cx} {T : Rd'} {W : Nat} {G G1 Gn Gb : List Bool} {pos yp : Pos} {e : Expr} {ie : IE} {stm : Stmt} {sts : List Stmt} {s : IS}
theorem PS.nox {st : Stmt} {t : TS} (h : PS X.nox st t) : PS X st t := ⟨fun pins s σ H D I hw =>
  wpAny_mono (h.run pins s σ H D (I.wish _) hw) (fun _ _ q => q.unwish) fun _ _ z => False.elim z⟩
theorem PI.nox {tg it : Expr} {w : TI} (h : PI X.nox tg it w) : PI X tg it w := ⟨fun pins s σ H R I hw =>
  wpAny_mono (h.run pins s σ H R (I.wish _) hw) (fun v s1 h1 => wpAny_mono h1 (fun itv s2 ⟨it, fp, tn, J, H', e, I', T, st, f, r⟩ => ⟨it, fp, tn, J, H', e, I'.unwish, T, st, f, r⟩) fun _ _ z => False.elim z) fun _ _ z => False.elim z⟩
theorem PG.nox {tg : Expr} {g : TG} (h : PG X.nox tg g) : PG X tg g := ⟨fun pins s σ H x u Q I r hw =>
  wpAny_mono (h.run pins s σ H x u Q (I.wish _) r hw) (fun _ s6 ⟨σ6, H6, I6, q6⟩ => ⟨σ6, H6, I6.unwish, q6⟩) fun _ _ z => False.elim z⟩
theorem GS.imp {st : Stmt} {t t' : TGn} (h : GS X st t) (hi : ∀ D ys σ H, t' D ys σ H → t D ys σ H) : GS X st t' := ⟨fun A S ip R n ys s₀ c fs K J gd lv s σ H D g hn k I q => h.run A S ip R n ys s₀ c fs K J gd lv s σ H D g hn k I (hi D ys σ H q)⟩
theorem GSs.imp {st : List Stmt} {t t' : TGn} (h : GSs X st t) (hi : ∀ D ys σ H, t' D ys σ H → t D ys σ H) : GSs X st t' := ⟨fun A S ip R n ys s₀ c fs K J gd lv s σ H D g hn k I q => h.run A S ip R n ys s₀ c fs K J gd lv s σ H D g hn k I (hi D ys σ H q)⟩
theorem lg_pl (h : PS X stm (tS T W G Gn Gb s)) : GS X stm (tIG T W G Gn Gb (.pl s)) := GS.imp (gs_ps h) fun D ys σ H ⟨F0, rs0, F, rs, S, st, ds, a, iy, f⟩ => by
  rw [execG] at f
  refine ⟨F, rs, F, rs, S, st, ⟨a.s.base, a.o, a.e⟩, ?_⟩
  cases h : exec T.P W s S st with
  | nxt S1 st1 => rw [h] at f; exact fun F' rs' H' σ' a' => f F' rs' H' σ' ys ⟨a.s.back a'.s, a'.o, a'.e⟩ (iy.mono a'.s.sF a'.s.pre)
  | brk S1 st1 => rw [h] at f; exact fun F' rs' H' σ' a' => f F' rs' H' σ' ys ⟨a.s.back a'.s, a'.o, a'.e⟩ (iy.mono a'.s.sF a'.s.pre)
  | cnt S1 st1 => rw [h] at f; exact fun F' rs' H' σ' a' => f F' rs' H' σ' ys ⟨a.s.back a'.s, a'.o, a'.e⟩ (iy.mono a'.s.sF a'.s.pre)
  | ret d st1 =>
    rw [h] at f
    cases d with
    | non =>
      intro F' rs' H' v s' o' i
      cases i
      exact f F' rs' H' ys (a.s.back s') o' (iy.mono s'.sF s'.pre)
    | _ => exact f.elim
  | err d st1 => rw [h] at f; exact f.elim
  | no => rw [h] at f; exact f.elim
theorem lg_yld (hco : X.env.scope.isCoroutine = false) (hi : interactive X.env = false) (he : PE X e (tE (T.g G) (relK T.K) ie)) : GS X (.Expr (.Yield (some e) yp) pos) (tIG T W G G Gb (.yld ie)) := GS.imp (gs_yield he hco hi) fun D ys σ H ⟨F0, rs0, F, rs, S, st, ds, a, iy, f⟩ => by
  rw [execG] at f
  cases h : ev T.P S ie st with
  | err d st1 => rw [h] at f; exact f.elim
  | no => rw [h] at f; exact f.elim
  | ok d st1 =>
    rw [h] at f
    dsimp only at f
    by_cases hl : ds.length < 16777216
    · rw [if_pos hl] at f
      have hyl := iy.length
      refine ⟨by rw [line_eq, ← hyl]; exact hl, F, rs, S, st, a.e, a.o, ?_⟩
      have h : ev (T.g G).P S ie st = .ok d st1 := h
      rw [h]
      intro v F1 rs1 H1 s1 S1 q1
      exact f F1 rs1 H1 σ (ys ++ [v]) (a.step s1 S1) ((iy.mono s1.sF s1.pre).append ⟨v, [], rfl, q1, rfl⟩)
    · rw [if_neg hl] at f; exact f.elim
theorem lgg_nil : GSs X [] (tIGs T W G G Gb .nil) := GSs.imp gss_nil fun D ys σ H ⟨F0, rs0, F, rs, S, st, ds, a, iy, f⟩ => by
  rw [execGs] at f
  exact f F rs H σ ys a iy
theorem lgg_cons {g : IG} {gs : IGs} (h1 : GS X stm (tIG T W G G1 Gb g)) (h2 : GSs X sts (tIGs T W G1 Gn Gb gs)) : GSs X (stm :: sts) (tIGs T W G Gn Gb (.cons g gs)) := by
  refine GSs.imp (gss_cons h1 h2) fun D ys σ H ⟨F0, rs0, F, rs, S, st, ds, a, iy, f⟩ => ?_
  rw [execGs] at f
  refine ⟨F0, rs0, F, rs, S, st, ds, a, iy, ?_⟩
  cases h : execG T.P W g S st ds with
  | nxt S1 st1 ds1 => rw [h] at f; exact fun F1 rs1 H1 σ1 ys1 a1 i1 => ⟨F0, rs0, F1, rs1, S1, st1, ds1, a1, i1, f⟩
  | brk S1 st1 ds1 => rw [h] at f; exact f
  | cnt S1 st1 ds1 => rw [h] at f; exact f
  | ret st1 ds1 => rw [h] at f; exact f
  | no => rw [h] at f; exact f
theorem FinG.rebase {F0 F H : Hp} {rs0 rs : List Addr} {D : GEnds} (s : Step F0 rs0 T.H0 F rs H) {o : OutG} (h : FinG T F0 rs0 Gn Gb o D) : FinG T F rs Gn Gb o D := by
  cases o with
  | nxt S st ds => exact fun F1 rs1 H1 σ ys a => h F1 rs1 H1 σ ys ⟨s.back a.s, a.o, a.e⟩
  | brk S st ds => exact fun F1 rs1 H1 σ ys a => h F1 rs1 H1 σ ys ⟨s.back a.s, a.o, a.e⟩
  | cnt S st ds => exact fun F1 rs1 H1 σ ys a => h F1 rs1 H1 σ ys ⟨s.back a.s, a.o, a.e⟩
  | ret st ds => exact fun F1 rs1 H1 ys a => h F1 rs1 H1 ys (s.back a)
  | no => exact h
theorem lg_frr {tg iter : Expr} {body : List Stmt} {t : IT} {it : II} {ibody : IGs} (hx : PassesOwn (model X.prog X.w) X.A X.env X.xe) (hc : X.calm = true) (hi : PI X tg iter (tI (T.g G) it)) (hg : PG X tg (tG (T.g G) t)) (hb : GSs X body (tIGs T W G G G ibody))
    (hs : ∀ x, foldedSetIterable iter X.env x = pure x) (hp : pureT t = true) : GS X (.For tg iter body [] pos) (tIG T W G G Gb (.frr t it ibody)) := by
  refine GS.imp (gs_for hx hc hi hg hb hs) fun D ys σ H ⟨F0, rs0, F, rs, S, st, ds, at_, iy, f⟩ => ?_
  rw [execG] at f
  refine ⟨F, rs, S, st, at_.e, at_.o, ?_⟩
  cases hl : itm T.P S it st with
  | err d st1 => rw [hl] at f; exact f.elim
  | no => rw [hl] at f; exact f.elim
  | ok l st1 =>
  rw [hl] at f
  intro J F1 rs1 H1 s1 S1 q
  have q : Walk T.K l F1 rs1 H1 J := q
  have a1 := at_.step s1 S1
  have f1 := FinG.rebase a1.s f
  refine ⟨fun i m ys σ H => m = l.length - i ∧ i ≤ l.length ∧ ∃ F rs S st ds, At T F1 rs1 G F rs H S st σ ∧ Iss T.K F rs ds ys ∧ FinG T F1 rs1 G Gb (forG (fun x S st ds => match asg T.P t x S st with
      | .ok S st => execGs T.P W ibody S st ds
      | _ => .no) (l.drop i) S st ds) D, ⟨l.length, by simp, Nat.zero_le _, F1, rs1, S, st1, ds, ⟨a1.s.base, a1.o, a1.e⟩, iy.mono s1.sF s1.pre, f1⟩, ?_⟩
  rintro i m ys σ H ⟨rfl, hil, F2, rs2, S2, st2, ds2, a2, iy2, f2⟩
  have wk := q F2 rs2 H st2 a2.s.sF a2.s.pre a2.o i
  by_cases hlt : i < l.length
  · have hdr : l.drop i = l[i] :: l.drop (i + 1) := List.drop_eq_getElem_cons hlt
    rw [hdr, forG] at f2
    obtain ⟨go, yl⟩ := wk.1 l[i] (List.getElem?_eq_getElem hlt)
    refine .inr ⟨go, _, fun ys' σ' H' p' => ⟨l.length - (i + 1), by omega, rfl, hlt, p'⟩, fun x H' y => ?_⟩
    obtain ⟨F3, s3, S3, ix⟩ := yl x H' y
    have a3 := a2.step s3 S3
    cases ha : asg T.P t l[i] S2 st2 with
    | err d st3 => simp only [ha] at f2; exact f2.elim
    | no => simp only [ha] at f2; exact f2.elim
    | ok Sx stx =>
      have e1 := pure_st hp ha
      subst e1
      simp only [ha] at f2
      refine ⟨F3, rs2, S2, stx, l[i], Sx, a3.e, S3, ix, ha, fun σ2 ex _ _ => ⟨F1, rs1, F3, rs2, Sx, stx, ds2, ⟨a3.s, S3, ex⟩, iy2.mono s3.sF s3.pre, ?_⟩⟩
      cases hb : execGs T.P W ibody Sx stx ds2 with
      | nxt S4 st4 ds4 =>
        simp only [hb] at f2
        exact fun F4 rs4 H4 σ4 ys4 a4 i4 => ⟨F4, rs4, S4, st4, ds4, a4, i4, f2⟩
      | cnt S4 st4 ds4 =>
        simp only [hb] at f2
        exact fun F4 rs4 H4 σ4 ys4 a4 i4 => ⟨F4, rs4, S4, st4, ds4, a4, i4, f2⟩
      | brk S4 st4 ds4 => simp only [hb] at f2; exact f2
      | ret st4 ds4 => simp only [hb] at f2; exact f2
      | no => simp only [hb] at f2; exact f2
  · have e : i = l.length := by omega
    subst e
    rw [List.drop_length, forG] at f2
    exact .inl ⟨wk.2 (Nat.le_refl _), f2 F2 rs2 H σ ys a2 iy2⟩
end
end DI

set_option Elab.async false
set_option linter.all false
set_option maxRecDepth 100000
set_option maxHeartbeats 8000000
namespace DI
open PySem PySem.Spec PyProof.Rows L2
/-! ### defs -/
theorem start_env {K : Kg} {F H H0 : Hp} {rs : List Addr} {N : List Str} {ds : List D} {vs : List V} {n : Nat} (h : Iss K F rs ds vs) (hn : n = N.length) : EnvOk K F rs H H0 (List.replicate N.length false) (ds.map some ++ List.replicate (n - ds.length) none) (L2.start N vs) := by
  have hl := h.length
  subst hn
  unfold L2.start
  refine ⟨by simp [hl], fun i d hd => ?_, fun i j c c' u hij gi => ?_⟩
  · have hi : i < ds.length := by
      by_cases q : i < ds.length
      · exact q
      · rw [List.getElem?_append_right (by simpa using q)] at hd
        have := List.mem_of_getElem? hd
        rw [List.mem_replicate] at this
        cases this.2
    rw [List.getElem?_append_left (by simpa using hi), List.getElem?_map] at hd
    cases q : ds[i]? with
    | none => rw [q] at hd; cases hd
    | some e =>
      rw [q] at hd
      cases hd
      obtain ⟨v, hv, iv⟩ := h.get q
      refine ⟨v, ?_, ?_⟩
      · rw [List.getElem?_append_left (by simpa [hl] using hi), List.getElem?_map, hv]
        rfl
      · have g : (List.replicate N.length false).getD i false = false := by
          rw [List.getD_eq_getElem?_getD, List.getElem?_replicate]
          split <;> rfl
        rw [g, if_neg Bool.false_ne_true]
        exact iv
  · have g : (List.replicate N.length false).getD i false = false := by
      rw [List.getD_eq_getElem?_getD, List.getElem?_replicate]
      split <;> rfl
    rw [g] at gi
    cases gi
/-- what the calls of level k keep -/
def Lvl (P : Program) (w : World) (K : Kg) (mg : Str → Option Value) (base : Heap) (fs : List Str) (C : Calls) (k : Nat) : Prop := ∀ f x, fs[f]? = some x → FnG P w K.K mg base k (K.fa f) (spD K C f)
/-- what stands in the written part -/
structure Sta (K : Kg) (mg : Str → Option Value) (fs : List Str) (ct : CT) : Prop where
  bl : ∀ x ∈ bltNs, mg x = none
  gs : ∀ f x, fs[f]? = some x → ct.mets.contains f = false → mg x = some (.ref (K.fa f)) ∧ PySem.W.keepIn K.K (.ref (K.fa f)) = true
  at_ : ∀ x, ct.atts.contains x = true → ∀ k, Cls K.K (K.ca k) ∧ NoAttr K.K (K.ca k) x
  pr : ∀ k x f, ct.prps.contains (k, x, f) = true → Cls K.K (K.ca k) ∧ (∃ pa, PropOf K.K (K.ca k) x pa (K.fa f)) ∧ ∃ y, fs[f]? = some y
  nw : ∀ k x f, ct.news.contains (k, x, f) = true → Mk K.K (K.ca k) (K.fa f) ∧ mg x = some (.ref (K.ca k)) ∧ ∃ y, fs[f]? = some y
  cs : ∀ k x y i, ct.csts.contains (k, x, y, i) = true → x ≠ "__name__" ∧ mg x = some (.ref (K.ca k)) ∧ ∃ mc u, ClX.CRead K.K (K.ca k) mc ∧ ClX.CVal K.K (K.ca k) mc y (.int i) u
  mt : ∀ k x f, ct.mtds.contains (k, x, f) = true → Cls K.K (K.ca k) ∧ Meth K.K (K.ca k) x (K.fa f) ∧ ∃ y, fs[f]? = some y
  ln : ∀ k f, ct.lens.contains (k, f) = true → Meth K.K (K.ca k) "__len__" (K.fa f) ∧ ∃ y, fs[f]? = some y
  gn : ∀ f x, ct.gens.contains (f, x) = true → mg x = some (.ref (K.fa f)) ∧ PySem.W.keepIn K.K (.ref (K.fa f)) = true
/-- what the generator defs of level k keep -/
def LvlG (P : Program) (w : World) (K : Kg) (mg : Str → Option Value) (base : Heap) (ct : CT) (C : Calls) (k : Nat) : Prop := ∀ f x, ct.gens.contains (f, x) = true → FnGn P w K.K mg base k (K.fa f) (spG K C f)
section
variable {P : Program} {w : World} {K : Kg} {mg : Str → Option Value} {base : Heap} {fs : List Str} {ct : CT} {fns : List Fn} {W k : Nat}
theorem body_ok {F : Fn} {N : List Str} {st : Stmt} {qual : Str} {ps : List Str} {Gn : List Bool} (S : FnScope N ps (defScope st)) (hn : F.nn = N.length) (hb : dSs ⟨N, defScope st, none, fs, ct⟩ (List.replicate N.length false) Gn [] F.body (defBody st) = true)
    (hm : Sta K mg fs ct) (L : Lvl P w K mg base fs (callN fns W k) k) (LG : LvlG P w K mg base ct (callN fns W k) k) {f : Addr} {cdv : Value} {A : Around} {outer : List PySem.Env} {s : Shared} {H : Hp} {vs : List V} {Q : VK} {E : XK} (hr : RmB k (A.deeper (envOfC qual (defScope st) s.heap.objs.size f cdv)))
    {F0 : Hp} {rs : List Addr} {ds : List D} {sto : Store} (so : StOk K F0 rs H sto) (iv : Iss K F0 rs ds vs) (fin : Fin K (relK K) F0 rs H (runF (callN fns W k) W F ds sto) Q E) :
    ∃ t, PSs (cxOf CX0 P w K.K mg base N qual (defScope st) f cdv A outer s H E).nox (defBody st) t ∧ t { nx := fun _ H' => Q .non H', rt := Q } (L2.start N vs) H := by
  let T : Rd' := ⟨K, callN fns W k, H, [], fun _ _ _ _ => False⟩
  have ok : Cok T k (cxOf CX0 P w K.K mg base N qual (defScope st) f cdv A outer s H E).nox ⟨N, defScope st, none, fs, ct⟩ := ⟨rfl, rfl, S.nd, rfl, S.kind, rfl, rfl, rfl, hr, fun _ _ => rfl, hm.bl, L, hm.gs, hm.at_, hm.pr, hm.nw, hm.cs, hm.mt, hm.ln, fun f x h => ⟨LG f x h, hm.gn f x h⟩⟩
  refine ⟨_, sSs (W := W) F.body ok hb, F0, rs, F0, rs, ds.map some ++ List.replicate (F.nn - ds.length) none, sto, ⟨Step.refl, so, start_env iv hn⟩, ?_⟩
  unfold runF at fin
  show FinS T F0 rs Gn [] (execs (callN fns W k) W F.body _ sto) _
  cases he : execs (callN fns W k) W F.body (ds.map some ++ List.replicate (F.nn - ds.length) none) sto with
  | nxt S1 st1 =>
    rw [he] at fin
    exact fun F1 rs1 H1 σ1 a1 => fin .non F1 rs1 H1 a1.s a1.o rfl
  | ret d st1 =>
    rw [he] at fin
    exact fun F1 rs1 H1 v s1 S1 i1 => fin v F1 rs1 H1 s1 S1 i1
  | brk _ _ => rw [he] at fin; exact fin.elim
  | cnt _ _ => rw [he] at fin; exact fin.elim
  | err _ _ => rw [he] at fin; exact fin.elim
  | no => rw [he] at fin; exact fin.elim
/-- a plain def -/
theorem def_ok {F : Fn} {N : List Str} {st : Stmt} {x qual : Str} {ps : List Str} {Gn : List Bool} {f : Nat} {fd : FuncData} (hf : fns[f]? = some F) (hs : F.star = false) (hp : F.np = ps.length) (S : FnScope N ps (defScope st)) (hn : F.nn = N.length)
    (hb : dSs ⟨N, defScope st, none, fs, ct⟩ (List.replicate N.length false) Gn [] F.body (defBody st) = true) (hm : Sta K mg fs ct) (Fu : Fun K.K x qual st (K.fa f) fd)
    (hbind : ∀ (kV doc pm : Value) (an : Option Addr) (cdv ct : Value) (us : List Value), us.length = ps.length → bindArgs (PySem.W.fnOf x qual (defArgs st) (defBody st) (defScope st) .none kV doc pm an cdv ct) ⟨us, []⟩ = pure (ps.zip us))
    (hg : F.gen = none) (L : Lvl P w K mg base fs (callN fns W k) k) (LG : LvlG P w K mg base ct (callN fns W k) k) : FnG P w K.K mg base (k + 1) (K.fa f) (spD K (callN fns W (k + 1)) f) := by
  intro A stk s H args ws Q E hr e0 r ⟨F0, rs, ds, sto, so, iv, fin⟩
  obtain ⟨oc, od, kV, doc, pm, an, cdv, ctv, osl, rfl, lk, hcd⟩ := Fu.ex
  rw [callN] at fin
  dsimp only at fin
  rw [hf] at fin
  dsimp only at fin
  unfold bindE at fin
  rw [hs, if_neg Bool.false_ne_true] at fin
  by_cases h : ds.length = F.np
  · rw [if_pos h] at fin
    dsimp only at fin
    rw [hg] at fin
    dsimp only at fin
    have hl : ws.length = ps.length := by rw [← iv.length, h, hp]
    refine StX.run_bnd (k := k) lk hcd S hr.room e0 (G := fun vs H2 => vs = ws ∧ H2 = H) (fun A' Ex Q' hq => ?_) fun s2 H2 vs hg _ => ?_
    · rw [hbind _ _ _ _ _ _ args (by rw [← r.length]; exact hl)]
      exact wpAny_pure (hq s H ws args e0 (Un.kept fun _ _ z => z) rfl (fun _ _ z => z) r hl ⟨rfl, rfl⟩)
    · obtain ⟨rfl, rfl⟩ := hg
      obtain ⟨t, h1, h2⟩ := body_ok S hn hb hm L LG (hr.deeper _) so iv fin
      exact ⟨t, h1.nox, h2⟩
  · rw [if_neg h] at fin
    exact fin.elim
/-- a def with a star -/
theorem def_star {F : Fn} {N : List Str} {st : Stmt} {x qual pv : Str} {ps : List Str} {Gn : List Bool} {f : Nat} {fd : FuncData} (hf : fns[f]? = some F) (hs : F.star = true) (hp : F.np = ps.length) (S : FnScope N (ps ++ [pv]) (defScope st)) (hn : F.nn = N.length)
    (hb : dSs ⟨N, defScope st, none, fs, ct⟩ (List.replicate N.length false) Gn [] F.body (defBody st) = true) (hm : Sta K mg fs ct) (Fu : Fun K.K x qual st (K.fa f) fd)
    (hbind : ∀ (kV doc pm : Value) (an : Option Addr) (cdv ct : Value) (us rest : List Value), us.length = ps.length → bindArgs (PySem.W.fnOf x qual (defArgs st) (defBody st) (defScope st) .none kV doc pm an cdv ct) ⟨us ++ rest, []⟩ = (newTuple rest >>= fun t => pure (ps.zip us ++ [(pv, t)])))
    (hg : F.gen = none) (L : Lvl P w K mg base fs (callN fns W k) k) (LG : LvlG P w K mg base ct (callN fns W k) k) : FnG P w K.K mg base (k + 1) (K.fa f) (spD K (callN fns W (k + 1)) f) := by
  intro A stk s H args ws Q E hr e0 r ⟨F0, rs, ds, sto, so, iv, fin⟩
  obtain ⟨oc, od, kV, doc, pm, an, cdv, ctv, osl, rfl, lk, hcd⟩ := Fu.ex
  rw [callN] at fin
  dsimp only at fin
  rw [hf] at fin
  dsimp only at fin
  unfold bindE at fin
  rw [hs, if_pos rfl] at fin
  by_cases h : F.np ≤ ds.length ∧ ds.length ≤ 16777216
  · rw [if_pos h] at fin
    dsimp only at fin
    rw [hg] at fin
    dsimp only at fin
    have hl := iv.length
    have hsplit : ws = ws.take F.np ++ ws.drop F.np := (List.take_append_drop _ _).symm
    obtain ⟨u1, u2, eu, r1, r2⟩ := StX.vals_split (ws := ws.take F.np) (rest := ws.drop F.np) (by rw [← hsplit]; exact r)
    have hn0 : H s.heap.objs.size = none := e0.hok.fresh (Nat.le_refl _)
    have hl1 : (ws.take F.np).length = ps.length := by rw [List.length_take, ← hl, ← hp]; omega
    have hl2 : (ws.drop F.np).length ≤ sizeLine := by rw [List.length_drop, ← hl, line_eq]; omega
    refine StX.run_bnd (k := k) lk hcd S hr.room e0 (G := fun vs H2 => ∃ p, H p = none ∧ vs = ws.take F.np ++ [.ref p] ∧ H2 = upd H p (.tup (ws.drop F.np))) (fun A' Ex Q' hq => ?_) fun s2 H2 vs hg _ => ?_
    · rw [eu, hbind _ _ _ _ _ _ u1 u2 (by rw [← r1.length]; exact hl1)]
      refine wpAny_bind (wpAny_newTuple (wpAny_pure ?_) (by rw [← r2.length]; exact hl2))
      have new : ObjOk P w (upd H s.heap.objs.size (.tup (ws.drop F.np))) (s.heap.push ({ cls := .type "tuple", data := .seq u2.toArray } : Obj)) s.heap.objs.size (.tup (ws.drop F.np)) := ⟨hl2, u2, r2, ⟨_, Heap.get?_push_size _ rfl, rfl, _, rfl⟩⟩
      have z := hq _ _ (ws.take F.np ++ [V.ref s.heap.objs.size]) (u1 ++ [Value.ref s.heap.objs.size]) (StX.env0_laid e0 new) (StX.un_laid hn0) rfl (fun _ _ z => z) (r1.append (.cons rfl .nil)) (by rw [List.length_append, List.length_append, hl1]; rfl) ⟨_, hn0, rfl, rfl⟩
      rw [List.zip_append (by rw [← hl1]; exact r1.length)] at z
      exact z
    · obtain ⟨p, hp0, rfl, rfl⟩ := hg
      have hF := so.freeF hp0
      have st1 : Step F0 rs H (upd F0 p (.tup (ws.drop F.np))) rs (upd H p (.tup (ws.drop F.np))) := Step.new hp0 hF
      obtain ⟨t, h1, h2⟩ := body_ok S hn hb hm L LG (hr.deeper _) (so.new hp0) (((iv.take F.np).mono st1.sF (Pre.refl _)).append (es := [.tup (ds.drop F.np)]) (ws := [.ref p]) ⟨.ref p, [], rfl, ⟨p, _, rfl, upd_same, (iv.drop F.np).mono st1.sF (Pre.refl _)⟩, rfl⟩) (fin.step Up.k st1)
      exact ⟨t, h1.nox, h2⟩
  · rw [if_neg h] at fin
    exact fin.elim
theorem lvl_all (h : ∀ f x, fs[f]? = some x → ∀ k, Lvl P w K mg base fs (callN fns W k) k → LvlG P w K mg base ct (callN fns W k) k → FnG P w K.K mg base (k + 1) (K.fa f) (spD K (callN fns W (k + 1)) f))
    (hG : ∀ f x, ct.gens.contains (f, x) = true → ∀ k, Lvl P w K mg base fs (callN fns W k) k → LvlG P w K mg base ct (callN fns W k) k → FnGn P w K.K mg base (k + 1) (K.fa f) (spG K (callN fns W (k + 1)) f)) : ∀ k, Lvl P w K mg base fs (callN fns W k) k ∧ LvlG P w K mg base ct (callN fns W k) k
  | 0 => ⟨fun f x hx => fun A stk s H args ws Q E _ _ _ ⟨_, _, _, _, _, _, fin⟩ => fin.elim, fun f x hx => fun A stk s H args ws Q _ _ _ ⟨_, _, _, _, _, _, ys, st', e, _⟩ => by cases e⟩
  | k + 1 => ⟨fun f x hx => h f x hx k (lvl_all h hG k).1 (lvl_all h hG k).2, fun f x hx => hG f x hx k (lvl_all h hG k).1 (lvl_all h hG k).2⟩
/-- what the law promises -/
def spLaw (K : PySem.W.Frag) : Sp := fun vs H Q _ => ∃ (a : Addr) (ns : List Int), vs = [.ref a] ∧ SqL K H a (ns.map V.int) ∧ ns.length ≤ 63 ∧ ∀ H', Q (.bl true) H'
/-- the law: what the data say of it, it does -/
theorem law_ok {f : Nat} (F : FnG P w K.K mg base (k + 1) (K.fa f) (spD K (callN fns W (k + 1)) f)) (h : ∀ ns : List Int, ns.length ≤ 63 → ∃ st, callN fns W (k + 1) f [.scr ns] [] = .ok (.bl true) st) : FnG P w K.K mg base (k + 1) (K.fa f) (spLaw K.K) := by
  refine F.imp fun vs H Q E ⟨a, ns, ev, hS, hl, k⟩ => ?_
  subst ev
  obtain ⟨st, e⟩ := h ns hl
  refine ⟨H, [], [.scr ns], [], ⟨Same.refl _, rfl, List.nodup_nil, by simp, by simp⟩, ⟨.ref a, [], rfl, ⟨a, rfl, hS⟩, rfl⟩, ?_⟩
  rw [e]
  intro v F' rs' H' _ _ i
  cases i
  exact k H'
end
/-! ### the end -/
section
variable {P : Program} {w : World} {K : PySem.W.Frag} {mg mb : Str → Option Value} {k : Nat} {fa a : Addr} {sp : Sp} {s1 : Shared} {vs : List Value} {ns : List Int}
/-- the law's own call, from a promise kept where nothing is being shown -/
theorem law_callG (KX : K.In s1.heap) (nG : s1.heap.Ns mainGlobals mg) (nB : s1.heap.Ns builtinsNs mb) (bB : ∀ x : Str, x ≠ "__name__" → mb x = bootBuiltins x) (lim : s1.heap.NoLimit) (gn : s1.gens = #[])
    (ha : s1.heap.get? a = some { cls := .type "list", data := .seq vs.toArray }) (hi : IntsAre vs ns) (hl : ns.length ≤ sizeLine) (hr : Rm k callerA) (F : ∀ base : Heap, K.In base → base.Ns mainGlobals mg → FnG P w K mg base k fa sp)
    (hsp : ∀ H : Hp, SqL K H a (ns.map V.int) → sp [.ref a] H (fun v _ => v = .bl true) E0) :
    codeAny (model P w) callerA (.call (.ref fa) ⟨[.ref a], []⟩) (fun r s2 => r = .ok (.ret (.bool true)) ∧ OldK s1.heap s2.heap ∧ s2.os = s1.os ∧ AllBare s2.gens) s1 := by
  have main : ∀ H : Hp, Only H → SqL K H a (ns.map V.int) → HOk P w H s1.heap → (∀ b u, H b = some u → b = a ∧ K.lookup a = none) →
      codeAny (model P w) callerA (.call (.ref fa) ⟨[.ref a], []⟩) (fun r s2 => r = .ok (.ret (.bool true)) ∧ OldK s1.heap s2.heap ∧ s2.os = s1.os ∧ AllBare s2.gens) s1 := by
    intro H only sq hok alone
    have up : ∀ (b : Addr) (o : Obj), s1.heap.get? b = some o → (∀ u, H b = some u → False) → (hidT s1.heap H).get? b = some o := fun b o e n => hidT_get e (by
      cases q : H b with
      | none => rfl
      | some u => exact (n u q).elim)
    have nsB : ∀ (b : Addr) (m : Str → Option Value), s1.heap.Ns b m → (hidT s1.heap H).Ns b m := by
      rintro b m ⟨o, es, ep, e, d, r⟩
      refine ⟨o, es, ep, up b o e fun u q => ?_, d, r⟩
      obtain ⟨rfl, _⟩ := alone b u q
      rw [ha] at e
      cases e
      cases (show Data.seq vs.toArray _ = Data.dict es ep from d)
    have inB : K.In (hidT s1.heap H) := fun b o e => up b o (KX b o e) fun u q => by
      obtain ⟨rfl, z⟩ := alone b u q
      rw [z] at e
      cases e
    have md : Mod K mg (hidT s1.heap H) := ⟨inB, nsB _ _ nG, ⟨mb, nsB _ _ nB, bB⟩, by
      obtain ⟨mc, l1, l2⟩ := lim
      exact ⟨mc, nsB _ _ l1, l2⟩⟩
    have en : Env0 P w K mg (hidT s1.heap H) callerA [] s1 H := ⟨rfl, md, fun b o e => of_hidT e, Nat.le_of_eq (hidT_size _ _), trivial, fun b hb => (List.not_mem_nil hb).elim, hok, .of_eq gn⟩
    refine codeAny_mono (F _ inB (nsB _ _ nG) callerA [] s1 H [.ref a] [.ref a] _ _ hr en (.cons rfl .nil) (hsp H sq)) fun r s2 z => ?_
    match r, z with
    | .error _, z => exact False.elim z
    | .ok .next, z => exact False.elim z
    | .ok .brk, z => exact False.elim z
    | .ok .cont, z => exact False.elim z
    | .ok (.ret u), ⟨v, H2, os, bare, un, hok2, ru, q⟩ =>
      have q : v = .bl true := q
      subst q
      have eu : u = Value.bool true := ru
      subst eu
      refine ⟨rfl, OldK.of_keep fun b o e => ?_, os, bare⟩
      cases hb : H b with
      | none => exact un.keep b o e hb List.not_mem_nil List.not_mem_nil
      | some t =>
        rcases only b with n | ⟨ob, xs, n⟩
        · rw [hb] at n; cases n
        · obtain ⟨g1, _⟩ := hok b _ n
          obtain ⟨g2, _⟩ := hok2 b _ (un.frzs b ob _ n)
          rw [e] at g1
          cases g1
          exact g2
  have rv := vals_ints hi
  have hvl := hi.length
  cases hk : K.lookup a with
  | some o =>
    have e := KX a o hk
    rw [ha] at e
    cases e
    exact main (fun _ => none) (fun _ => .inl rfl) (.inr ⟨_, vs.toArray, _, hk, rfl, rfl, rfl, by rw [List.size_toArray, hvl]; exact hl, by simpa using rv⟩) (fun _ _ z => by cases z) (fun _ _ z => by cases z)
  | none =>
    have at_a : (fun b => if b = a then some (HO.frz { cls := .type "list", data := .seq vs.toArray } (.lst (ns.map V.int))) else none) a = some (HO.frz { cls := .type "list", data := .seq vs.toArray } (.lst (ns.map V.int))) := if_pos rfl
    refine main (fun b => if b = a then some (.frz { cls := .type "list", data := .seq vs.toArray } (.lst (ns.map V.int))) else none) (fun b => ?_) (.inl (.inr ⟨_, at_a⟩)) (fun b u z => ?_) (fun b u z => ?_)
    · by_cases e : b = a
      · subst e; exact .inr ⟨_, _, at_a⟩
      · exact .inl (if_neg e)
    · by_cases e : b = a
      · subst e
        have z : some _ = some u := at_a.symm.trans z
        cases z
        exact ⟨ha, by rw [List.length_map]; exact hl, vs, _, rv, ha⟩
      · have z : none = some u := (if_neg e).symm.trans z
        cases z
    · by_cases e : b = a
      · exact ⟨e, hk⟩
      · have z : none = some u := (if_neg e).symm.trans z
        cases z
end
theorem walk_ofG {l : PySem.W.OpenLaw} {n k : Nat} {q : Program} {loose : List Str} {XP : (Str → Option Value) → Heap → Prop} {YP : World → Heap → Prop} {d : DefRec} {K : Params → PySem.W.Frag} (hn : l.most = some n) (h63 : n ≤ 63) (hdf : d.params.defaults = []) (hr : Rm k callerA)
    (hY : ∀ (w : World) (h : Heap), YP w h → (K w.params).In h)
    (F : ∀ (w : World) (mg : Str → Option Value) (fa : Addr) (h : Heap), (K w.params).In h → h.Ns mainGlobals mg → mg d.name = some (.ref fa) → ∀ base : Heap, (K w.params).In base → base.Ns mainGlobals mg → FnG l.prog w (K w.params) mg base k fa (spLaw (K w.params))) :
    PySem.W.WalkO q loose XP YP l.row.toRowW d [] (fun f vs => PySem.call f vs) := by
  refine Att.attach_call hn hdf fun w s0 s1 mg mb fa o pm cd doc a vs ns G Y ho hd hcd hmg hobj hints hlen hg => ?_
  have kin := hY w _ Y
  exact law_callG kin G.T.g G.T.b G.T.builtins G.T.nolimit hg hobj hints (by rw [line_eq]; omega) hr (F w mg fa _ kin G.T.g hmg) fun H hS => ⟨a, ns, rfl, hS, by omega, fun _ => rfl⟩
end DI

set_option Elab.async false
set_option linter.all false
set_option maxRecDepth 100000
set_option maxHeartbeats 8000000
namespace DI
open PySem PySem.Spec PyProof.Rows L2 GenW
/-! ### generator defs: the look at the body, and the promise -/
def nextY (G : List Bool) : IG → List Bool
  | .pl s => nextG G s
  | _ => G
mutual
def dY (c : Sc) (G Gn Gb : List Bool) : IG → Stmt → Bool
  | .pl s, st => dS c G Gn Gb s st
  | .yld e, st => (match st with
    | .Expr (.Yield (some ev) _) _ => dE c G .k e ev && decide (Gn = G)
    | _ => false)
  | .frr t it b, st => (match st with
    | .For tg iter sb [] _ => dI c G it tg iter && dG c G t tg && pureT t && !(isSetX iter) && dYs c G G G b sb && decide (Gn = G)
    | _ => false)
def dYs (c : Sc) (G Gn Gb : List Bool) : IGs → List Stmt → Bool
  | .nil, l => (match l with
    | [] => decide (Gn = G)
    | _ => false)
  | .cons s r, l => (match l with
    | x :: xs => dY c G (nextY G s) Gb s x && dYs c (nextY G s) Gn Gb r xs
    | [] => false)
end
section
variable {T : Rd'} {W k : Nat} {X : Cx} {c : Sc}
mutual
theorem sY (ok : Cok T k X.nox c) (hx : PassesOwn (model X.prog X.w) X.A X.env X.xe) (hco : X.env.scope.isCoroutine = false) (hi : interactive X.env = false) : ∀ (s : IG) {G Gn Gb : List Bool} {st : Stmt}, dY c G Gn Gb s st = true → GS X st (tIG T W G Gn Gb s)
  | .pl s, G, Gn, Gb, st, h => by
    rw [dY.eq_def] at h
    exact lg_pl (PS.nox (sS s ok h))
  | .yld e, G, Gn, Gb, st, h => by
    rw [dY.eq_def] at h
    dsimp only at h
    split at h
    · simp only [Bool.and_eq_true, decide_eq_true_eq] at h
      obtain ⟨h1, rfl⟩ := h
      exact lg_yld hco hi (PE.nox (sE e ok h1))
    · cases h
  | .frr t it b, G, Gn, Gb, st, h => by
    rw [dY.eq_def] at h
    dsimp only at h
    split at h
    · simp only [Bool.and_eq_true, decide_eq_true_eq, Bool.not_eq_true'] at h
      obtain ⟨⟨⟨⟨⟨h1, h2⟩, h3⟩, h4⟩, h5⟩, rfl⟩ := h
      exact lg_frr hx ok.cm (PI.nox (sI it ok h1)) (PG.nox (sG t ok h2)) (sYs ok hx hco hi b h5) (set_plain h4) h3
    · cases h
theorem sYs (ok : Cok T k X.nox c) (hx : PassesOwn (model X.prog X.w) X.A X.env X.xe) (hco : X.env.scope.isCoroutine = false) (hi : interactive X.env = false) : ∀ (s : IGs) {G Gn Gb : List Bool} {st : List Stmt}, dYs c G Gn Gb s st = true → GSs X st (tIGs T W G Gn Gb s)
  | .nil, G, Gn, Gb, st, h => by
    rw [dYs.eq_def] at h
    dsimp only at h
    split at h
    · have := of_decide_eq_true h
      subst this
      exact lgg_nil
    · cases h
  | .cons s r, G, Gn, Gb, st, h => by
    rw [dYs.eq_def] at h
    dsimp only at h
    split at h
    · simp only [Bool.and_eq_true] at h
      exact lgg_cons (sY ok hx hco hi s h.1) (sYs ok hx hco hi r h.2)
    · cases h
end
end
section
variable {P : Program} {w : World} {K : Kg} {mg : Str → Option Value} {base : Heap} {fs : List Str} {ct : CT} {fns : List Fn} {W k : Nat}
theorem gbody_ok {b : IGs} {nn : Nat} {N : List Str} {st : Stmt} {qual : Str} {ps : List Str} {Gn : List Bool} (S : GScope N ps (defScope st)) (hn : nn = N.length) (hb : dYs ⟨N, defScope st, none, fs, ct⟩ (List.replicate N.length false) Gn [] b (defBody st) = true)
    (hm : Sta K mg fs ct) (L : Lvl P w K mg base fs (callN fns W k) k) (LG : LvlG P w K mg base ct (callN fns W k) k) {f : Addr} {cdv : Value} {A : Around} {outer : List PySem.Env} {s : Shared} {H : Hp} {vs : List V} {pn : List (Addr × Obj)} (hr : RmB k (A.deeper (envOfC qual (defScope st) s.heap.objs.size f cdv)))
    (hi : interactive (envOfC qual (defScope st) s.heap.objs.size f cdv) = false)
    {F0 : Hp} {rs : List Addr} {ds : List D} {sto : Store} (so : StOk K F0 rs H sto) (iv : Iss K F0 rs ds vs) {Q : List V → Hp → Prop} {ys : List D} {st' : Store}
    (e : (match execGs (callN fns W k) W b (ds.map some ++ List.replicate (nn - ds.length) none) sto [] with
      | .nxt _ st ds => (.ok (.lst ds) st : R D)
      | .ret st ds => .ok (.lst ds) st
      | _ => .no) = .ok (.lst ys) st') (fin : ∀ us F' rs' H', Step F0 rs H F' rs' H' → StOk K F' rs' H' st' → Iss K F' rs' ys us → Q us H') :
    ∃ t, GSs (gcxOf P w K.K mg base N qual (defScope st) f cdv A outer s H E0 pn) (defBody st) t ∧ t { nx := fun ys _ H' => Q ys H', rt := fun ys v H' => v = .non ∧ Q ys H' } [] (L2.start N vs) H := by
  let T : Rd' := ⟨K, callN fns W k, H, [], fun _ _ _ _ => False⟩
  have ok : Cok T k (gcxOf P w K.K mg base N qual (defScope st) f cdv A outer s H E0 pn).nox ⟨N, defScope st, none, fs, ct⟩ := ⟨rfl, rfl, S.nd, rfl, S.kind, rfl, rfl, rfl, hr, fun _ _ => rfl, hm.bl, L, hm.gs, hm.at_, hm.pr, hm.nw, hm.cs, hm.mt, hm.ln, fun f x h => ⟨LG f x h, hm.gn f x h⟩⟩
  refine ⟨_, sYs (W := W) ok owns_gcx S.co hi b hb, F0, rs, F0, rs, ds.map some ++ List.replicate (nn - ds.length) none, sto, [], ⟨Step.refl, so, start_env iv hn⟩, rfl, ?_⟩
  show FinG T F0 rs Gn [] (execGs (callN fns W k) W b _ sto []) _
  cases he : execGs (callN fns W k) W b (ds.map some ++ List.replicate (nn - ds.length) none) sto [] with
  | nxt S1 st1 ds1 =>
    rw [he] at e
    cases e
    exact fun F1 rs1 H1 σ1 ys1 a1 i1 => fin ys1 F1 rs1 H1 a1.s a1.o i1
  | ret st1 ds1 =>
    rw [he] at e
    cases e
    exact fun F1 rs1 H1 ys1 s1 S1 i1 => ⟨rfl, fin ys1 F1 rs1 H1 s1 S1 i1⟩
  | brk _ _ _ => rw [he] at e; cases e
  | cnt _ _ _ => rw [he] at e; cases e
  | no => rw [he] at e; cases e
/-- a generator def with a star -/
theorem gen_star {F : Fn} {b : IGs} {N : List Str} {st : Stmt} {x qual pv : Str} {ps : List Str} {Gn : List Bool} {f : Nat} {fd : FuncData} (hf : fns[f]? = some F) (hs : F.star = true) (hp : F.np = ps.length) (S : GScope N (ps ++ [pv]) (defScope st)) (hn : F.nn = N.length)
    (hb : dYs ⟨N, defScope st, none, fs, ct⟩ (List.replicate N.length false) Gn [] b (defBody st) = true) (hm : Sta K mg fs ct) (Fu : Fun K.K x qual st (K.fa f) fd)
    (hbind : ∀ (kV doc pm : Value) (an : Option Addr) (cdv ct : Value) (us rest : List Value), us.length = ps.length → bindArgs (PySem.W.fnOf x qual (defArgs st) (defBody st) (defScope st) .none kV doc pm an cdv ct) ⟨us ++ rest, []⟩ = (newTuple rest >>= fun t => pure (ps.zip us ++ [(pv, t)])))
    (hi : ∀ (a f : Addr) (cdv : Value), interactive (envOfC qual (defScope st) a f cdv) = false)
    (hg : F.gen = some b) (L : Lvl P w K mg base fs (callN fns W k) k) (LG : LvlG P w K mg base ct (callN fns W k) k) : FnGn P w K.K mg base (k + 1) (K.fa f) (spG K (callN fns W (k + 1)) f) := by
  intro A stk s H args ws Q hr e0 r ⟨F0, rs, ds, sto, so, iv, ys, st', e, fin⟩
  obtain ⟨oc, od, kV, doc, pm, an, cdv, ctv, osl, rfl, lk, hcd⟩ := Fu.ex
  rw [callN] at e
  dsimp only at e
  rw [hf] at e
  dsimp only at e
  unfold bindE at e
  rw [hs, if_pos rfl] at e
  by_cases h : F.np ≤ ds.length ∧ ds.length ≤ 16777216
  · rw [if_pos h] at e
    dsimp only at e
    rw [hg] at e
    dsimp only at e
    unfold runG at e
    have hl := iv.length
    have hsplit : ws = ws.take F.np ++ ws.drop F.np := (List.take_append_drop _ _).symm
    obtain ⟨u1, u2, eu, r1, r2⟩ := StX.vals_split (ws := ws.take F.np) (rest := ws.drop F.np) (by rw [← hsplit]; exact r)
    have hn0 : H s.heap.objs.size = none := e0.hok.fresh (Nat.le_refl _)
    have hl1 : (ws.take F.np).length = ps.length := by rw [List.length_take, ← hl, ← hp]; omega
    have hl2 : (ws.drop F.np).length ≤ sizeLine := by rw [List.length_drop, ← hl, line_eq]; omega
    have KX : K.K.In s.heap := e0.mod.kin.keeps fun b o e => (e0.bs b o e).1
    refine codeAny_call_generator hr.room.depth (KX _ _ lk) rfl S.co S.gen rfl (PySem.W.codeRec_of KX hcd) ?_
    rw [eu, hbind _ _ _ _ _ _ u1 u2 (by rw [← r1.length]; exact hl1)]
    refine wpAny_bind (wpAny_newTuple (wpAny_pure ?_) (by rw [← r2.length]; exact hl2))
    have new : ObjOk P w (upd H s.heap.objs.size (.tup (ws.drop F.np))) (s.heap.push ({ cls := .type "tuple", data := .seq u2.toArray } : Obj)) s.heap.objs.size (.tup (ws.drop F.np)) := ⟨hl2, u2, r2, ⟨_, Heap.get?_push_size _ rfl, rfl, _, rfl⟩⟩
    have e1 := StX.env0_laid e0 new
    have un := StX.un_laid (fs := frs stk) (s := s) (o := ({ cls := .type "tuple", data := .seq u2.toArray } : Obj)) (u := .tup (ws.drop F.np)) hn0
    have hF := so.freeF hn0
    have st1 : Step F0 rs H (upd F0 s.heap.objs.size (.tup (ws.drop F.np))) rs (upd H s.heap.objs.size (.tup (ws.drop F.np))) := Step.new hn0 hF
    have ez : ps.zip u1 ++ [(pv, Value.ref s.heap.objs.size)] = (ps ++ [pv]).zip (u1 ++ [Value.ref s.heap.objs.size]) := by
      rw [List.zip_append (show ps.length = u1.length by rw [← hl1]; exact r1.length)]
      rfl
    rw [ez]
    exact gen_made (R := fun r s' => ∃ u, r = .ok (.ret u) ∧ ∃ (H1 : Hp) (sc : Shared), sc.os = s.os ∧ AllBare sc.gens ∧ Un (frs stk) [] H H1 s.heap sc.heap ∧ HOk P w H1 sc.heap ∧ MadeG P w (k + 1) stk H1 sc Q u s') (qual := qual) (Q := Q) S hr e1 (vs := ws.take F.np ++ [V.ref s.heap.objs.size]) (by rw [List.length_append, List.length_append, hl1]; rfl) (r1.append (.cons rfl .nil))
      (fun A' pn hr' => gbody_ok S hn hb hm L LG hr' (hi _ _ _) (so.new hn0) (((iv.take F.np).mono st1.sF (Pre.refl _)).append (es := [.tup (ds.drop F.np)]) (ws := [.ref s.heap.objs.size]) ⟨.ref s.heap.objs.size, [], rfl, ⟨s.heap.objs.size, _, rfl, upd_same, (iv.drop F.np).mono st1.sF (Pre.refl _)⟩, rfl⟩)
        e fun us F' rs' H' s' => fin us F' rs' H' (st1.trans s'))
      (fun u s' M => ⟨u, rfl, upd H s.heap.objs.size (.tup (ws.drop F.np)), { s with heap := s.heap.push ({ cls := .type "tuple", data := .seq u2.toArray } : Obj) }, rfl, e0.bare, un, e1.hok, M⟩)
  · rw [if_neg h] at e
    cases e
end
end DI

set_option Elab.async false
set_option linter.all false
set_option maxRecDepth 100000
set_option maxHeartbeats 1000000
/-! plain facts about the data and the evaluator -/
namespace DI
open PySem L2
abbrev tI' (ns : List Int) : D := .tup (ns.map .int)
abbrev lI (ns : List Int) : D := .lst (ns.map .int)
theorem pys_int : ∀ ns : List Int, pys (ns.map D.int) = ns.map PyData.int
  | [] => rfl
  | n :: ns => by rw [List.map_cons, pys, pys_int ns]; rfl
theorem lay_int : ∀ ns : List Int, PyData.canLayAll0 (ns.map PyData.int) = true
  | [] => rfl
  | n :: ns => by rw [List.map_cons, PyData.canLayAll0, lay_int ns]; rfl
theorem eqv_ints : ∀ ns ms : List Int, PyData.eqvAll (ns.map PyData.int) (ms.map PyData.int) = decide (ns = ms)
  | [], [] => rfl
  | [], _ :: _ => rfl
  | _ :: _, [] => rfl
  | n :: ns, m :: ms => by
    rw [List.map_cons, List.map_cons, PyData.eqvAll, PyData.eqv, eqv_ints ns ms]
    by_cases h : n = m
    · subst h; simp
    · simp [h]
/-- depth -/
theorem depth_ints : ∀ ns : List Int, PyData.depthAll (ns.map PyData.int) ≤ 1 := by
  intro ns
  induction ns with
  | nil => decide
  | cons n ns ih =>
    rw [List.map_cons, PyData.depthAll]
    have : PyData.depth (PyData.int n) ≤ 1 := by simp [PyData.depth]
    omega
theorem shape_t (ns : List Int) : SeqAt.shaped (tI' ns).py = true := by
  unfold SeqAt.shaped
  rw [D.py, pys_int, PyData.canLay0, lay_int]
  have := depth_ints ns
  rw [PyData.depth]
  simp only [Bool.true_and, decide_eq_true_eq]
  omega
theorem shape_l (ns : List Int) : SeqAt.shaped (lI ns).py = true := by
  unfold SeqAt.shaped
  rw [D.py, pys_int, PyData.canLay0, lay_int]
  have := depth_ints ns
  rw [PyData.depth]
  simp only [Bool.true_and, decide_eq_true_eq]
  omega
theorem eqD_t (ns ms : List Int) : eqD (tI' ns) (tI' ms) = some (decide (ns = ms)) := by
  unfold eqD
  rw [shape_t, shape_t, Bool.and_self, if_pos rfl, D.py, D.py, pys_int, pys_int, PyData.eqv, eqv_ints]
theorem eqD_l (ns ms : List Int) : eqD (lI ns) (lI ms) = some (decide (ns = ms)) := by
  unfold eqD
  rw [shape_l, shape_l, Bool.and_self, if_pos rfl, D.py, D.py, pys_int, pys_int, PyData.eqv, eqv_ints]
theorem eqD_i (n m : Int) : eqD (.int n) (.int m) = some (decide (n = m)) := by
  have e : eqD (.int n) (.int m) = some (n == m) := by
    unfold eqD
    rw [if_pos (by rfl)]
    rfl
  rw [e]
  by_cases h : n = m <;> simp [h]
theorem eqD_b (n m : Bool) : eqD (.bl n) (.bl m) = some (decide (n = m)) := by cases n <;> cases m <;> rfl
/-- lists of tuples of ints -/
theorem pys_tups : ∀ l : List (List Int), pys (l.map tI') = l.map fun ns => PyData.tuple (ns.map .int)
  | [] => rfl
  | n :: l => by rw [List.map_cons, pys, pys_tups l, D.py, pys_int]; rfl
theorem lay_tups : ∀ l : List (List Int), PyData.canLayAll0 (l.map fun ns => PyData.tuple (ns.map .int)) = true
  | [] => rfl
  | n :: l => by rw [List.map_cons, PyData.canLayAll0, lay_tups l, PyData.canLay0, lay_int]; rfl
theorem depth_tups : ∀ l : List (List Int), PyData.depthAll (l.map fun ns => PyData.tuple (ns.map .int)) ≤ 3 := by
  intro l
  induction l with
  | nil => decide
  | cons n l ih =>
    rw [List.map_cons, PyData.depthAll, PyData.depth]
    have := depth_ints n
    omega
theorem eqv_tups : ∀ l m : List (List Int), PyData.eqvAll (l.map fun ns => PyData.tuple (ns.map .int)) (m.map fun ns => PyData.tuple (ns.map .int)) = decide (l = m)
  | [], [] => rfl
  | [], _ :: _ => rfl
  | _ :: _, [] => rfl
  | n :: ns, m :: ms => by
    rw [List.map_cons, List.map_cons, PyData.eqvAll, PyData.eqv, eqv_ints, eqv_tups ns ms]
    by_cases h : n = m
    · subst h; simp
    · simp [h]
theorem eqD_lt (l m : List (List Int)) : eqD (.lst (l.map tI')) (.lst (m.map tI')) = some (decide (l = m)) := by
  have sh : ∀ l : List (List Int), SeqAt.shaped (D.lst (l.map tI')).py = true := fun l => by
    unfold SeqAt.shaped
    rw [D.py, pys_tups, PyData.canLay0, lay_tups, PyData.depth]
    have := depth_tups l
    simp only [Bool.true_and, decide_eq_true_eq]
    omega
  unfold eqD
  rw [sh, sh, Bool.and_self, if_pos rfl, D.py, D.py, pys_tups, pys_tups, PyData.eqv, eqv_tups]
theorem eqD_tt (l m : List (List Int)) : eqD (.tup (l.map tI')) (.tup (m.map tI')) = some (decide (l = m)) := by
  have sh : ∀ l : List (List Int), SeqAt.shaped (D.tup (l.map tI')).py = true := fun l => by
    unfold SeqAt.shaped
    rw [D.py, pys_tups, PyData.canLay0, lay_tups, PyData.depth]
    have := depth_tups l
    simp only [Bool.true_and, decide_eq_true_eq]
    omega
  unfold eqD
  rw [sh, sh, Bool.and_self, if_pos rfl, D.py, D.py, pys_tups, pys_tups, PyData.eqv, eqv_tups]
/-! ### comprehensions, loops -/
theorem compR_map {f : D → Store → R (Option D)} {g : D → D} {st : Store} : ∀ {l : List D}, (∀ x ∈ l, f x st = .ok (some (g x)) st) → compR f l st = .ok (l.map g) st
  | [], _ => rfl
  | x :: l, h => by
    rw [compR, h x List.mem_cons_self]
    show R.bind (compR f l st) _ = _
    rw [compR_map fun y hy => h y (List.mem_cons_of_mem _ hy)]
    rfl
theorem compR_filter {f : D → Store → R (Option D)} {g : D → Option D} {st : Store} : ∀ {l : List D}, (∀ x ∈ l, f x st = .ok (g x) st) → compR f l st = .ok (l.filterMap g) st
  | [], _ => rfl
  | x :: l, h => by
    rw [compR, h x List.mem_cons_self]
    show R.bind (compR f l st) _ = _
    rw [compR_filter fun y hy => h y (List.mem_cons_of_mem _ hy), List.filterMap_cons]
    cases g x <;> rfl
/-- a loop whose body goes on: by an invariant -/
theorem forR_inv {b : D → Env → Store → Out} (I : List D → Env → Store → Prop) : ∀ (l done : List D) (S : Env) (st : Store), I done S st → (∀ d x S st, d ++ [x] <+: done ++ l → I d S st → ∃ S' st', b x S st = .nxt S' st' ∧ I (d ++ [x]) S' st') →
    ∃ S' st', forR b l S st = .nxt S' st' ∧ I (done ++ l) S' st'
  | [], done, S, st, h, _ => ⟨S, st, rfl, by rw [List.append_nil]; exact h⟩
  | x :: l, done, S, st, h, k => by
    obtain ⟨S1, st1, e, h1⟩ := k done x S st ⟨l, by simp⟩ h
    have z := forR_inv I l (done ++ [x]) S1 st1 h1 fun d y S st hp hi => k d y S st (by rw [List.append_assoc] at hp; exact hp) hi
    rw [forR, e]
    rw [List.append_assoc] at z
    exact z
theorem ints_map (ns : List Int) : intsOf (ns.map D.int) = some ns := intsOf_map ns
/-- naturals as data -/
abbrev tN (p : List Nat) : D := tI' (p.map fun (x : Nat) => (x : Int))
abbrev lN (p : List Nat) : D := lI (p.map fun (x : Nat) => (x : Int))
theorem rangeD_nat (n : Nat) : rangeD 0 (n : Int) = (List.range n).map fun (x : Nat) => D.int x := by
  unfold rangeD
  simp
theorem atI_nat {A : Type} (l : List A) (n : Nat) : atI l (n : Int) = l[n]? := by
  unfold atI ixN
  rw [if_pos (Int.natCast_nonneg n)]
  by_cases h : n < l.length
  · rw [if_pos (by omega)]
    simp
  · rw [if_neg (by omega), List.getElem?_eq_none (by omega)]
    rfl
theorem listRg_eq (ds : List D) : bltD .listRg ds = (match rngD ds with
    | some l => if l.length ≤ 16777216 then some (.lst l) else none
    | none => none) := rfl
theorem tupRg_eq (ds : List D) : bltD .tupRg ds = (match rngD ds with
    | some l => if l.length ≤ 16777216 then some (.tup l) else none
    | none => none) := rfl
theorem listRg_of {ds l : List D} (h : rngD ds = some l) (hl : l.length ≤ 16777216) : bltD .listRg ds = some (.lst l) := by
  rw [listRg_eq, h]
  exact if_pos hl
theorem tupRg_of {ds l : List D} (h : rngD ds = some l) (hl : l.length ≤ 16777216) : bltD .tupRg ds = some (.tup l) := by
  rw [tupRg_eq, h]
  exact if_pos hl
theorem rng1_eq (j : Int) : rngD [.int j] = if -(2 ^ 62) ≤ j ∧ j < 2 ^ 62 then some (rangeD 0 j) else none := rfl
theorem rng1_of (n : Nat) (h : n ≤ 1000) : rngD [.int n] = some (rangeD 0 n) := by
  rw [rng1_eq]
  exact if_pos ⟨by omega, by omega⟩
theorem range_len (n : Nat) (h : n ≤ 1000) : (rangeD 0 n).length ≤ 16777216 := by
  rw [rangeD_len]
  omega
theorem rangeD_l (n : Nat) : rangeD 0 n = (List.range n).map fun (x : Nat) => D.int (x : Int) := rangeD_nat n
theorem rangeD_t (n : Nat) : rangeD 0 n = ((List.range n).map fun (x : Nat) => (x : Int)).map D.int := by
  rw [rangeD_nat, List.map_map]
  rfl
theorem x_listRg (n : Nat) (h : n ≤ 1000) : bltD .listRg [.int n] = some (lN (List.range n)) := by
  rw [listRg_of (rng1_of n h) (range_len n h), rangeD_t]
theorem x_tupRg (n : Nat) (h : n ≤ 1000) : bltD .tupRg [.int n] = some (tN (List.range n)) := by
  rw [tupRg_of (rng1_of n h) (range_len n h), rangeD_t]
end DI

set_option Elab.async false
set_option linter.all false
set_option maxRecDepth 100000
set_option maxHeartbeats 1000000
/-! running, step by step -/
namespace DI
open PySem L2
section
variable {C : Calls} {W : Nat} {S S1 S2 : Env} {st st1 st2 st3 : Store} {a b c e k o : IE} {es : IEs} {x y z d : D} {l : List D} {s : IS} {r : ISs} {i : Nat}
theorem e_var (h : S[i]? = some (some d)) : ev C S (.var i) st = .ok d st := by rw [ev, h]
theorem e_con : ev C S (.con d) st = .ok d st := by rw [ev]
theorem e_bin {op : Operator} (ha : ev C S a st = .ok x st1) (hb : ev C S b st1 = .ok y st2) (hz : binD op (see st2 x) (see st2 y) = some z) : ev C S (.bin op a b) st = .ok z st2 := by
  rw [ev, ha]
  show R.bind (ev C S b st1) _ = _
  rw [hb]
  show R.of _ _ = _
  rw [hz]
  rfl
theorem e_cmp {op : CmpOp} {q : Bool} (ha : ev C S a st = .ok x st1) (hb : ev C S b st1 = .ok y st2) (hz : cmpD op (see st2 x) (see st2 y) = some q) : ev C S (.cmp op a b) st = .ok (.bl q) st2 := by
  rw [ev, ha]
  show R.bind (ev C S b st1) _ = _
  rw [hb]
  show R.of _ _ = _
  rw [hz]
  rfl
theorem e_not {q : Bool} (ha : ev C S a st = .ok x st1) (hz : truD (see st1 x) = some q) : ev C S (.not a) st = .ok (.bl (!q)) st1 := by
  rw [ev, ha]
  show R.of _ _ = _
  rw [hz]
  rfl
theorem e_neg {n : Int} (ha : ev C S a st = .ok (.int n) st1) : ev C S (.neg a) st = .ok (.int (-n)) st1 := by
  rw [ev, ha]
  rfl
theorem e_chnT {o1 o2 : CmpOp} {q : Bool} (ha : ev C S a st = .ok x st1) (hb : ev C S b st1 = .ok y st2) (h1 : cmpD o1 (see st2 x) (see st2 y) = some true) (hc : ev C S c st2 = .ok z st3) (h2 : cmpD o2 (see st3 y) (see st3 z) = some q) : ev C S (.chn o1 o2 a b c) st = .ok (.bl q) st3 := by
  rw [ev, ha]
  show R.bind (ev C S b st1) _ = _
  rw [hb]
  show (match cmpD o1 (see st2 x) (see st2 y) with | some true => R.bind (ev C S c st2) _ | some false => _ | none => _) = _
  rw [h1]
  show R.bind (ev C S c st2) _ = _
  rw [hc]
  show R.of _ _ = _
  rw [h2]
  rfl
theorem e_chnF {o1 o2 : CmpOp} (ha : ev C S a st = .ok x st1) (hb : ev C S b st1 = .ok y st2) (h1 : cmpD o1 (see st2 x) (see st2 y) = some false) : ev C S (.chn o1 o2 a b c) st = .ok (.bl false) st2 := by
  rw [ev, ha]
  show R.bind (ev C S b st1) _ = _
  rw [hb]
  show (match cmpD o1 (see st2 x) (see st2 y) with | some true => R.bind (ev C S c st2) _ | some false => _ | none => _) = _
  rw [h1]
theorem e_andT (ha : ev C S a st = .ok x st1) (hz : truD (see st1 x) = some true) : ev C S (.and a b) st = ev C S b st1 := by
  rw [ev, ha]
  show (match truD (see st1 x) with | some true => ev C S b st1 | some false => _ | none => _) = _
  rw [hz]
theorem e_andF (ha : ev C S a st = .ok x st1) (hz : truD (see st1 x) = some false) : ev C S (.and a b) st = .ok x st1 := by
  rw [ev, ha]
  show (match truD (see st1 x) with | some true => ev C S b st1 | some false => _ | none => _) = _
  rw [hz]
theorem e_orT (ha : ev C S a st = .ok x st1) (hz : truD (see st1 x) = some true) : ev C S (.or a b) st = .ok x st1 := by
  rw [ev, ha]
  show (match truD (see st1 x) with | some true => _ | some false => ev C S b st1 | none => _) = _
  rw [hz]
theorem e_orF (ha : ev C S a st = .ok x st1) (hz : truD (see st1 x) = some false) : ev C S (.or a b) st = ev C S b st1 := by
  rw [ev, ha]
  show (match truD (see st1 x) with | some true => _ | some false => ev C S b st1 | none => _) = _
  rw [hz]
theorem e_iteT (ha : ev C S a st = .ok x st1) (hz : truD (see st1 x) = some true) : ev C S (.ite a b c) st = ev C S b st1 := by
  rw [ev, ha]
  show (match truD (see st1 x) with | some true => ev C S b st1 | some false => ev C S c st1 | none => _) = _
  rw [hz]
theorem e_iteF (ha : ev C S a st = .ok x st1) (hz : truD (see st1 x) = some false) : ev C S (.ite a b c) st = ev C S c st1 := by
  rw [ev, ha]
  show (match truD (see st1 x) with | some true => ev C S b st1 | some false => ev C S c st1 | none => _) = _
  rw [hz]
theorem e_tup (h : evs C S es st = .ok l st1) (hl : l.length ≤ 16777216) : ev C S (.tup es) st = .ok (.tup l) st1 := by
  rw [ev, h]
  exact if_pos hl
theorem e_lst (h : evs C S es st = .ok l st1) (hl : l.length ≤ 16777216) : ev C S (.lst es) st = .ok (.lst l) st1 := by
  rw [ev, h]
  exact if_pos hl
theorem e_idx (ha : ev C S a st = .ok x st1) (hb : ev C S b st1 = .ok y st2) (hz : idxD (see st2 x) (see st2 y) = some z) : ev C S (.idx a b) st = .ok z st2 := by
  rw [ev, ha]
  show R.bind (ev C S b st1) _ = _
  rw [hb]
  show R.of _ _ = _
  rw [hz]
  rfl
theorem e_blt {bi : Bi} (h : evs C S es st = .ok l st1) (hz : bltD bi (l.map (see st1)) = some z) : ev C S (.blt bi es) st = .ok z st1 := by
  rw [ev, h]
  show R.of _ _ = _
  rw [hz]
  rfl
theorem e_cal {f : Nat} {n : Str} (h : evs C S es st = .ok l st1) : ev C S (.cal f n es) st = C f l st1 := by
  rw [ev, h]
  rfl
theorem es_nil : evs C S .nil st = .ok [] st := by rw [evs]
theorem es_cons (ha : ev C S a st = .ok x st1) (h : evs C S es st1 = .ok l st2) : evs C S (.cons a es) st = .ok (x :: l) st2 := by
  rw [evs, ha]
  show R.bind (evs C S es st1) _ = _
  rw [h]
  rfl
theorem e_lcp {t : IT} {it : II} {cs : IEs} {own : List Nat} {m : List D} (hi : itm C S it st = .ok l st1) (hc : compR (trn C S own e t cs) l st1 = .ok m st2) (hl : m.length ≤ 16777216) : ev C S (.lcp e t it cs own) st = .ok (.lst m) st2 := by
  rw [ev, hi]
  show R.bind (compR (trn C S own e t cs) l st1) _ = _
  rw [hc]
  exact if_pos hl
/-- a turn of a comprehension without a test -/
theorem t_one {t : IT} {own : List Nat} (ha : asg C t x (wipeE S own) st = .ok S2 st1) (h : ev C S2 e st1 = .ok d st2) : trn C S own e t .nil x st = .ok (some d) st2 := by
  unfold trn
  rw [ha]
  show R.calm (R.bind (ev C S2 e st1) _) = _
  rw [h]
  rfl
theorem t_if {t : IT} {own : List Nat} {q : Bool} (ha : asg C t x (wipeE S own) st = .ok S2 st1) (hq : ev C S2 c st1 = .ok y st2) (hz : truD (see st2 y) = some q) (h : q = true → ev C S2 e st2 = .ok d st3) :
    trn C S own e t (.cons c .nil) x st = if q = true then .ok (some d) st3 else .ok none st2 := by
  unfold trn
  rw [ha]
  show R.calm (R.bind (R.bind (ev C S2 c st1) _) _) = _
  rw [hq]
  show R.calm (R.bind (R.of (truD (see st2 y)) st2) _) = _
  rw [hz]
  cases q with
  | false => rfl
  | true =>
    show R.calm (R.bind (ev C S2 e st2) _) = _
    rw [h rfl]
    rfl
theorem a_nam : asg C (.nam i) d S st = .ok (S.set i (some d)) st := by rw [asg]
theorem i_lst (h : ev C S e st = .ok (.lst l) st1) : itm C S (.val e) st = .ok l st1 := by rw [itm, h]; rfl
theorem i_tup (h : ev C S e st = .ok (.tup l) st1) : itm C S (.val e) st = .ok l st1 := by rw [itm, h]; rfl
theorem i_rng (h : evs C S es st = .ok l st1) {m : List D} (hm : rngD l = some m) : itm C S (.rng es) st = .ok m st1 := by
  rw [itm, h]
  show R.of _ _ = _
  rw [hm]
  rfl
theorem i_enmT (h : ev C S e st = .ok (.tup l) st1) : itm C S (.enm e) st = .ok (enumD l) st1 := by rw [itm, h]; rfl
theorem i_enmL (h : ev C S e st = .ok (.lst l) st1) : itm C S (.enm e) st = .ok (enumD l) st1 := by rw [itm, h]; rfl
theorem i_zipT {m : List D} (h : ev C S a st = .ok (.tup l) st1) (hb : ev C S b st1 = .ok (.tup m) st2) : itm C S (.zip a b) st = .ok (zipD l m) st2 := by
  rw [itm, h]
  show R.bind (ev C S b st1) _ = _
  rw [hb]
  rfl
/-! statements -/
theorem s_nil : execs C W .nil S st = .nxt S st := by rw [execs]
theorem s_nxt (h : exec C W s S st = .nxt S1 st1) : execs C W (.cons s r) S st = execs C W r S1 st1 := by rw [execs, h]
theorem s_ret (h : exec C W s S st = .ret d st1) : execs C W (.cons s r) S st = .ret d st1 := by rw [execs, h]
theorem s_frz : execs C W (.cons (.frz i) r) S st = execs C W r S st := by rw [execs, exec]
theorem x_set (h : ev C S e st = .ok d st1) : exec C W (.set i e) S st = .nxt (S.set i (some d)) st1 := by rw [exec, h]; rfl
theorem x_seto (h : ev C S e st = .ok d st1) (hb : isBox d = true) : exec C W (.seto i e) S st = .nxt (S.set i (some d)) st1 := by
  rw [exec, h]
  exact if_pos hb
theorem x_setr {cl : Cell} (h : ev C S e st = .ok d st1) (hc : cellOf d = some cl) : exec C W (.setr i e) S st = .nxt (S.set i (some (.obj st1.length))) (st1 ++ [cl]) := by
  rw [exec, h]
  show (match cellOf d with | some c => _ | none => _) = _
  rw [hc]
theorem x_ret (h : ev C S e st = .ok d st1) : exec C W (.ret e) S st = .ret d st1 := by rw [exec, h]; rfl
theorem x_exp (h : ev C S e st = .ok d st1) : exec C W (.exp e) S st = .nxt S st1 := by rw [exec, h]; rfl
theorem x_iffT {p q : ISs} (h : ev C S c st = .ok x st1) (hz : truD (see st1 x) = some true) : exec C W (.iff c p q) S st = execs C W p S st1 := by
  rw [exec, h]
  show (match truD (see st1 x) with | some true => execs C W p S st1 | some false => execs C W q S st1 | none => _) = _
  rw [hz]
theorem x_iffF {p q : ISs} (h : ev C S c st = .ok x st1) (hz : truD (see st1 x) = some false) : exec C W (.iff c p q) S st = execs C W q S st1 := by
  rw [exec, h]
  show (match truD (see st1 x) with | some true => execs C W p S st1 | some false => execs C W q S st1 | none => _) = _
  rw [hz]
theorem x_frr {t : IT} {it : II} {bd : ISs} {g : List Nat} (h : itm C S it st = .ok l st1) : exec C W (.frr t it bd g) S st = forR (fun x S st => (asg C t x S st).out fun S st => execs C W bd S st) l S st1 := by rw [exec, h]; rfl
theorem x_par {ps : List (Nat × Bool)} (h : evs C S es st = .ok l st1) (hs : setsE ps l S = some S1) : exec C W (.par ps es) S st = .nxt S1 st1 := by
  rw [exec, h]
  show (match setsE ps l S with | some S => _ | none => _) = _
  rw [hs]
theorem x_sti {n : D} (h : ev C S e st = .ok d st1) (hS : S[i]? = some (some x)) (hk : ev C S k st1 = .ok n st2) (hp : putD x n d = some y) : exec C W (.sti i k e) S st = .nxt (S.set i (some y)) st2 := by
  rw [exec, h]
  show (match S[i]? with | some (some o) => R.out (ev C S k st1) _ | _ => _) = _
  rw [hS]
  show R.out (ev C S k st1) _ = _
  rw [hk]
  show (match putD x n d with | some o => _ | none => _) = _
  rw [hp]
theorem x_app (hS : S[i]? = some (some (.lst l))) (h : ev C S e st = .ok d st1) (hl : l.length < 16777216) : exec C W (.app i e) S st = .nxt (S.set i (some (.lst (l ++ [d])))) st1 := by
  rw [exec, hS]
  show R.out (ev C S e st) _ = _
  rw [h]
  exact if_pos hl
end
end DI

set_option Elab.async false
set_option linter.all false
set_option maxRecDepth 100000
set_option maxHeartbeats 0
namespace DI.Law
open PySem L2 DI
def top (i : Nat) : Stmt := PySem.Challenge.pw_handwalk_k09_walks_turned.main.body.getD i (.Pass ⟨0, 0, 0, 0⟩)
def inCls (s : Stmt) (j : Nat) : Stmt := match s with
  | .ClassDef _ _ _ body _ _ _ _ _ _ _ => body.getD j (.Pass ⟨0, 0, 0, 0⟩)
  | _ => .Pass ⟨0, 0, 0, 0⟩
def fnames : List Str := [("is_integer" : Str), ("is_below" : Str), ("is_passage" : Str), ("reached_places" : Str), ("problem_of" : Str), ("_law_mixed" : Str), ("_law_folded" : Str), ("_law_draw" : Str), ("_law_begun" : Str), ("_law_mixed_up" : Str), ("_law_tie" : Str), ("_law_tree" : Str), ("_law_ring" : Str), ("_law_core" : Str), ("_law_shifted" : Str), ("_law_top" : Str), ("_law_renamed" : Str), ("_law_ties" : Str), ("_law_doors" : Str), ("is_permutation" : Str), ("check_state" : Str), ("is_step" : Str), ("stepped" : Str), ("after" : Str), ("back" : Str), ("reduced" : Str), ("law" : Str), ("Network.__init__" : Str), ("_law_moved" : Str), ("_law_after" : Str), ("_law_road" : Str), ("_law_passed" : Str), ("_law_backed" : Str), ("_law_cut" : Str), ("_law_bare" : Str), ("_law_row" : Str), ("_law_right" : Str), ("_law_walk_right" : Str), ("Network.__len__" : Str), ("Network.far_end" : Str), ("Network.places" : Str), ("Network.passages" : Str)]
def ct : CT := ⟨["weak", "pieces", "many", "joints"], [(0, "places", 40), (0, "passages", 41)], [(0, "Network", 27)], [(0, "Network", "MAX_PLACES", 12), (0, "Network", "MAX_PASSAGES", 16)], [27, 38, 39, 40, 41], [(0, "far_end", 39)], [(0, 38)], [(42, "trace")]⟩
abbrev s_is_integer : Stmt := top 9
def n_is_integer : List Str := ["value"]
def f_is_integer : Fn := ⟨1, 1, false, (.cons (.ret (.and (.blt .isi (.cons (.var 0) (.cons (.con (.ty "int")) .nil))) (.not (.blt .isi (.cons (.var 0) (.cons (.con (.ty "bool")) .nil)))))) .nil), none⟩
abbrev s_is_below : Stmt := top 10
def n_is_below : List Str := ["value", "limit"]
def f_is_below : Fn := ⟨2, 2, false, (.cons (.ret (.and (.cal 0 "is_integer" (.cons (.var 0) .nil)) (.chn .LtE .Lt (.con (.int 0)) (.var 0) (.var 1)))) .nil), none⟩
abbrev s_is_passage : Stmt := top 21
def n_is_passage : List Str := ["value", "places", "end"]
def f_is_passage : Fn := ⟨2, 3, false, (.cons (.iff (.or (.not (.blt .isi (.cons (.var 0) (.cons (.con (.ty "tuple")) .nil)))) (.cmp .NotEq (.blt .len (.cons (.var 0) .nil)) (.con (.int 2)))) (.cons (.ret (.con (.bl false))) .nil) .nil) (.cons (.ret (.and (.blt .all (.cons (.lcp (.cal 1 "is_below" (.cons (.var 2) (.cons (.var 1) .nil))) (.nam 2) (.val (.var 0)) .nil [2]) .nil)) (.cmp .LtE (.idx (.var 0) (.con (.int 0))) (.idx (.var 0) (.con (.int 1)))))) .nil)), none⟩
abbrev s_reached_places : Stmt := top 22
def n_reached_places : List Str := ["passages", "place", "without", "found", "size", "index", "one", "other"]
def f_reached_places : Fn := ⟨3, 8, false, (.cons (.par [(3, true), (4, false)] (.cons (.lst (.cons (.var 1) .nil)) (.cons (.con (.int 0)) .nil))) (.cons (.whl (.cmp .Lt (.var 4) (.blt .len (.cons (.var 3) .nil))) (.cons (.set 4 (.blt .len (.cons (.var 3) .nil))) (.cons (.frr (.tup (.cons (.nam 5) (.cons (.tup (.cons (.nam 6) (.cons (.nam 7) .nil))) .nil))) (.enm (.var 0)) (.cons (.iff (.and (.cmp .NotIn (.var 5) (.var 2)) (.cmp .NotEq (.cmp .In (.var 6) (.var 3)) (.cmp .In (.var 7) (.var 3)))) (.cons (.app 3 (.ite (.cmp .In (.var 6) (.var 3)) (.var 7) (.var 6))) .nil) .nil) .nil) []) .nil)) []) (.cons (.ret (.blt .tuple (.cons (.blt .sorted (.cons (.var 3) .nil)) .nil))) .nil))), none⟩
abbrev s_problem_of : Stmt := top 23
def n_problem_of : List Str := ["places", "passages", "most_places", "most_passages", "index", "passage"]
def f_problem_of : Fn := ⟨4, 6, false, (.cons (.iff (.or (.not (.cal 0 "is_integer" (.cons (.var 0) .nil))) (.not (.chn .LtE .LtE (.con (.int 1)) (.var 0) (.var 2)))) (.cons (.ret (.tup (.cons (.con (.str "places")) (.cons (.con .non) .nil)))) .nil) .nil) (.cons (.iff (.or (.not (.blt .isi (.cons (.var 1) (.cons (.con (.ty "tuple")) .nil)))) (.cmp .Gt (.blt .len (.cons (.var 1) .nil)) (.var 3))) (.cons (.ret (.tup (.cons (.con (.str "passages")) (.cons (.con .non) .nil)))) .nil) .nil) (.cons (.frr (.tup (.cons (.nam 4) (.cons (.nam 5) .nil))) (.enm (.var 1)) (.cons (.iff (.not (.cal 2 "is_passage" (.cons (.var 5) (.cons (.var 0) .nil)))) (.cons (.ret (.tup (.cons (.con (.str "passages")) (.cons (.var 4) .nil)))) .nil) .nil) .nil) []) (.cons (.ret (.ite (.cmp .Eq (.blt .len (.cons (.cal 3 "reached_places" (.cons (.var 1) (.cons (.con (.int 0)) (.cons (.lst .nil) .nil)))) .nil)) (.var 0)) (.con .non) (.tup (.cons (.con (.str "connection")) (.cons (.con .non) .nil))))) .nil)))), none⟩
abbrev s__law_mixed : Stmt := top 26
def n__law_mixed : List Str := ["_law_cell", "_law_n", "_law_turned"]
def f__law_mixed : Fn := ⟨2, 3, false, (.cons (.set 2 (.bin .Add (.bin .Add (.bin .Mod (.bin .Mult (.bin .Mult (.var 0) (.bin .Add (.con (.int 1)) (.bin .Mult (.con (.int 2)) (.var 1)))) (.con (.int 48271))) (.con (.int 2147483647))) (.bin .Mult (.bin .Mult (.con (.int 7919)) (.var 1)) (.var 1))) (.bin .Mult (.con (.int 104729)) (.var 1)))) (.cons (.ret (.bin .FloorDiv (.bin .Mod (.bin .Mult (.var 2) (.con (.int 69621))) (.con (.int 2147483629))) (.con (.int 7)))) .nil)), none⟩
abbrev s__law_folded : Stmt := top 27
def n__law_folded : List Str := ["_law_script", "_law_found", "_law_n", "_law_cell"]
def f__law_folded : Fn := ⟨1, 4, false, (.cons (.seto 1 (.lcp (.bin .Add (.con (.int 17)) (.var 2)) (.nam 2) (.rng (.cons (.con (.int 64)) .nil)) .nil [2])) (.cons (.frr (.tup (.cons (.nam 2) (.cons (.nam 3) .nil))) (.enm (.var 0)) (.cons (.sti 1 (.bin .Mod (.var 2) (.con (.int 64))) (.bin .Mod (.bin .Add (.bin .Mult (.idx (.var 1) (.bin .Mod (.var 2) (.con (.int 64)))) (.con (.int 48271))) (.var 3)) (.con (.int 2147483647)))) .nil) []) (.cons (.frr (.nam 2) (.rng (.cons (.con (.int 1)) (.cons (.con (.int 64)) .nil))) (.cons (.sti 1 (.var 2) (.bin .Mod (.bin .Add (.idx (.var 1) (.var 2)) (.bin .Mult (.idx (.var 1) (.bin .Sub (.var 2) (.con (.int 1)))) (.con (.int 16807)))) (.con (.int 2147483647)))) .nil) []) (.cons (.frz 1) (.cons (.ret (.var 1)) .nil))))), none⟩
abbrev s__law_draw : Stmt := top 28
def n__law_draw : List Str := ["_law_m", "_law_top_here", "_law_n", "_law_at", "_law_cell"]
def f__law_draw : Fn := ⟨2, 5, false, (.cons (.set 2 (.idx (.var 0) (.con (.str "spot")))) (.cons (.sto (.var 0) (.con (.str "spot")) (.bin .Add (.var 2) (.con (.int 1)))) (.cons (.iff (.cmp .NotEq (.idx (.var 0) (.con (.str "great"))) (.lst .nil)) (.cons (.set 3 (.bin .Mod (.var 2) (.blt .len (.cons (.idx (.var 0) (.con (.str "great"))) .nil)))) (.cons (.set 4 (.idx (.idx (.var 0) (.con (.str "great"))) (.var 3))) (.cons (.iff (.cmp .Gt (.var 4) (.con (.int 0))) (.cons (.sto (.idx (.var 0) (.con (.str "great"))) (.var 3) (.bin .FloorDiv (.var 4) (.var 1))) (.cons (.ret (.bin .Mod (.var 4) (.var 1))) .nil)) .nil) .nil))) .nil) (.cons (.ret (.bin .Mod (.cal 5 "_law_mixed" (.cons (.cal 5 "_law_mixed" (.cons (.bin .Add (.idx (.idx (.var 0) (.con (.str "cells"))) (.bin .Mod (.var 2) (.con (.int 64)))) (.bin .Mult (.con (.int 31)) (.bin .FloorDiv (.var 2) (.con (.int 64))))) (.cons (.var 2) .nil))) (.cons (.bin .Add (.var 2) (.con (.int 7))) .nil))) (.var 1))) .nil)))), none⟩
abbrev s__law_begun : Stmt := top 29
def n__law_begun : List Str := ["_law_script", "_law_m", "_law_cell"]
def f__law_begun : Fn := ⟨1, 3, false, (.cons (.setr 1 (.dsp ["cells", "great", "spot"] (.cons (.cal 6 "_law_folded" (.cons (.var 0) .nil)) (.cons (.lst .nil) (.cons (.con (.int 0)) .nil))))) (.cons (.stor (.var 1) (.con (.str "great")) (.lcp (.ite (.cmp .GtE (.var 2) (.bin .Pow (.con (.int 10)) (.con (.int 18)))) (.var 2) (.con (.int 0))) (.nam 2) (.val (.var 0)) .nil [2])) (.cons (.ret (.var 1)) .nil))), none⟩
abbrev s__law_mixed_up : Stmt := top 30
def n__law_mixed_up : List Str := ["_law_m", "_law_things", "_law_n", "_law_stock", "_law_found"]
def f__law_mixed_up : Fn := ⟨2, 5, false, (.cons (.par [(3, true), (4, true)] (.cons (.blt .list (.cons (.var 1) .nil)) (.cons (.lst .nil) .nil))) (.cons (.frr (.nam 2) (.rng (.cons (.blt .len (.cons (.var 3) .nil)) .nil)) (.cons (.apo 4 3 (.cal 7 "_law_draw" (.cons (.var 0) (.cons (.blt .len (.cons (.var 3) .nil)) .nil)))) .nil) []) (.cons (.frz 4) (.cons (.ret (.var 4)) .nil)))), none⟩
abbrev s__law_tie : Stmt := top 31
def n__law_tie : List Str := ["_law_one", "_law_far"]
def f__law_tie : Fn := ⟨2, 2, false, (.cons (.ret (.tup (.cons (.blt .min (.cons (.var 0) (.cons (.var 1) .nil))) (.cons (.blt .max (.cons (.var 0) (.cons (.var 1) .nil))) .nil)))) .nil), none⟩
abbrev s__law_tree : Stmt := top 32
def n__law_tree : List Str := ["_law_m", "_law_many", "_law_low", "_law_spot"]
def f__law_tree : Fn := ⟨3, 4, false, (.cons (.ret (.lcp (.cal 10 "_law_tie" (.cons (.ite (.cmp .Gt (.var 3) (.con (.int 0))) (.cal 7 "_law_draw" (.cons (.var 0) (.cons (.var 3) .nil))) (.con (.int 0))) (.cons (.var 3) .nil))) (.nam 3) (.rng (.cons (.blt .max (.cons (.con (.int 1)) (.cons (.var 2) .nil))) (.cons (.var 1) .nil))) .nil [3])) .nil), none⟩
abbrev s__law_ring : Stmt := top 33
def n__law_ring : List Str := ["_law_spots", "_law_n"]
def f__law_ring : Fn := ⟨1, 2, false, (.cons (.ret (.lcp (.cal 10 "_law_tie" (.cons (.idx (.var 0) (.bin .Sub (.var 1) (.con (.int 1)))) (.cons (.idx (.var 0) (.var 1)) .nil))) (.nam 1) (.rng (.cons (.blt .len (.cons (.var 0) .nil)) .nil)) .nil [1])) .nil), none⟩
abbrev s__law_core : Stmt := top 34
def n__law_core : List Str := ["_law_m", "_law_way", "_law_many"]
def f__law_core : Fn := ⟨1, 3, false, (.cons (.set 1 (.cal 7 "_law_draw" (.cons (.var 0) (.cons (.con (.int 6)) .nil)))) (.cons (.iff (.cmp .Eq (.var 1) (.con (.int 0))) (.cons (.ret (.cal 12 "_law_ring" (.cons (.blt .listRg (.cons (.bin .Add (.con (.int 1)) (.cal 7 "_law_draw" (.cons (.var 0) (.cons (.con (.int 5)) .nil)))) .nil)) .nil))) .nil) .nil) (.cons (.iff (.cmp .Eq (.var 1) (.con (.int 1))) (.cons (.set 2 (.bin .Add (.con (.int 1)) (.cal 7 "_law_draw" (.cons (.var 0) (.cons (.con (.int 3)) .nil))))) (.cons (.ret (.bin .Add (.cal 12 "_law_ring" (.cons (.blt .listRg (.cons (.var 2) .nil)) .nil)) (.cal 12 "_law_ring" (.cons (.bin .Add (.lst (.cons (.con (.int 0)) .nil)) (.blt .listRg (.cons (.var 2) (.cons (.bin .Add (.var 2) (.cal 7 "_law_draw" (.cons (.var 0) (.cons (.con (.int 3)) .nil)))) .nil)))) .nil)))) .nil)) .nil) (.cons (.iff (.cmp .Eq (.var 1) (.con (.int 2))) (.cons (.ret (.lst (.cons (.tup (.cons (.con (.int 0)) (.cons (.con (.int 1)) .nil))) (.cons (.tup (.cons (.con (.int 0)) (.cons (.con (.int 2)) .nil))) (.cons (.tup (.cons (.con (.int 0)) (.cons (.con (.int 3)) .nil))) (.cons (.tup (.cons (.con (.int 1)) (.cons (.con (.int 2)) .nil))) (.cons (.tup (.cons (.con (.int 1)) (.cons (.con (.int 3)) .nil))) .nil))))))) .nil) .nil) (.cons (.iff (.cmp .Eq (.var 1) (.con (.int 3))) (.cons (.ret (.lst (.cons (.tup (.cons (.con (.int 0)) (.cons (.con (.int 2)) .nil))) (.cons (.tup (.cons (.con (.int 1)) (.cons (.con (.int 2)) .nil))) (.cons (.tup (.cons (.con (.int 0)) (.cons (.con (.int 3)) .nil))) (.cons (.tup (.cons (.con (.int 1)) (.cons (.con (.int 3)) .nil))) (.cons (.tup (.cons (.con (.int 0)) (.cons (.con (.int 4)) .nil))) (.cons (.tup (.cons (.con (.int 1)) (.cons (.con (.int 4)) .nil))) .nil)))))))) .nil) .nil) (.cons (.iff (.cmp .Eq (.var 1) (.con (.int 4))) (.cons (.ret (.bin .Mult (.lst (.cons (.tup (.cons (.con (.int 0)) (.cons (.con (.int 1)) .nil))) .nil)) (.bin .Add (.con (.int 2)) (.cal 7 "_law_draw" (.cons (.var 0) (.cons (.con (.int 3)) .nil)))))) .nil) .nil) (.cons (.ret (.bin .Add (.cal 12 "_law_ring" (.cons (.blt .listRg (.cons (.bin .Add (.con (.int 3)) (.cal 7 "_law_draw" (.cons (.var 0) (.cons (.con (.int 2)) .nil)))) .nil)) .nil)) (.lst (.cons (.tup (.cons (.con (.int 0)) (.cons (.con (.int 2)) .nil))) .nil)))) .nil))))))), none⟩
abbrev s__law_shifted : Stmt := top 35
def n__law_shifted : List Str := ["_law_ties_here", "_law_low", "_law_hinge", "_law_names", "_law_one", "_law_far"]
def f__law_shifted : Fn := ⟨3, 6, false, (.cons (.set 3 (.bin .Add (.lst (.cons (.var 2) .nil)) (.blt .listRg (.cons (.var 1) (.cons (.bin .Add (.var 1) (.con (.int 20))) .nil))))) (.cons (.ret (.lcp (.cal 10 "_law_tie" (.cons (.idx (.var 3) (.var 4)) (.cons (.idx (.var 3) (.var 5)) .nil))) (.tup (.cons (.nam 4) (.cons (.nam 5) .nil))) (.val (.var 0)) .nil [4, 5])) .nil)), none⟩
abbrev s__law_top : Stmt := top 36
def n__law_top : List Str := ["_law_ties_here", "_law_one", "_law_far"]
def f__law_top : Fn := ⟨1, 3, false, (.cons (.ret (.bin .Add (.blt .max (.cons (.bin .Add (.lst (.cons (.con (.int 0)) .nil)) (.lcp (.var 2) (.tup (.cons (.nam 1) (.cons (.nam 2) .nil))) (.val (.var 0)) .nil [1, 2])) .nil)) (.con (.int 1)))) .nil), none⟩
abbrev s__law_renamed : Stmt := top 37
def n__law_renamed : List Str := ["_law_m", "_law_many", "_law_ties_here", "_law_names", "_law_one", "_law_far"]
def f__law_renamed : Fn := ⟨3, 6, false, (.cons (.set 3 (.cal 9 "_law_mixed_up" (.cons (.var 0) (.cons (.blt .listRg (.cons (.var 1) .nil)) .nil)))) (.cons (.ret (.blt .tuple (.cons (.cal 9 "_law_mixed_up" (.cons (.var 0) (.cons (.lcp (.cal 10 "_law_tie" (.cons (.idx (.var 3) (.var 4)) (.cons (.idx (.var 3) (.var 5)) .nil))) (.tup (.cons (.nam 4) (.cons (.nam 5) .nil))) (.val (.var 2)) .nil [4, 5]) .nil))) .nil))) .nil)), none⟩
abbrev s__law_ties : Stmt := top 38
def n__law_ties : List Str := ["_law_m", "_law_cores", "_law_tails", "_law_more", "_law_ties_here", "_law_n", "_law_top_here", "_law_spot", "_law_low", "_law_hinge"]
def f__law_ties : Fn := ⟨4, 10, false, (.cons (.set 4 (.cal 13 "_law_core" (.cons (.var 0) .nil))) (.cons (.frr (.nam 5) (.rng (.cons (.bin .Sub (.var 1) (.con (.int 1))) .nil)) (.cons (.par [(8, false), (9, false)] (.cons (.cal 15 "_law_top" (.cons (.var 4) .nil)) (.cons (.cal 7 "_law_draw" (.cons (.var 0) (.cons (.cal 15 "_law_top" (.cons (.var 4) .nil)) .nil))) .nil))) (.cons (.iff (.cmp .Gt (.cal 7 "_law_draw" (.cons (.var 0) (.cons (.con (.int 3)) .nil))) (.con (.int 0))) (.cons (.par [(4, false), (9, false), (8, false)] (.cons (.bin .Add (.var 4) (.lst (.cons (.cal 10 "_law_tie" (.cons (.var 9) (.cons (.var 8) .nil))) .nil))) (.cons (.var 8) (.cons (.bin .Add (.var 8) (.con (.int 1))) .nil)))) .nil) .nil) (.cons (.set 4 (.bin .Add (.var 4) (.cal 14 "_law_shifted" (.cons (.cal 13 "_law_core" (.cons (.var 0) .nil)) (.cons (.var 8) (.cons (.var 9) .nil)))))) .nil))) []) (.cons (.set 6 (.cal 15 "_law_top" (.cons (.var 4) .nil))) (.cons (.set 4 (.bin .Add (.var 4) (.cal 11 "_law_tree" (.cons (.var 0) (.cons (.bin .Add (.var 6) (.var 2)) (.cons (.var 6) .nil)))))) (.cons (.frr (.nam 5) (.rng (.cons (.var 3) .nil)) (.cons (.set 7 (.cal 7 "_law_draw" (.cons (.var 0) (.cons (.cal 15 "_law_top" (.cons (.var 4) .nil)) .nil)))) (.cons (.set 4 (.bin .Add (.var 4) (.lst (.cons (.cal 10 "_law_tie" (.cons (.var 7) (.cons (.cal 7 "_law_draw" (.cons (.var 0) (.cons (.cal 15 "_law_top" (.cons (.var 4) .nil)) .nil))) .nil))) .nil)))) .nil)) []) (.cons (.iff (.or (.cmp .Gt (.cal 15 "_law_top" (.cons (.var 4) .nil)) (.con (.int 12))) (.cmp .Gt (.blt .len (.cons (.var 4) .nil)) (.con (.int 16)))) (.cons (.set 4 (.cal 13 "_law_core" (.cons (.var 0) .nil))) .nil) .nil) (.cons (.ret (.tup (.cons (.cal 15 "_law_top" (.cons (.var 4) .nil)) (.cons (.cal 16 "_law_renamed" (.cons (.var 0) (.cons (.cal 15 "_law_top" (.cons (.var 4) .nil)) (.cons (.var 4) .nil)))) .nil)))) .nil))))))), none⟩
abbrev s__law_doors : Stmt := top 39
def n__law_doors : List Str := ["_law_ties_here", "_law_here", "_law_at", "_law_pair"]
def f__law_doors : Fn := ⟨2, 4, false, (.cons (.ret (.lcp (.var 2) (.tup (.cons (.nam 2) (.cons (.nam 3) .nil))) (.enm (.var 0)) (.cons (.cmp .In (.var 1) (.var 3)) .nil) [2, 3])) .nil), none⟩
abbrev s_is_permutation : Stmt := top 11
def n_is_permutation : List Str := ["value", "item"]
def f_is_permutation : Fn := ⟨1, 2, false, (.cons (.iff (.or (.not (.blt .isi (.cons (.var 0) (.cons (.con (.ty "tuple")) .nil)))) (.not (.blt .all (.cons (.lcp (.cal 1 "is_below" (.cons (.var 1) (.cons (.blt .len (.cons (.var 0) .nil)) .nil))) (.nam 1) (.val (.var 0)) .nil [1]) .nil)))) (.cons (.ret (.con (.bl false))) .nil) .nil) (.cons (.ret (.cmp .Eq (.blt .sorted (.cons (.var 0) .nil)) (.blt .listRg (.cons (.blt .len (.cons (.var 0) .nil)) .nil)))) .nil)), none⟩
abbrev s_check_state : Stmt := top 13
def n_check_state : List Str := ["network", "state"]
def f_check_state : Fn := ⟨2, 2, false, (.cons (.iff (.or (.not (.blt .isi (.cons (.var 1) (.cons (.con (.ty "tuple")) .nil)))) (.cmp .NotEq (.blt .len (.cons (.var 1) .nil)) (.con (.int 2)))) (.cons .nvr .nil) .nil) (.cons (.iff (.not (.cal 1 "is_below" (.cons (.idx (.var 1) (.con (.int 0))) (.cons (.prp 0 40 (.var 0) "places") .nil)))) (.cons .nvr .nil) .nil) (.cons (.iff (.or (.not (.cal 19 "is_permutation" (.cons (.idx (.var 1) (.con (.int 1))) .nil))) (.cmp .NotEq (.blt .len (.cons (.idx (.var 1) (.con (.int 1))) .nil)) (.bin .Add (.lnO 0 38 (.var 0)) (.con (.int 1))))) (.cons .nvr .nil) .nil) .nil))), none⟩
abbrev s_is_step : Stmt := top 14
def n_is_step : List Str := ["network", "place", "passage"]
def f_is_step : Fn := ⟨3, 3, false, (.cons (.ret (.and (.cal 1 "is_below" (.cons (.var 2) (.cons (.lnO 0 38 (.var 0)) .nil))) (.cmp .In (.var 1) (.idx (.prp 0 41 (.var 0) "passages") (.var 2))))) .nil), none⟩
abbrev s_stepped : Stmt := top 15
def n_stepped : List Str := ["network", "state", "passage", "held", "place", "things"]
def f_stepped : Fn := ⟨3, 6, false, (.cons (.unp (.tup (.cons (.nam 4) (.cons (.nam 5) .nil))) (.var 1)) (.cons (.seto 3 (.blt .list (.cons (.var 5) .nil))) (.cons (.unt (.cons (.sub 3 (.var 2)) (.cons (.sub 3 (.neg (.con (.int 1)))) .nil)) (.cons (.idx (.var 3) (.neg (.con (.int 1)))) (.cons (.idx (.var 3) (.var 2)) .nil))) (.cons (.ret (.tup (.cons (.mtd 0 39 "far_end" (.var 0) (.cons (.var 2) (.cons (.var 4) .nil))) (.cons (.blt .tuple (.cons (.var 3) .nil)) .nil)))) .nil)))), none⟩
abbrev s_after : Stmt := top 17
def n_after : List Str := ["network", "state", "steps"]
def f_after : Fn := ⟨2, 3, true, (.cons (.ret (.idx (.gls 42 "trace" (.cons (.var 0) (.cons (.var 1) .nil)) (.var 2)) (.neg (.con (.int 1))))) .nil), none⟩
abbrev s_back : Stmt := top 18
def n_back : List Str := ["steps"]
def f_back : Fn := ⟨0, 1, true, (.cons (.ret (.rev (.var 0))) .nil), none⟩
abbrev s_reduced : Stmt := top 19
def n_reduced : List Str := ["steps", "found", "passage"]
def f_reduced : Fn := ⟨0, 3, true, (.cons (.seto 1 (.lst .nil)) (.cons (.frr (.nam 2) (.val (.var 0)) (.cons (.iff (.and (.cmp .NotEq (.var 1) (.lst .nil)) (.cmp .Eq (.idx (.var 1) (.neg (.con (.int 1)))) (.var 2))) (.cons (.pop 1) .nil) (.cons (.app 1 (.var 2)) .nil)) .nil) []) (.cons (.ret (.blt .tuple (.cons (.var 1) .nil))) .nil))), none⟩
abbrev s_law : Stmt := top 50
def n_law : List Str := ["_law_script", "_law_m", "_law_again", "_law_road_here", "_law_a", "_law_b", "_law_c", "_law_d", "_law_many", "_law_ties_here", "_law_n"]
def f_law : Fn := ⟨1, 11, false, (.cons (.set 1 (.cal 8 "_law_begun" (.cons (.var 0) .nil))) (.cons (.frr (.nam 2) (.rng (.cons (.con (.int 10)) .nil)) (.cons (.iff (.not (.cal 36 "_law_right" (.cons (.cal 35 "_law_row" (.cons (.var 1) .nil)) .nil))) (.cons (.ret (.con (.bl false))) .nil) .nil) .nil) []) (.cons (.frr (.nam 2) (.rng (.cons (.con (.int 6)) .nil)) (.cons (.unp (.tup (.cons (.nam 8) (.cons (.nam 9) .nil))) (.cal 17 "_law_ties" (.cons (.var 1) (.cons (.bin .Add (.con (.int 1)) (.cal 7 "_law_draw" (.cons (.var 1) (.cons (.con (.int 3)) .nil)))) (.cons (.cal 7 "_law_draw" (.cons (.var 1) (.cons (.con (.int 3)) .nil))) (.cons (.cal 7 "_law_draw" (.cons (.var 1) (.cons (.con (.int 3)) .nil))) .nil)))))) (.cons (.iff (.not (.cal 37 "_law_walk_right" (.cons (.var 1) (.cons (.new 0 27 "Network" (.cons (.var 8) (.cons (.var 9) .nil))) (.cons (.var 9) .nil))))) (.cons (.ret (.con (.bl false))) .nil) .nil) .nil)) []) (.cons (.unp (.tup (.cons (.nam 4) (.cons (.nam 5) (.cons (.nam 6) (.cons (.nam 7) .nil))))) (.lcp (.cal 7 "_law_draw" (.cons (.var 1) (.cons (.con (.int 3)) .nil))) (.nam 10) (.rng (.cons (.con (.int 4)) .nil)) .nil [10])) (.cons (.set 3 (.lst (.cons (.var 4) (.cons (.var 5) (.cons (.var 6) (.cons (.var 7) (.cons (.var 4) (.cons (.var 4) (.cons (.var 5) (.cons (.var 7) (.cons (.var 6) (.cons (.var 6) (.cons (.var 7) (.cons (.var 5) .nil)))))))))))))) (.cons (.iff (.cmp .NotEq (.blt .repr (.cons (.cal 24 "back" (.cons (.var 4) (.cons (.var 5) (.cons (.var 6) (.cons (.var 7) (.cons (.var 4) (.cons (.var 4) (.cons (.var 5) (.cons (.var 7) (.cons (.var 6) (.cons (.var 6) (.cons (.var 7) (.cons (.var 5) .nil))))))))))))) .nil)) (.blt .repr (.cons (.blt .tuple (.cons (.rev (.var 3)) .nil)) .nil))) (.cons (.ret (.con (.bl false))) .nil) .nil) (.cons (.iff (.cmp .NotEq (.blt .repr (.cons (.cal 25 "reduced" (.cons (.var 4) (.cons (.var 5) (.cons (.var 6) (.cons (.var 7) (.cons (.var 4) (.cons (.var 4) (.cons (.var 5) (.cons (.var 7) (.cons (.var 6) (.cons (.var 6) (.cons (.var 7) (.cons (.var 5) .nil))))))))))))) .nil)) (.blt .repr (.cons (.cal 34 "_law_bare" (.cons (.var 3) .nil)) .nil))) (.cons (.ret (.con (.bl false))) .nil) .nil) (.cons (.iff (.or (.cmp .NotEq (.cal 25 "reduced" (.cons (.con (.int 1)) (.cons (.con (.int 2)) (.cons (.con (.int 3)) (.cons (.con (.int 4)) (.cons (.con (.int 5)) (.cons (.con (.int 6)) (.cons (.con (.int 6)) (.cons (.con (.int 5)) (.cons (.con (.int 4)) (.cons (.con (.int 3)) (.cons (.con (.int 2)) (.cons (.con (.int 1)) .nil))))))))))))) (.tup .nil)) (.cmp .NotEq (.cal 25 "reduced" (.cons (.con (.int 7)) (.cons (.con (.int 1)) (.cons (.con (.int 2)) (.cons (.con (.int 3)) (.cons (.con (.int 4)) (.cons (.con (.int 4)) (.cons (.con (.int 3)) (.cons (.con (.int 2)) (.cons (.con (.int 1)) (.cons (.con (.int 8)) .nil))))))))))) (.tup (.cons (.con (.int 7)) (.cons (.con (.int 8)) .nil))))) (.cons (.ret (.con (.bl false))) .nil) .nil) (.cons (.ret (.cmp .Eq (.blt .repr (.cons (.lst (.cons (.cal 24 "back" .nil) (.cons (.cal 25 "reduced" .nil) (.cons (.cal 25 "reduced" (.cons (.con (.int 3)) (.cons (.con (.int 3)) .nil))) (.cons (.cal 25 "reduced" (.cons (.con (.int 0)) (.cons (.con (.int 1)) (.cons (.con (.int 1)) (.cons (.con (.int 0)) (.cons (.con (.int 1)) .nil)))))) .nil))))) .nil)) (.blt .repr (.cons (.lst (.cons (.tup .nil) (.cons (.tup .nil) (.cons (.tup .nil) (.cons (.tup (.cons (.con (.int 1)) .nil)) .nil))))) .nil)))) .nil))))))))), none⟩
abbrev s_Network___init__ : Stmt := inCls (top 24) 2
def n_Network___init__ : List Str := ["self", "places", "passages", "problem", "index", "place", "weak", "cells", "cell"]
def f_Network___init__ : Fn := ⟨3, 9, false, (.cons (.set 3 (.cal 4 "problem_of" (.cons (.var 1) (.cons (.var 2) (.cons (.cst 0 "Network" "MAX_PLACES" (.int 12)) (.cons (.cst 0 "Network" "MAX_PASSAGES" (.int 16)) .nil)))))) (.cons (.iff (.cmp .IsNot (.var 3) (.con .non)) (.cons .nvr .nil) .nil) (.cons (.unt (.cons (.att (.var 0) "many") (.cons (.att (.var 0) "joints") .nil)) (.cons (.var 1) (.cons (.var 2) .nil))) (.cons (.par [(6, true), (7, true)] (.cons (.lst .nil) (.cons (.lst .nil) .nil))) (.cons (.frr (.nam 4) (.rng (.cons (.blt .len (.cons (.var 2) .nil)) .nil)) (.cons (.iff (.cmp .Lt (.blt .len (.cons (.cal 3 "reached_places" (.cons (.var 2) (.cons (.con (.int 0)) (.cons (.lst (.cons (.var 4) .nil)) .nil)))) .nil)) (.var 1)) (.cons (.app 6 (.var 4)) .nil) .nil) .nil) []) (.cons (.sat (.var 0) "weak" (.blt .tuple (.cons (.var 6) .nil))) (.cons (.frr (.nam 5) (.rng (.cons (.var 1) .nil)) (.cons (.set 8 (.cal 3 "reached_places" (.cons (.var 2) (.cons (.var 5) (.cons (.att (.var 0) "weak") .nil))))) (.cons (.iff (.cmp .Eq (.idx (.var 8) (.con (.int 0))) (.var 5)) (.cons (.app 7 (.var 8)) .nil) .nil) .nil)) []) (.cons (.sat (.var 0) "pieces" (.blt .tuple (.cons (.var 7) .nil))) .nil)))))))), none⟩
abbrev s__law_moved : Stmt := top 40
def n__law_moved : List Str := ["_law_ties_here", "_law_here", "_law_things", "_law_at", "_law_row_here"]
def f__law_moved : Fn := ⟨4, 5, false, (.cons (.seto 4 (.blt .list (.cons (.var 2) .nil))) (.cons (.unt (.cons (.sub 4 (.var 3)) (.cons (.sub 4 (.neg (.con (.int 1)))) .nil)) (.cons (.idx (.var 4) (.neg (.con (.int 1)))) (.cons (.idx (.var 4) (.var 3)) .nil))) (.cons (.ret (.tup (.cons (.bin .Sub (.bin .Add (.idx (.idx (.var 0) (.var 3)) (.con (.int 0))) (.idx (.idx (.var 0) (.var 3)) (.con (.int 1)))) (.var 1)) (.cons (.blt .tuple (.cons (.var 4) .nil)) .nil)))) .nil))), none⟩
abbrev s__law_after : Stmt := top 41
def n__law_after : List Str := ["_law_ties_here", "_law_base", "_law_road_here", "_law_at", "_law_here", "_law_things"]
def f__law_after : Fn := ⟨3, 6, false, (.cons (.unp (.tup (.cons (.nam 4) (.cons (.nam 5) .nil))) (.var 1)) (.cons (.frr (.nam 3) (.val (.var 2)) (.cons (.unp (.tup (.cons (.nam 4) (.cons (.nam 5) .nil))) (.cal 28 "_law_moved" (.cons (.var 0) (.cons (.var 4) (.cons (.var 5) (.cons (.var 3) .nil)))))) .nil) []) (.cons (.ret (.tup (.cons (.var 4) (.cons (.var 5) .nil)))) .nil))), none⟩
abbrev s__law_road : Stmt := top 42
def n__law_road : List Str := ["_law_m", "_law_ties_here", "_law_here", "_law_many", "_law_found", "_law_n", "_law_some", "_law_at"]
def f__law_road : Fn := ⟨4, 8, false, (.cons (.seto 4 (.lst .nil)) (.cons (.frr (.nam 5) (.rng (.cons (.ite (.cmp .NotEq (.var 1) (.tup .nil)) (.var 3) (.con (.int 0))) .nil)) (.cons (.set 6 (.cal 18 "_law_doors" (.cons (.var 1) (.cons (.var 2) .nil)))) (.cons (.set 7 (.idx (.var 6) (.cal 7 "_law_draw" (.cons (.var 0) (.cons (.blt .len (.cons (.var 6) .nil)) .nil))))) (.cons (.app 4 (.var 7)) (.cons (.set 2 (.bin .Sub (.bin .Add (.idx (.idx (.var 1) (.var 7)) (.con (.int 0))) (.idx (.idx (.var 1) (.var 7)) (.con (.int 1)))) (.var 2))) .nil)))) []) (.cons (.frz 4) (.cons (.ret (.var 4)) .nil)))), none⟩
abbrev s__law_passed : Stmt := top 43
def n__law_passed : List Str := ["_law_net", "_law_state_there", "_law_road_here"]
def f__law_passed : Fn := ⟨3, 3, false, (.cons (.iff (.cmp .Eq (.blt .len (.cons (.var 2) .nil)) (.con (.int 0))) (.cons (.ret (.cal 23 "after" (.cons (.var 0) (.cons (.var 1) .nil)))) .nil) .nil) (.cons (.iff (.cmp .Eq (.blt .len (.cons (.var 2) .nil)) (.con (.int 1))) (.cons (.ret (.cal 23 "after" (.cons (.var 0) (.cons (.var 1) (.cons (.idx (.var 2) (.con (.int 0))) .nil))))) .nil) .nil) (.cons (.iff (.cmp .Eq (.blt .len (.cons (.var 2) .nil)) (.con (.int 2))) (.cons (.ret (.cal 23 "after" (.cons (.var 0) (.cons (.var 1) (.cons (.idx (.var 2) (.con (.int 0))) (.cons (.idx (.var 2) (.con (.int 1))) .nil)))))) .nil) .nil) (.cons (.iff (.cmp .Eq (.blt .len (.cons (.var 2) .nil)) (.con (.int 3))) (.cons (.ret (.cal 23 "after" (.cons (.var 0) (.cons (.var 1) (.cons (.idx (.var 2) (.con (.int 0))) (.cons (.idx (.var 2) (.con (.int 1))) (.cons (.idx (.var 2) (.con (.int 2))) .nil))))))) .nil) .nil) (.cons (.iff (.cmp .Eq (.blt .len (.cons (.var 2) .nil)) (.con (.int 4))) (.cons (.ret (.cal 23 "after" (.cons (.var 0) (.cons (.var 1) (.cons (.idx (.var 2) (.con (.int 0))) (.cons (.idx (.var 2) (.con (.int 1))) (.cons (.idx (.var 2) (.con (.int 2))) (.cons (.idx (.var 2) (.con (.int 3))) .nil)))))))) .nil) .nil) (.cons (.iff (.cmp .Eq (.blt .len (.cons (.var 2) .nil)) (.con (.int 5))) (.cons (.ret (.cal 23 "after" (.cons (.var 0) (.cons (.var 1) (.cons (.idx (.var 2) (.con (.int 0))) (.cons (.idx (.var 2) (.con (.int 1))) (.cons (.idx (.var 2) (.con (.int 2))) (.cons (.idx (.var 2) (.con (.int 3))) (.cons (.idx (.var 2) (.con (.int 4))) .nil))))))))) .nil) .nil) (.cons (.ret (.cal 23 "after" (.cons (.var 0) (.cons (.var 1) (.cons (.idx (.var 2) (.con (.int 0))) (.cons (.idx (.var 2) (.con (.int 1))) (.cons (.idx (.var 2) (.con (.int 2))) (.cons (.idx (.var 2) (.con (.int 3))) (.cons (.idx (.var 2) (.con (.int 4))) (.cons (.idx (.var 2) (.con (.int 5))) .nil)))))))))) .nil))))))), none⟩
abbrev s__law_backed : Stmt := top 44
def n__law_backed : List Str := ["_law_road_here"]
def f__law_backed : Fn := ⟨1, 1, false, (.cons (.iff (.cmp .Lt (.blt .len (.cons (.var 0) .nil)) (.con (.int 2))) (.cons (.ret (.ite (.cmp .Eq (.blt .len (.cons (.var 0) .nil)) (.con (.int 0))) (.cal 24 "back" .nil) (.cal 24 "back" (.cons (.idx (.var 0) (.con (.int 0))) .nil)))) .nil) .nil) (.cons (.iff (.cmp .Lt (.blt .len (.cons (.var 0) .nil)) (.con (.int 4))) (.cons (.ret (.ite (.cmp .Eq (.blt .len (.cons (.var 0) .nil)) (.con (.int 2))) (.cal 24 "back" (.cons (.idx (.var 0) (.con (.int 0))) (.cons (.idx (.var 0) (.con (.int 1))) .nil))) (.cal 24 "back" (.cons (.idx (.var 0) (.con (.int 0))) (.cons (.idx (.var 0) (.con (.int 1))) (.cons (.idx (.var 0) (.con (.int 2))) .nil)))))) .nil) .nil) (.cons (.iff (.cmp .Eq (.blt .len (.cons (.var 0) .nil)) (.con (.int 4))) (.cons (.ret (.cal 24 "back" (.cons (.idx (.var 0) (.con (.int 0))) (.cons (.idx (.var 0) (.con (.int 1))) (.cons (.idx (.var 0) (.con (.int 2))) (.cons (.idx (.var 0) (.con (.int 3))) .nil)))))) .nil) .nil) (.cons (.iff (.cmp .Eq (.blt .len (.cons (.var 0) .nil)) (.con (.int 5))) (.cons (.ret (.cal 24 "back" (.cons (.idx (.var 0) (.con (.int 0))) (.cons (.idx (.var 0) (.con (.int 1))) (.cons (.idx (.var 0) (.con (.int 2))) (.cons (.idx (.var 0) (.con (.int 3))) (.cons (.idx (.var 0) (.con (.int 4))) .nil))))))) .nil) .nil) (.cons (.ret (.cal 24 "back" (.cons (.idx (.var 0) (.con (.int 0))) (.cons (.idx (.var 0) (.con (.int 1))) (.cons (.idx (.var 0) (.con (.int 2))) (.cons (.idx (.var 0) (.con (.int 3))) (.cons (.idx (.var 0) (.con (.int 4))) (.cons (.idx (.var 0) (.con (.int 5))) .nil)))))))) .nil))))), none⟩
abbrev s__law_cut : Stmt := top 45
def n__law_cut : List Str := ["_law_road_here"]
def f__law_cut : Fn := ⟨1, 1, false, (.cons (.iff (.cmp .Lt (.blt .len (.cons (.var 0) .nil)) (.con (.int 2))) (.cons (.ret (.ite (.cmp .Eq (.blt .len (.cons (.var 0) .nil)) (.con (.int 0))) (.cal 25 "reduced" .nil) (.cal 25 "reduced" (.cons (.idx (.var 0) (.con (.int 0))) .nil)))) .nil) .nil) (.cons (.iff (.cmp .Lt (.blt .len (.cons (.var 0) .nil)) (.con (.int 4))) (.cons (.ret (.ite (.cmp .Eq (.blt .len (.cons (.var 0) .nil)) (.con (.int 2))) (.cal 25 "reduced" (.cons (.idx (.var 0) (.con (.int 0))) (.cons (.idx (.var 0) (.con (.int 1))) .nil))) (.cal 25 "reduced" (.cons (.idx (.var 0) (.con (.int 0))) (.cons (.idx (.var 0) (.con (.int 1))) (.cons (.idx (.var 0) (.con (.int 2))) .nil)))))) .nil) .nil) (.cons (.iff (.cmp .Eq (.blt .len (.cons (.var 0) .nil)) (.con (.int 4))) (.cons (.ret (.cal 25 "reduced" (.cons (.idx (.var 0) (.con (.int 0))) (.cons (.idx (.var 0) (.con (.int 1))) (.cons (.idx (.var 0) (.con (.int 2))) (.cons (.idx (.var 0) (.con (.int 3))) .nil)))))) .nil) .nil) (.cons (.iff (.cmp .Eq (.blt .len (.cons (.var 0) .nil)) (.con (.int 5))) (.cons (.ret (.cal 25 "reduced" (.cons (.idx (.var 0) (.con (.int 0))) (.cons (.idx (.var 0) (.con (.int 1))) (.cons (.idx (.var 0) (.con (.int 2))) (.cons (.idx (.var 0) (.con (.int 3))) (.cons (.idx (.var 0) (.con (.int 4))) .nil))))))) .nil) .nil) (.cons (.ret (.cal 25 "reduced" (.cons (.idx (.var 0) (.con (.int 0))) (.cons (.idx (.var 0) (.con (.int 1))) (.cons (.idx (.var 0) (.con (.int 2))) (.cons (.idx (.var 0) (.con (.int 3))) (.cons (.idx (.var 0) (.con (.int 4))) (.cons (.idx (.var 0) (.con (.int 5))) .nil)))))))) .nil))))), none⟩
abbrev s__law_bare : Stmt := top 46
def n__law_bare : List Str := ["_law_road_here", "_law_row_here", "_law_n", "_law_some", "_law_at"]
def f__law_bare : Fn := ⟨1, 5, false, (.cons (.set 1 (.blt .list (.cons (.var 0) .nil))) (.cons (.frr (.nam 2) (.rng (.cons (.blt .len (.cons (.var 0) .nil)) .nil)) (.cons (.set 3 (.lcp (.var 4) (.nam 4) (.rng (.cons (.bin .Sub (.blt .len (.cons (.var 1) .nil)) (.con (.int 1))) .nil)) (.cons (.cmp .Eq (.idx (.var 1) (.var 4)) (.idx (.var 1) (.bin .Add (.var 4) (.con (.int 1))))) .nil) [4])) (.cons (.iff (.cmp .NotEq (.var 3) (.lst .nil)) (.cons (.set 1 (.bin .Add (.slc (.var 1) .gap (.idx (.var 3) (.neg (.con (.int 1))))) (.slc (.var 1) (.bin .Add (.idx (.var 3) (.neg (.con (.int 1)))) (.con (.int 2))) .gap))) .nil) .nil) .nil)) []) (.cons (.ret (.blt .tuple (.cons (.var 1) .nil))) .nil))), none⟩
abbrev s__law_row : Stmt := top 47
def n__law_row : List Str := ["_law_m", "_law_found", "_law_n", "_law_number"]
def f__law_row : Fn := ⟨1, 4, false, (.cons (.seto 1 (.lst .nil)) (.cons (.frr (.nam 2) (.rng (.cons (.cal 7 "_law_draw" (.cons (.var 0) (.cons (.con (.int 7)) .nil))) .nil)) (.cons (.set 3 (.idx (.lst (.cons (.cal 7 "_law_draw" (.cons (.var 0) (.cons (.con (.int 3)) .nil))) (.cons (.bin .Sub (.con (.int 0)) (.con (.int 1))) (.cons (.bin .Pow (.con (.int 10)) (.con (.int 30))) (.cons (.cal 7 "_law_draw" (.cons (.var 0) (.cons (.con (.int 16)) .nil))) .nil))))) (.cal 7 "_law_draw" (.cons (.var 0) (.cons (.con (.int 4)) .nil))))) (.cons (.app 1 (.idx (.bin .Add (.lst (.cons (.var 3) (.cons (.var 3) .nil))) (.slc (.var 1) (.neg (.con (.int 2))) .gap)) (.cal 7 "_law_draw" (.cons (.var 0) (.cons (.bin .Add (.con (.int 2)) (.blt .len (.cons (.slc (.var 1) (.neg (.con (.int 2))) .gap) .nil))) .nil))))) .nil)) []) (.cons (.frz 1) (.cons (.ret (.var 1)) .nil)))), none⟩
abbrev s__law_right : Stmt := top 48
def n__law_right : List Str := ["_law_road_here", "_law_both", "_law_kept", "_law_due", "_law_at"]
def f__law_right : Fn := ⟨1, 5, false, (.cons (.unt (.cons (.nam 2) (.cons (.nam 3) .nil)) (.cons (.blt .repr (.cons (.var 0) .nil)) (.cons (.cal 34 "_law_bare" (.cons (.var 0) .nil)) .nil))) (.cons (.iff (.cmp .NotEq (.blt .repr (.cons (.lst (.cons (.cal 32 "_law_backed" (.cons (.var 0) .nil)) (.cons (.cal 33 "_law_cut" (.cons (.var 0) .nil)) .nil))) .nil)) (.blt .repr (.cons (.lst (.cons (.blt .tuple (.cons (.rev (.var 0)) .nil)) (.cons (.var 3) .nil))) .nil))) (.cons (.ret (.con (.bl false))) .nil) .nil) (.cons (.iff (.or (.cmp .NotEq (.cal 33 "_law_cut" (.cons (.blt .list (.cons (.var 3) .nil)) .nil)) (.var 3)) (.cmp .NotEq (.bin .Mod (.bin .Sub (.blt .len (.cons (.var 0) .nil)) (.blt .len (.cons (.var 3) .nil))) (.con (.int 2))) (.con (.int 0)))) (.cons (.ret (.con (.bl false))) .nil) .nil) (.cons (.iff (.cmp .NotEq (.lcp (.var 4) (.nam 4) (.rng (.cons (.bin .Sub (.blt .len (.cons (.var 3) .nil)) (.con (.int 1))) .nil)) (.cons (.cmp .Eq (.idx (.var 3) (.var 4)) (.idx (.var 3) (.bin .Add (.var 4) (.con (.int 1))))) .nil) [4]) (.lst .nil)) (.cons (.ret (.con (.bl false))) .nil) .nil) (.cons (.iff (.cmp .NotEq (.cal 33 "_law_cut" (.cons (.blt .list (.cons (.cal 32 "_law_backed" (.cons (.var 0) .nil)) .nil)) .nil)) (.rev (.var 3))) (.cons (.ret (.con (.bl false))) .nil) .nil) (.cons (.set 1 (.bin .Add (.slc (.var 0) .gap (.con (.int 3))) (.rev (.slc (.var 0) .gap (.con (.int 3)))))) (.cons (.ret (.and (.cmp .Eq (.cal 33 "_law_cut" (.cons (.var 1) .nil)) (.tup .nil)) (.and (.cmp .Eq (.cal 32 "_law_backed" (.cons (.blt .list (.cons (.cal 32 "_law_backed" (.cons (.var 0) .nil)) .nil)) .nil)) (.blt .tuple (.cons (.var 0) .nil))) (.cmp .Eq (.blt .repr (.cons (.var 0) .nil)) (.var 2))))) .nil))))))), none⟩
abbrev s__law_walk_right : Stmt := top 49
def n__law_walk_right : List Str := ["_law_m", "_law_net", "_law_ties_here", "_law_base", "_law_road_here", "_law_there"]
def f__law_walk_right : Fn := ⟨3, 6, false, (.cons (.set 3 (.tup (.cons (.cal 7 "_law_draw" (.cons (.var 0) (.cons (.prp 0 40 (.var 1) "places") .nil))) (.cons (.blt .tuple (.cons (.cal 9 "_law_mixed_up" (.cons (.var 0) (.cons (.blt .listRg (.cons (.bin .Add (.blt .len (.cons (.var 2) .nil)) (.con (.int 1))) .nil)) .nil))) .nil)) .nil)))) (.cons (.set 4 (.cal 30 "_law_road" (.cons (.var 0) (.cons (.var 2) (.cons (.idx (.var 3) (.con (.int 0))) (.cons (.cal 7 "_law_draw" (.cons (.var 0) (.cons (.con (.int 7)) .nil))) .nil)))))) (.cons (.iff (.and (.cmp .Gt (.blt .len (.cons (.var 4) .nil)) (.con (.int 2))) (.cmp .Eq (.cal 7 "_law_draw" (.cons (.var 0) (.cons (.con (.int 2)) .nil))) (.con (.int 0)))) (.cons (.set 4 (.slc (.bin .Add (.bin .Add (.slc (.var 4) .gap (.con (.int 2))) (.lst (.cons (.idx (.var 4) (.con (.int 1))) .nil))) (.slc (.var 4) (.con (.int 1)) .gap)) .gap (.con (.int 6)))) .nil) .nil) (.cons (.set 5 (.cal 29 "_law_after" (.cons (.var 2) (.cons (.var 3) (.cons (.var 4) .nil))))) (.cons (.iff (.or (.not (.cal 36 "_law_right" (.cons (.var 4) .nil))) (.cmp .NotEq (.cal 31 "_law_passed" (.cons (.var 1) (.cons (.var 3) (.cons (.blt .list (.cons (.cal 33 "_law_cut" (.cons (.var 4) .nil)) .nil)) .nil)))) (.var 5))) (.cons (.ret (.con (.bl false))) .nil) .nil) (.cons (.ret (.and (.cmp .Eq (.cal 31 "_law_passed" (.cons (.var 1) (.cons (.var 5) (.cons (.blt .list (.cons (.cal 32 "_law_backed" (.cons (.var 4) .nil)) .nil)) .nil)))) (.var 3)) (.cmp .Eq (.cal 31 "_law_passed" (.cons (.var 1) (.cons (.var 3) (.cons (.var 4) .nil)))) (.var 5)))) .nil)))))), none⟩
abbrev s_Network___len__ : Stmt := inCls (top 24) 10
def n_Network___len__ : List Str := ["self"]
def f_Network___len__ : Fn := ⟨1, 1, false, (.cons (.ret (.blt .len (.cons (.att (.var 0) "joints") .nil))) .nil), none⟩
abbrev s_Network_far_end : Stmt := inCls (top 24) 14
def n_Network_far_end : List Str := ["self", "passage", "place", "one", "other"]
def f_Network_far_end : Fn := ⟨3, 5, false, (.cons (.iff (.not (.cal 1 "is_below" (.cons (.var 1) (.cons (.blt .len (.cons (.att (.var 0) "joints") .nil)) .nil)))) (.cons .nvr .nil) .nil) (.cons (.iff (.or (.not (.cal 1 "is_below" (.cons (.var 2) (.cons (.att (.var 0) "many") .nil)))) (.cmp .NotIn (.var 2) (.idx (.att (.var 0) "joints") (.var 1)))) (.cons .nvr .nil) .nil) (.cons (.unp (.tup (.cons (.nam 3) (.cons (.nam 4) .nil))) (.idx (.att (.var 0) "joints") (.var 1))) (.cons (.ret (.ite (.cmp .Eq (.var 2) (.var 3)) (.var 4) (.var 3))) .nil)))), none⟩
abbrev s_Network_places : Stmt := inCls (top 24) 5
def n_Network_places : List Str := ["self"]
def f_Network_places : Fn := ⟨1, 1, false, (.cons (.ret (.att (.var 0) "many")) .nil), none⟩
abbrev s_Network_passages : Stmt := inCls (top 24) 6
def n_Network_passages : List Str := ["self"]
def f_Network_passages : Fn := ⟨1, 1, false, (.cons (.ret (.att (.var 0) "joints")) .nil), none⟩
abbrev s_trace : Stmt := top 16
def n_trace : List Str := ["network", "state", "steps", "index", "passage"]
def g_trace : IGs := (.cons (.pl (.exp (.cal 20 "check_state" (.cons (.var 0) (.cons (.var 1) .nil))))) (.cons (.yld (.var 1)) (.cons (.frr (.tup (.cons (.nam 3) (.cons (.nam 4) .nil))) (.enm (.var 2)) (.cons (.pl (.iff (.not (.cal 21 "is_step" (.cons (.var 0) (.cons (.idx (.var 1) (.con (.int 0))) (.cons (.var 4) .nil))))) (.cons .nvr .nil) .nil)) (.cons (.pl (.set 1 (.cal 22 "stepped" (.cons (.var 0) (.cons (.var 1) (.cons (.var 4) .nil)))))) (.cons (.yld (.var 1)) .nil)))) .nil)))
def f_trace : Fn := ⟨2, 5, true, .nil, some g_trace⟩
def fns : List Fn := [f_is_integer, f_is_below, f_is_passage, f_reached_places, f_problem_of, f__law_mixed, f__law_folded, f__law_draw, f__law_begun, f__law_mixed_up, f__law_tie, f__law_tree, f__law_ring, f__law_core, f__law_shifted, f__law_top, f__law_renamed, f__law_ties, f__law_doors, f_is_permutation, f_check_state, f_is_step, f_stepped, f_after, f_back, f_reduced, f_law, f_Network___init__, f__law_moved, f__law_after, f__law_road, f__law_passed, f__law_backed, f__law_cut, f__law_bare, f__law_row, f__law_right, f__law_walk_right, f_Network___len__, f_Network_far_end, f_Network_places, f_Network_passages, f_trace]
def WW : Nat := 100000
theorem b_is_integer : dSs ⟨n_is_integer, defScope s_is_integer, none, fnames, ct⟩ (List.replicate n_is_integer.length false) (nextGs (List.replicate n_is_integer.length false) f_is_integer.body) [] f_is_integer.body (defBody s_is_integer) = true := by decide +kernel
theorem sc_is_integer : FnScope n_is_integer ["value"] (defScope s_is_integer) := ⟨by decide +kernel, by decide +kernel, by decide +kernel, by decide +kernel, by decide +kernel, by decide +kernel, by decide +kernel⟩
theorem b_is_below : dSs ⟨n_is_below, defScope s_is_below, none, fnames, ct⟩ (List.replicate n_is_below.length false) (nextGs (List.replicate n_is_below.length false) f_is_below.body) [] f_is_below.body (defBody s_is_below) = true := by decide +kernel
theorem sc_is_below : FnScope n_is_below ["value", "limit"] (defScope s_is_below) := ⟨by decide +kernel, by decide +kernel, by decide +kernel, by decide +kernel, by decide +kernel, by decide +kernel, by decide +kernel⟩
theorem b_is_passage : dSs ⟨n_is_passage, defScope s_is_passage, none, fnames, ct⟩ (List.replicate n_is_passage.length false) (nextGs (List.replicate n_is_passage.length false) f_is_passage.body) [] f_is_passage.body (defBody s_is_passage) = true := by decide +kernel
theorem sc_is_passage : FnScope n_is_passage ["value", "places"] (defScope s_is_passage) := ⟨by decide +kernel, by decide +kernel, by decide +kernel, by decide +kernel, by decide +kernel, by decide +kernel, by decide +kernel⟩
theorem b_reached_places : dSs ⟨n_reached_places, defScope s_reached_places, none, fnames, ct⟩ (List.replicate n_reached_places.length false) (nextGs (List.replicate n_reached_places.length false) f_reached_places.body) [] f_reached_places.body (defBody s_reached_places) = true := by decide +kernel
theorem sc_reached_places : FnScope n_reached_places ["passages", "place", "without"] (defScope s_reached_places) := ⟨by decide +kernel, by decide +kernel, by decide +kernel, by decide +kernel, by decide +kernel, by decide +kernel, by decide +kernel⟩
theorem b_problem_of : dSs ⟨n_problem_of, defScope s_problem_of, none, fnames, ct⟩ (List.replicate n_problem_of.length false) (nextGs (List.replicate n_problem_of.length false) f_problem_of.body) [] f_problem_of.body (defBody s_problem_of) = true := by decide +kernel
theorem sc_problem_of : FnScope n_problem_of ["places", "passages", "most_places", "most_passages"] (defScope s_problem_of) := ⟨by decide +kernel, by decide +kernel, by decide +kernel, by decide +kernel, by decide +kernel, by decide +kernel, by decide +kernel⟩
theorem b__law_mixed : dSs ⟨n__law_mixed, defScope s__law_mixed, none, fnames, ct⟩ (List.replicate n__law_mixed.length false) (nextGs (List.replicate n__law_mixed.length false) f__law_mixed.body) [] f__law_mixed.body (defBody s__law_mixed) = true := by decide +kernel
theorem sc__law_mixed : FnScope n__law_mixed ["_law_cell", "_law_n"] (defScope s__law_mixed) := ⟨by decide +kernel, by decide +kernel, by decide +kernel, by decide +kernel, by decide +kernel, by decide +kernel, by decide +kernel⟩
theorem b__law_folded : dSs ⟨n__law_folded, defScope s__law_folded, none, fnames, ct⟩ (List.replicate n__law_folded.length false) (nextGs (List.replicate n__law_folded.length false) f__law_folded.body) [] f__law_folded.body (defBody s__law_folded) = true := by decide +kernel
theorem sc__law_folded : FnScope n__law_folded ["_law_script"] (defScope s__law_folded) := ⟨by decide +kernel, by decide +kernel, by decide +kernel, by decide +kernel, by decide +kernel, by decide +kernel, by decide +kernel⟩
theorem b__law_draw : dSs ⟨n__law_draw, defScope s__law_draw, none, fnames, ct⟩ (List.replicate n__law_draw.length false) (nextGs (List.replicate n__law_draw.length false) f__law_draw.body) [] f__law_draw.body (defBody s__law_draw) = true := by decide +kernel
theorem sc__law_draw : FnScope n__law_draw ["_law_m", "_law_top_here"] (defScope s__law_draw) := ⟨by decide +kernel, by decide +kernel, by decide +kernel, by decide +kernel, by decide +kernel, by decide +kernel, by decide +kernel⟩
theorem b__law_begun : dSs ⟨n__law_begun, defScope s__law_begun, none, fnames, ct⟩ (List.replicate n__law_begun.length false) (nextGs (List.replicate n__law_begun.length false) f__law_begun.body) [] f__law_begun.body (defBody s__law_begun) = true := by decide +kernel
theorem sc__law_begun : FnScope n__law_begun ["_law_script"] (defScope s__law_begun) := ⟨by decide +kernel, by decide +kernel, by decide +kernel, by decide +kernel, by decide +kernel, by decide +kernel, by decide +kernel⟩
theorem b__law_mixed_up : dSs ⟨n__law_mixed_up, defScope s__law_mixed_up, none, fnames, ct⟩ (List.replicate n__law_mixed_up.length false) (nextGs (List.replicate n__law_mixed_up.length false) f__law_mixed_up.body) [] f__law_mixed_up.body (defBody s__law_mixed_up) = true := by decide +kernel
theorem sc__law_mixed_up : FnScope n__law_mixed_up ["_law_m", "_law_things"] (defScope s__law_mixed_up) := ⟨by decide +kernel, by decide +kernel, by decide +kernel, by decide +kernel, by decide +kernel, by decide +kernel, by decide +kernel⟩
theorem b__law_tie : dSs ⟨n__law_tie, defScope s__law_tie, none, fnames, ct⟩ (List.replicate n__law_tie.length false) (nextGs (List.replicate n__law_tie.length false) f__law_tie.body) [] f__law_tie.body (defBody s__law_tie) = true := by decide +kernel
theorem sc__law_tie : FnScope n__law_tie ["_law_one", "_law_far"] (defScope s__law_tie) := ⟨by decide +kernel, by decide +kernel, by decide +kernel, by decide +kernel, by decide +kernel, by decide +kernel, by decide +kernel⟩
theorem b__law_tree : dSs ⟨n__law_tree, defScope s__law_tree, none, fnames, ct⟩ (List.replicate n__law_tree.length false) (nextGs (List.replicate n__law_tree.length false) f__law_tree.body) [] f__law_tree.body (defBody s__law_tree) = true := by decide +kernel
theorem sc__law_tree : FnScope n__law_tree ["_law_m", "_law_many", "_law_low"] (defScope s__law_tree) := ⟨by decide +kernel, by decide +kernel, by decide +kernel, by decide +kernel, by decide +kernel, by decide +kernel, by decide +kernel⟩
theorem b__law_ring : dSs ⟨n__law_ring, defScope s__law_ring, none, fnames, ct⟩ (List.replicate n__law_ring.length false) (nextGs (List.replicate n__law_ring.length false) f__law_ring.body) [] f__law_ring.body (defBody s__law_ring) = true := by decide +kernel
theorem sc__law_ring : FnScope n__law_ring ["_law_spots"] (defScope s__law_ring) := ⟨by decide +kernel, by decide +kernel, by decide +kernel, by decide +kernel, by decide +kernel, by decide +kernel, by decide +kernel⟩
theorem b__law_core : dSs ⟨n__law_core, defScope s__law_core, none, fnames, ct⟩ (List.replicate n__law_core.length false) (nextGs (List.replicate n__law_core.length false) f__law_core.body) [] f__law_core.body (defBody s__law_core) = true := by decide +kernel
theorem sc__law_core : FnScope n__law_core ["_law_m"] (defScope s__law_core) := ⟨by decide +kernel, by decide +kernel, by decide +kernel, by decide +kernel, by decide +kernel, by decide +kernel, by decide +kernel⟩
theorem b__law_shifted : dSs ⟨n__law_shifted, defScope s__law_shifted, none, fnames, ct⟩ (List.replicate n__law_shifted.length false) (nextGs (List.replicate n__law_shifted.length false) f__law_shifted.body) [] f__law_shifted.body (defBody s__law_shifted) = true := by decide +kernel
theorem sc__law_shifted : FnScope n__law_shifted ["_law_ties_here", "_law_low", "_law_hinge"] (defScope s__law_shifted) := ⟨by decide +kernel, by decide +kernel, by decide +kernel, by decide +kernel, by decide +kernel, by decide +kernel, by decide +kernel⟩
theorem b__law_top : dSs ⟨n__law_top, defScope s__law_top, none, fnames, ct⟩ (List.replicate n__law_top.length false) (nextGs (List.replicate n__law_top.length false) f__law_top.body) [] f__law_top.body (defBody s__law_top) = true := by decide +kernel
theorem sc__law_top : FnScope n__law_top ["_law_ties_here"] (defScope s__law_top) := ⟨by decide +kernel, by decide +kernel, by decide +kernel, by decide +kernel, by decide +kernel, by decide +kernel, by decide +kernel⟩
theorem b__law_renamed : dSs ⟨n__law_renamed, defScope s__law_renamed, none, fnames, ct⟩ (List.replicate n__law_renamed.length false) (nextGs (List.replicate n__law_renamed.length false) f__law_renamed.body) [] f__law_renamed.body (defBody s__law_renamed) = true := by decide +kernel
theorem sc__law_renamed : FnScope n__law_renamed ["_law_m", "_law_many", "_law_ties_here"] (defScope s__law_renamed) := ⟨by decide +kernel, by decide +kernel, by decide +kernel, by decide +kernel, by decide +kernel, by decide +kernel, by decide +kernel⟩
theorem b__law_ties : dSs ⟨n__law_ties, defScope s__law_ties, none, fnames, ct⟩ (List.replicate n__law_ties.length false) (nextGs (List.replicate n__law_ties.length false) f__law_ties.body) [] f__law_ties.body (defBody s__law_ties) = true := by decide +kernel
theorem sc__law_ties : FnScope n__law_ties ["_law_m", "_law_cores", "_law_tails", "_law_more"] (defScope s__law_ties) := ⟨by decide +kernel, by decide +kernel, by decide +kernel, by decide +kernel, by decide +kernel, by decide +kernel, by decide +kernel⟩
theorem b__law_doors : dSs ⟨n__law_doors, defScope s__law_doors, none, fnames, ct⟩ (List.replicate n__law_doors.length false) (nextGs (List.replicate n__law_doors.length false) f__law_doors.body) [] f__law_doors.body (defBody s__law_doors) = true := by decide +kernel
theorem sc__law_doors : FnScope n__law_doors ["_law_ties_here", "_law_here"] (defScope s__law_doors) := ⟨by decide +kernel, by decide +kernel, by decide +kernel, by decide +kernel, by decide +kernel, by decide +kernel, by decide +kernel⟩
theorem b_is_permutation : dSs ⟨n_is_permutation, defScope s_is_permutation, none, fnames, ct⟩ (List.replicate n_is_permutation.length false) (nextGs (List.replicate n_is_permutation.length false) f_is_permutation.body) [] f_is_permutation.body (defBody s_is_permutation) = true := by decide +kernel
theorem sc_is_permutation : FnScope n_is_permutation ["value"] (defScope s_is_permutation) := ⟨by decide +kernel, by decide +kernel, by decide +kernel, by decide +kernel, by decide +kernel, by decide +kernel, by decide +kernel⟩
theorem b_check_state : dSs ⟨n_check_state, defScope s_check_state, none, fnames, ct⟩ (List.replicate n_check_state.length false) (nextGs (List.replicate n_check_state.length false) f_check_state.body) [] f_check_state.body (defBody s_check_state) = true := by decide +kernel
theorem sc_check_state : FnScope n_check_state ["network", "state"] (defScope s_check_state) := ⟨by decide +kernel, by decide +kernel, by decide +kernel, by decide +kernel, by decide +kernel, by decide +kernel, by decide +kernel⟩
theorem b_is_step : dSs ⟨n_is_step, defScope s_is_step, none, fnames, ct⟩ (List.replicate n_is_step.length false) (nextGs (List.replicate n_is_step.length false) f_is_step.body) [] f_is_step.body (defBody s_is_step) = true := by decide +kernel
theorem sc_is_step : FnScope n_is_step ["network", "place", "passage"] (defScope s_is_step) := ⟨by decide +kernel, by decide +kernel, by decide +kernel, by decide +kernel, by decide +kernel, by decide +kernel, by decide +kernel⟩
theorem b_stepped : dSs ⟨n_stepped, defScope s_stepped, none, fnames, ct⟩ (List.replicate n_stepped.length false) (nextGs (List.replicate n_stepped.length false) f_stepped.body) [] f_stepped.body (defBody s_stepped) = true := by decide +kernel
theorem sc_stepped : FnScope n_stepped ["network", "state", "passage"] (defScope s_stepped) := ⟨by decide +kernel, by decide +kernel, by decide +kernel, by decide +kernel, by decide +kernel, by decide +kernel, by decide +kernel⟩
theorem b_after : dSs ⟨n_after, defScope s_after, none, fnames, ct⟩ (List.replicate n_after.length false) (nextGs (List.replicate n_after.length false) f_after.body) [] f_after.body (defBody s_after) = true := by decide +kernel
theorem sc_after : FnScope n_after ["network", "state", "steps"] (defScope s_after) := ⟨by decide +kernel, by decide +kernel, by decide +kernel, by decide +kernel, by decide +kernel, by decide +kernel, by decide +kernel⟩
theorem b_back : dSs ⟨n_back, defScope s_back, none, fnames, ct⟩ (List.replicate n_back.length false) (nextGs (List.replicate n_back.length false) f_back.body) [] f_back.body (defBody s_back) = true := by decide +kernel
theorem sc_back : FnScope n_back ["steps"] (defScope s_back) := ⟨by decide +kernel, by decide +kernel, by decide +kernel, by decide +kernel, by decide +kernel, by decide +kernel, by decide +kernel⟩
theorem b_reduced : dSs ⟨n_reduced, defScope s_reduced, none, fnames, ct⟩ (List.replicate n_reduced.length false) (nextGs (List.replicate n_reduced.length false) f_reduced.body) [] f_reduced.body (defBody s_reduced) = true := by decide +kernel
theorem sc_reduced : FnScope n_reduced ["steps"] (defScope s_reduced) := ⟨by decide +kernel, by decide +kernel, by decide +kernel, by decide +kernel, by decide +kernel, by decide +kernel, by decide +kernel⟩
theorem b_law : dSs ⟨n_law, defScope s_law, none, fnames, ct⟩ (List.replicate n_law.length false) (nextGs (List.replicate n_law.length false) f_law.body) [] f_law.body (defBody s_law) = true := by decide +kernel
theorem sc_law : FnScope n_law ["_law_script"] (defScope s_law) := ⟨by decide +kernel, by decide +kernel, by decide +kernel, by decide +kernel, by decide +kernel, by decide +kernel, by decide +kernel⟩
theorem b_Network___init__ : dSs ⟨n_Network___init__, defScope s_Network___init__, none, fnames, ct⟩ (List.replicate n_Network___init__.length false) (nextGs (List.replicate n_Network___init__.length false) f_Network___init__.body) [] f_Network___init__.body (defBody s_Network___init__) = true := by decide +kernel
theorem sc_Network___init__ : FnScope n_Network___init__ ["self", "places", "passages"] (defScope s_Network___init__) := ⟨by decide +kernel, by decide +kernel, by decide +kernel, by decide +kernel, by decide +kernel, by decide +kernel, by decide +kernel⟩
theorem b__law_moved : dSs ⟨n__law_moved, defScope s__law_moved, none, fnames, ct⟩ (List.replicate n__law_moved.length false) (nextGs (List.replicate n__law_moved.length false) f__law_moved.body) [] f__law_moved.body (defBody s__law_moved) = true := by decide +kernel
theorem sc__law_moved : FnScope n__law_moved ["_law_ties_here", "_law_here", "_law_things", "_law_at"] (defScope s__law_moved) := ⟨by decide +kernel, by decide +kernel, by decide +kernel, by decide +kernel, by decide +kernel, by decide +kernel, by decide +kernel⟩
theorem b__law_after : dSs ⟨n__law_after, defScope s__law_after, none, fnames, ct⟩ (List.replicate n__law_after.length false) (nextGs (List.replicate n__law_after.length false) f__law_after.body) [] f__law_after.body (defBody s__law_after) = true := by decide +kernel
theorem sc__law_after : FnScope n__law_after ["_law_ties_here", "_law_base", "_law_road_here"] (defScope s__law_after) := ⟨by decide +kernel, by decide +kernel, by decide +kernel, by decide +kernel, by decide +kernel, by decide +kernel, by decide +kernel⟩
theorem b__law_road : dSs ⟨n__law_road, defScope s__law_road, none, fnames, ct⟩ (List.replicate n__law_road.length false) (nextGs (List.replicate n__law_road.length false) f__law_road.body) [] f__law_road.body (defBody s__law_road) = true := by decide +kernel
theorem sc__law_road : FnScope n__law_road ["_law_m", "_law_ties_here", "_law_here", "_law_many"] (defScope s__law_road) := ⟨by decide +kernel, by decide +kernel, by decide +kernel, by decide +kernel, by decide +kernel, by decide +kernel, by decide +kernel⟩
theorem b__law_passed : dSs ⟨n__law_passed, defScope s__law_passed, none, fnames, ct⟩ (List.replicate n__law_passed.length false) (nextGs (List.replicate n__law_passed.length false) f__law_passed.body) [] f__law_passed.body (defBody s__law_passed) = true := by decide +kernel
theorem sc__law_passed : FnScope n__law_passed ["_law_net", "_law_state_there", "_law_road_here"] (defScope s__law_passed) := ⟨by decide +kernel, by decide +kernel, by decide +kernel, by decide +kernel, by decide +kernel, by decide +kernel, by decide +kernel⟩
theorem b__law_backed : dSs ⟨n__law_backed, defScope s__law_backed, none, fnames, ct⟩ (List.replicate n__law_backed.length false) (nextGs (List.replicate n__law_backed.length false) f__law_backed.body) [] f__law_backed.body (defBody s__law_backed) = true := by decide +kernel
theorem sc__law_backed : FnScope n__law_backed ["_law_road_here"] (defScope s__law_backed) := ⟨by decide +kernel, by decide +kernel, by decide +kernel, by decide +kernel, by decide +kernel, by decide +kernel, by decide +kernel⟩
theorem b__law_cut : dSs ⟨n__law_cut, defScope s__law_cut, none, fnames, ct⟩ (List.replicate n__law_cut.length false) (nextGs (List.replicate n__law_cut.length false) f__law_cut.body) [] f__law_cut.body (defBody s__law_cut) = true := by decide +kernel
theorem sc__law_cut : FnScope n__law_cut ["_law_road_here"] (defScope s__law_cut) := ⟨by decide +kernel, by decide +kernel, by decide +kernel, by decide +kernel, by decide +kernel, by decide +kernel, by decide +kernel⟩
theorem b__law_bare : dSs ⟨n__law_bare, defScope s__law_bare, none, fnames, ct⟩ (List.replicate n__law_bare.length false) (nextGs (List.replicate n__law_bare.length false) f__law_bare.body) [] f__law_bare.body (defBody s__law_bare) = true := by decide +kernel
theorem sc__law_bare : FnScope n__law_bare ["_law_road_here"] (defScope s__law_bare) := ⟨by decide +kernel, by decide +kernel, by decide +kernel, by decide +kernel, by decide +kernel, by decide +kernel, by decide +kernel⟩
theorem b__law_row : dSs ⟨n__law_row, defScope s__law_row, none, fnames, ct⟩ (List.replicate n__law_row.length false) (nextGs (List.replicate n__law_row.length false) f__law_row.body) [] f__law_row.body (defBody s__law_row) = true := by decide +kernel
theorem sc__law_row : FnScope n__law_row ["_law_m"] (defScope s__law_row) := ⟨by decide +kernel, by decide +kernel, by decide +kernel, by decide +kernel, by decide +kernel, by decide +kernel, by decide +kernel⟩
theorem b__law_right : dSs ⟨n__law_right, defScope s__law_right, none, fnames, ct⟩ (List.replicate n__law_right.length false) (nextGs (List.replicate n__law_right.length false) f__law_right.body) [] f__law_right.body (defBody s__law_right) = true := by decide +kernel
theorem sc__law_right : FnScope n__law_right ["_law_road_here"] (defScope s__law_right) := ⟨by decide +kernel, by decide +kernel, by decide +kernel, by decide +kernel, by decide +kernel, by decide +kernel, by decide +kernel⟩
theorem b__law_walk_right : dSs ⟨n__law_walk_right, defScope s__law_walk_right, none, fnames, ct⟩ (List.replicate n__law_walk_right.length false) (nextGs (List.replicate n__law_walk_right.length false) f__law_walk_right.body) [] f__law_walk_right.body (defBody s__law_walk_right) = true := by decide +kernel
theorem sc__law_walk_right : FnScope n__law_walk_right ["_law_m", "_law_net", "_law_ties_here"] (defScope s__law_walk_right) := ⟨by decide +kernel, by decide +kernel, by decide +kernel, by decide +kernel, by decide +kernel, by decide +kernel, by decide +kernel⟩
theorem b_Network___len__ : dSs ⟨n_Network___len__, defScope s_Network___len__, none, fnames, ct⟩ (List.replicate n_Network___len__.length false) (nextGs (List.replicate n_Network___len__.length false) f_Network___len__.body) [] f_Network___len__.body (defBody s_Network___len__) = true := by decide +kernel
theorem sc_Network___len__ : FnScope n_Network___len__ ["self"] (defScope s_Network___len__) := ⟨by decide +kernel, by decide +kernel, by decide +kernel, by decide +kernel, by decide +kernel, by decide +kernel, by decide +kernel⟩
theorem b_Network_far_end : dSs ⟨n_Network_far_end, defScope s_Network_far_end, none, fnames, ct⟩ (List.replicate n_Network_far_end.length false) (nextGs (List.replicate n_Network_far_end.length false) f_Network_far_end.body) [] f_Network_far_end.body (defBody s_Network_far_end) = true := by decide +kernel
theorem sc_Network_far_end : FnScope n_Network_far_end ["self", "passage", "place"] (defScope s_Network_far_end) := ⟨by decide +kernel, by decide +kernel, by decide +kernel, by decide +kernel, by decide +kernel, by decide +kernel, by decide +kernel⟩
theorem b_Network_places : dSs ⟨n_Network_places, defScope s_Network_places, none, fnames, ct⟩ (List.replicate n_Network_places.length false) (nextGs (List.replicate n_Network_places.length false) f_Network_places.body) [] f_Network_places.body (defBody s_Network_places) = true := by decide +kernel
theorem sc_Network_places : FnScope n_Network_places ["self"] (defScope s_Network_places) := ⟨by decide +kernel, by decide +kernel, by decide +kernel, by decide +kernel, by decide +kernel, by decide +kernel, by decide +kernel⟩
theorem b_Network_passages : dSs ⟨n_Network_passages, defScope s_Network_passages, none, fnames, ct⟩ (List.replicate n_Network_passages.length false) (nextGs (List.replicate n_Network_passages.length false) f_Network_passages.body) [] f_Network_passages.body (defBody s_Network_passages) = true := by decide +kernel
theorem sc_Network_passages : FnScope n_Network_passages ["self"] (defScope s_Network_passages) := ⟨by decide +kernel, by decide +kernel, by decide +kernel, by decide +kernel, by decide +kernel, by decide +kernel, by decide +kernel⟩
theorem b_trace : dYs ⟨n_trace, defScope s_trace, none, fnames, ct⟩ (List.replicate n_trace.length false) (List.replicate n_trace.length false) [] g_trace (defBody s_trace) = true := by decide +kernel
theorem sc_trace : GScope n_trace ["network", "state", "steps"] (defScope s_trace) := ⟨by decide +kernel, by decide +kernel, by decide +kernel, by decide +kernel, by decide +kernel, by decide +kernel, by decide +kernel⟩
end DI.Law

set_option Elab.async false
set_option linter.all false
set_option maxRecDepth 100000
set_option maxHeartbeats 0
namespace DI.Law
open PySem PySem.Spec PyProof.Rows L2 DI
def kg (K : PySem.W.Frag) (C : Addr) (l : List Addr) : Kg := ⟨K, fun _ => C, fun i => l.getD i 0⟩
theorem all_mk {l : PySem.W.OpenLaw} {w : World} {K : PySem.W.Frag} {h : Heap} {mg : Str → Option Value} {fa C f0 f1 f2 f3 f4 f5 f6 f7 f8 f9 f10 f11 f12 f13 f14 f15 f16 f17 f18 f19 f20 f21 f22 f23 f24 f25 f26 f27 f28 f29 f30 f31 f32 f33 f34 f35 f36 f37 f38 f39 f40 f41 f42 : Addr} (X : K.In h) (G : h.Ns mainGlobals mg) (hfa : mg "law" = some (.ref fa))
    {p40 p41 : Addr} {q40 q41 : List Value}
    {t_MAX_PLACES t_MAX_PASSAGES : Tok}
    {od0 an0 od1 an1 od2 an2 od3 an3 od4 an4 od5 an5 od6 an6 od7 an7 od8 an8 od9 an9 od10 an10 od11 an11 od12 an12 od13 an13 od14 an14 od15 an15 od16 an16 od17 an17 od18 an18 od19 an19 od20 an20 od21 an21 od22 an22 od23 an23 od24 an24 od25 an25 od26 an26 od27 an27 od28 an28 od29 an29 od30 an30 od31 an31 od32 an32 od33 an33 od34 an34 od35 an35 od36 an36 od37 an37 od38 an38 od39 an39 od40 an40 od41 an41 od42 an42 : Option Addr} {sl0 sl1 sl2 sl3 sl4 sl5 sl6 sl7 sl8 sl9 sl10 sl11 sl12 sl13 sl14 sl15 sl16 sl17 sl18 sl19 sl20 sl21 sl22 sl23 sl24 sl25 sl26 sl27 sl28 sl29 sl30 sl31 sl32 sl33 sl34 sl35 sl36 sl37 sl38 sl39 sl40 sl41 sl42 : Array (Option Value)} {oc0 kV0 dc0 pm0 cd0 ct0 oc1 kV1 dc1 pm1 cd1 ct1 oc2 kV2 dc2 pm2 cd2 ct2 oc3 kV3 dc3 pm3 cd3 ct3 oc4 kV4 dc4 pm4 cd4 ct4 oc5 kV5 dc5 pm5 cd5 ct5 oc6 kV6 dc6 pm6 cd6 ct6 oc7 kV7 dc7 pm7 cd7 ct7 oc8 kV8 dc8 pm8 cd8 ct8 oc9 kV9 dc9 pm9 cd9 ct9 oc10 kV10 dc10 pm10 cd10 ct10 oc11 kV11 dc11 pm11 cd11 ct11 oc12 kV12 dc12 pm12 cd12 ct12 oc13 kV13 dc13 pm13 cd13 ct13 oc14 kV14 dc14 pm14 cd14 ct14 oc15 kV15 dc15 pm15 cd15 ct15 oc16 kV16 dc16 pm16 cd16 ct16 oc17 kV17 dc17 pm17 cd17 ct17 oc18 kV18 dc18 pm18 cd18 ct18 oc19 kV19 dc19 pm19 cd19 ct19 oc20 kV20 dc20 pm20 cd20 ct20 oc21 kV21 dc21 pm21 cd21 ct21 oc22 kV22 dc22 pm22 cd22 ct22 oc23 kV23 dc23 pm23 cd23 ct23 oc24 kV24 dc24 pm24 cd24 ct24 oc25 kV25 dc25 pm25 cd25 ct25 oc26 kV26 dc26 pm26 cd26 ct26 oc27 kV27 dc27 pm27 cd27 ct27 oc28 kV28 dc28 pm28 cd28 ct28 oc29 kV29 dc29 pm29 cd29 ct29 oc30 kV30 dc30 pm30 cd30 ct30 oc31 kV31 dc31 pm31 cd31 ct31 oc32 kV32 dc32 pm32 cd32 ct32 oc33 kV33 dc33 pm33 cd33 ct33 oc34 kV34 dc34 pm34 cd34 ct34 oc35 kV35 dc35 pm35 cd35 ct35 oc36 kV36 dc36 pm36 cd36 ct36 oc37 kV37 dc37 pm37 cd37 ct37 oc38 kV38 dc38 pm38 cd38 ct38 oc39 kV39 dc39 pm39 cd39 ct39 oc40 kV40 dc40 pm40 cd40 ct40 oc41 kV41 dc41 pm41 cd41 ct41 oc42 kV42 dc42 pm42 cd42 ct42 : Value}
    (aC : PySem.W.nsIn K mainGlobals "Network" = some (some (.ref C)))
    (pg : PySem.W.plainGet K C Str.empty = true)
    (hd : PySem.W.hasDictIn K C = true)
    (po : PySem.W.plainOver K C = true)
    (sa : PySem.W.findIn K (.ref C) "__setattr__" = some (some (.builtin "object.__setattr__")))
    (mk : PySem.W.makesIn K C = true)
    (kc : PySem.W.keepIn K (.ref C) = true)
    (n_weak : PySem.W.findIn K (.ref C) "weak" = some none)
    (n_pieces : PySem.W.findIn K (.ref C) "pieces" = some none)
    (n_many : PySem.W.findIn K (.ref C) "many" = some none)
    (n_joints : PySem.W.findIn K (.ref C) "joints" = some none)
    (rd : PySem.W.readsIn K C (.type "type") = true)
    (ga : PySem.W.specialIn K (.ref C) "__getattribute__" = some (some (.builtin "type.__getattribute__")))
    (m_MAX_PLACES : PySem.W.findCls K (.ref C) (.type "type") "MAX_PLACES" = some (.val (.int 12 t_MAX_PLACES)))
    (m_MAX_PASSAGES : PySem.W.findCls K (.ref C) (.type "type") "MAX_PASSAGES" = some (.val (.int 16 t_MAX_PASSAGES)))
    (a0 : PySem.W.nsIn K mainGlobals "is_integer" = some (some (.ref f0)))
    (l0 : K.lookup f0 = some ⟨oc0, od0, .func (PySem.W.fnOf "is_integer" "is_integer" (defArgs s_is_integer) (defBody s_is_integer) (defScope s_is_integer) .none kV0 dc0 pm0 an0 cd0 ct0), sl0⟩)
    (c0 : PySem.W.codeIn K cd0 "is_integer" = true)
    (k0 : PySem.W.keepIn K (.ref f0) = true)
    (a1 : PySem.W.nsIn K mainGlobals "is_below" = some (some (.ref f1)))
    (l1 : K.lookup f1 = some ⟨oc1, od1, .func (PySem.W.fnOf "is_below" "is_below" (defArgs s_is_below) (defBody s_is_below) (defScope s_is_below) .none kV1 dc1 pm1 an1 cd1 ct1), sl1⟩)
    (c1 : PySem.W.codeIn K cd1 "is_below" = true)
    (k1 : PySem.W.keepIn K (.ref f1) = true)
    (a2 : PySem.W.nsIn K mainGlobals "is_passage" = some (some (.ref f2)))
    (l2 : K.lookup f2 = some ⟨oc2, od2, .func (PySem.W.fnOf "is_passage" "is_passage" (defArgs s_is_passage) (defBody s_is_passage) (defScope s_is_passage) .none kV2 dc2 pm2 an2 cd2 ct2), sl2⟩)
    (c2 : PySem.W.codeIn K cd2 "is_passage" = true)
    (k2 : PySem.W.keepIn K (.ref f2) = true)
    (a3 : PySem.W.nsIn K mainGlobals "reached_places" = some (some (.ref f3)))
    (l3 : K.lookup f3 = some ⟨oc3, od3, .func (PySem.W.fnOf "reached_places" "reached_places" (defArgs s_reached_places) (defBody s_reached_places) (defScope s_reached_places) .none kV3 dc3 pm3 an3 cd3 ct3), sl3⟩)
    (c3 : PySem.W.codeIn K cd3 "reached_places" = true)
    (k3 : PySem.W.keepIn K (.ref f3) = true)
    (a4 : PySem.W.nsIn K mainGlobals "problem_of" = some (some (.ref f4)))
    (l4 : K.lookup f4 = some ⟨oc4, od4, .func (PySem.W.fnOf "problem_of" "problem_of" (defArgs s_problem_of) (defBody s_problem_of) (defScope s_problem_of) .none kV4 dc4 pm4 an4 cd4 ct4), sl4⟩)
    (c4 : PySem.W.codeIn K cd4 "problem_of" = true)
    (k4 : PySem.W.keepIn K (.ref f4) = true)
    (a5 : PySem.W.nsIn K mainGlobals "_law_mixed" = some (some (.ref f5)))
    (l5 : K.lookup f5 = some ⟨oc5, od5, .func (PySem.W.fnOf "_law_mixed" "_law_mixed" (defArgs s__law_mixed) (defBody s__law_mixed) (defScope s__law_mixed) .none kV5 dc5 pm5 an5 cd5 ct5), sl5⟩)
    (c5 : PySem.W.codeIn K cd5 "_law_mixed" = true)
    (k5 : PySem.W.keepIn K (.ref f5) = true)
    (a6 : PySem.W.nsIn K mainGlobals "_law_folded" = some (some (.ref f6)))
    (l6 : K.lookup f6 = some ⟨oc6, od6, .func (PySem.W.fnOf "_law_folded" "_law_folded" (defArgs s__law_folded) (defBody s__law_folded) (defScope s__law_folded) .none kV6 dc6 pm6 an6 cd6 ct6), sl6⟩)
    (c6 : PySem.W.codeIn K cd6 "_law_folded" = true)
    (k6 : PySem.W.keepIn K (.ref f6) = true)
    (a7 : PySem.W.nsIn K mainGlobals "_law_draw" = some (some (.ref f7)))
    (l7 : K.lookup f7 = some ⟨oc7, od7, .func (PySem.W.fnOf "_law_draw" "_law_draw" (defArgs s__law_draw) (defBody s__law_draw) (defScope s__law_draw) .none kV7 dc7 pm7 an7 cd7 ct7), sl7⟩)
    (c7 : PySem.W.codeIn K cd7 "_law_draw" = true)
    (k7 : PySem.W.keepIn K (.ref f7) = true)
    (a8 : PySem.W.nsIn K mainGlobals "_law_begun" = some (some (.ref f8)))
    (l8 : K.lookup f8 = some ⟨oc8, od8, .func (PySem.W.fnOf "_law_begun" "_law_begun" (defArgs s__law_begun) (defBody s__law_begun) (defScope s__law_begun) .none kV8 dc8 pm8 an8 cd8 ct8), sl8⟩)
    (c8 : PySem.W.codeIn K cd8 "_law_begun" = true)
    (k8 : PySem.W.keepIn K (.ref f8) = true)
    (a9 : PySem.W.nsIn K mainGlobals "_law_mixed_up" = some (some (.ref f9)))
    (l9 : K.lookup f9 = some ⟨oc9, od9, .func (PySem.W.fnOf "_law_mixed_up" "_law_mixed_up" (defArgs s__law_mixed_up) (defBody s__law_mixed_up) (defScope s__law_mixed_up) .none kV9 dc9 pm9 an9 cd9 ct9), sl9⟩)
    (c9 : PySem.W.codeIn K cd9 "_law_mixed_up" = true)
    (k9 : PySem.W.keepIn K (.ref f9) = true)
    (a10 : PySem.W.nsIn K mainGlobals "_law_tie" = some (some (.ref f10)))
    (l10 : K.lookup f10 = some ⟨oc10, od10, .func (PySem.W.fnOf "_law_tie" "_law_tie" (defArgs s__law_tie) (defBody s__law_tie) (defScope s__law_tie) .none kV10 dc10 pm10 an10 cd10 ct10), sl10⟩)
    (c10 : PySem.W.codeIn K cd10 "_law_tie" = true)
    (k10 : PySem.W.keepIn K (.ref f10) = true)
    (a11 : PySem.W.nsIn K mainGlobals "_law_tree" = some (some (.ref f11)))
    (l11 : K.lookup f11 = some ⟨oc11, od11, .func (PySem.W.fnOf "_law_tree" "_law_tree" (defArgs s__law_tree) (defBody s__law_tree) (defScope s__law_tree) .none kV11 dc11 pm11 an11 cd11 ct11), sl11⟩)
    (c11 : PySem.W.codeIn K cd11 "_law_tree" = true)
    (k11 : PySem.W.keepIn K (.ref f11) = true)
    (a12 : PySem.W.nsIn K mainGlobals "_law_ring" = some (some (.ref f12)))
    (l12 : K.lookup f12 = some ⟨oc12, od12, .func (PySem.W.fnOf "_law_ring" "_law_ring" (defArgs s__law_ring) (defBody s__law_ring) (defScope s__law_ring) .none kV12 dc12 pm12 an12 cd12 ct12), sl12⟩)
    (c12 : PySem.W.codeIn K cd12 "_law_ring" = true)
    (k12 : PySem.W.keepIn K (.ref f12) = true)
    (a13 : PySem.W.nsIn K mainGlobals "_law_core" = some (some (.ref f13)))
    (l13 : K.lookup f13 = some ⟨oc13, od13, .func (PySem.W.fnOf "_law_core" "_law_core" (defArgs s__law_core) (defBody s__law_core) (defScope s__law_core) .none kV13 dc13 pm13 an13 cd13 ct13), sl13⟩)
    (c13 : PySem.W.codeIn K cd13 "_law_core" = true)
    (k13 : PySem.W.keepIn K (.ref f13) = true)
    (a14 : PySem.W.nsIn K mainGlobals "_law_shifted" = some (some (.ref f14)))
    (l14 : K.lookup f14 = some ⟨oc14, od14, .func (PySem.W.fnOf "_law_shifted" "_law_shifted" (defArgs s__law_shifted) (defBody s__law_shifted) (defScope s__law_shifted) .none kV14 dc14 pm14 an14 cd14 ct14), sl14⟩)
    (c14 : PySem.W.codeIn K cd14 "_law_shifted" = true)
    (k14 : PySem.W.keepIn K (.ref f14) = true)
    (a15 : PySem.W.nsIn K mainGlobals "_law_top" = some (some (.ref f15)))
    (l15 : K.lookup f15 = some ⟨oc15, od15, .func (PySem.W.fnOf "_law_top" "_law_top" (defArgs s__law_top) (defBody s__law_top) (defScope s__law_top) .none kV15 dc15 pm15 an15 cd15 ct15), sl15⟩)
    (c15 : PySem.W.codeIn K cd15 "_law_top" = true)
    (k15 : PySem.W.keepIn K (.ref f15) = true)
    (a16 : PySem.W.nsIn K mainGlobals "_law_renamed" = some (some (.ref f16)))
    (l16 : K.lookup f16 = some ⟨oc16, od16, .func (PySem.W.fnOf "_law_renamed" "_law_renamed" (defArgs s__law_renamed) (defBody s__law_renamed) (defScope s__law_renamed) .none kV16 dc16 pm16 an16 cd16 ct16), sl16⟩)
    (c16 : PySem.W.codeIn K cd16 "_law_renamed" = true)
    (k16 : PySem.W.keepIn K (.ref f16) = true)
    (a17 : PySem.W.nsIn K mainGlobals "_law_ties" = some (some (.ref f17)))
    (l17 : K.lookup f17 = some ⟨oc17, od17, .func (PySem.W.fnOf "_law_ties" "_law_ties" (defArgs s__law_ties) (defBody s__law_ties) (defScope s__law_ties) .none kV17 dc17 pm17 an17 cd17 ct17), sl17⟩)
    (c17 : PySem.W.codeIn K cd17 "_law_ties" = true)
    (k17 : PySem.W.keepIn K (.ref f17) = true)
    (a18 : PySem.W.nsIn K mainGlobals "_law_doors" = some (some (.ref f18)))
    (l18 : K.lookup f18 = some ⟨oc18, od18, .func (PySem.W.fnOf "_law_doors" "_law_doors" (defArgs s__law_doors) (defBody s__law_doors) (defScope s__law_doors) .none kV18 dc18 pm18 an18 cd18 ct18), sl18⟩)
    (c18 : PySem.W.codeIn K cd18 "_law_doors" = true)
    (k18 : PySem.W.keepIn K (.ref f18) = true)
    (a19 : PySem.W.nsIn K mainGlobals "is_permutation" = some (some (.ref f19)))
    (l19 : K.lookup f19 = some ⟨oc19, od19, .func (PySem.W.fnOf "is_permutation" "is_permutation" (defArgs s_is_permutation) (defBody s_is_permutation) (defScope s_is_permutation) .none kV19 dc19 pm19 an19 cd19 ct19), sl19⟩)
    (c19 : PySem.W.codeIn K cd19 "is_permutation" = true)
    (k19 : PySem.W.keepIn K (.ref f19) = true)
    (a20 : PySem.W.nsIn K mainGlobals "check_state" = some (some (.ref f20)))
    (l20 : K.lookup f20 = some ⟨oc20, od20, .func (PySem.W.fnOf "check_state" "check_state" (defArgs s_check_state) (defBody s_check_state) (defScope s_check_state) .none kV20 dc20 pm20 an20 cd20 ct20), sl20⟩)
    (c20 : PySem.W.codeIn K cd20 "check_state" = true)
    (k20 : PySem.W.keepIn K (.ref f20) = true)
    (a21 : PySem.W.nsIn K mainGlobals "is_step" = some (some (.ref f21)))
    (l21 : K.lookup f21 = some ⟨oc21, od21, .func (PySem.W.fnOf "is_step" "is_step" (defArgs s_is_step) (defBody s_is_step) (defScope s_is_step) .none kV21 dc21 pm21 an21 cd21 ct21), sl21⟩)
    (c21 : PySem.W.codeIn K cd21 "is_step" = true)
    (k21 : PySem.W.keepIn K (.ref f21) = true)
    (a22 : PySem.W.nsIn K mainGlobals "stepped" = some (some (.ref f22)))
    (l22 : K.lookup f22 = some ⟨oc22, od22, .func (PySem.W.fnOf "stepped" "stepped" (defArgs s_stepped) (defBody s_stepped) (defScope s_stepped) .none kV22 dc22 pm22 an22 cd22 ct22), sl22⟩)
    (c22 : PySem.W.codeIn K cd22 "stepped" = true)
    (k22 : PySem.W.keepIn K (.ref f22) = true)
    (a23 : PySem.W.nsIn K mainGlobals "after" = some (some (.ref f23)))
    (l23 : K.lookup f23 = some ⟨oc23, od23, .func (PySem.W.fnOf "after" "after" (defArgs s_after) (defBody s_after) (defScope s_after) .none kV23 dc23 pm23 an23 cd23 ct23), sl23⟩)
    (c23 : PySem.W.codeIn K cd23 "after" = true)
    (k23 : PySem.W.keepIn K (.ref f23) = true)
    (a24 : PySem.W.nsIn K mainGlobals "back" = some (some (.ref f24)))
    (l24 : K.lookup f24 = some ⟨oc24, od24, .func (PySem.W.fnOf "back" "back" (defArgs s_back) (defBody s_back) (defScope s_back) .none kV24 dc24 pm24 an24 cd24 ct24), sl24⟩)
    (c24 : PySem.W.codeIn K cd24 "back" = true)
    (k24 : PySem.W.keepIn K (.ref f24) = true)
    (a25 : PySem.W.nsIn K mainGlobals "reduced" = some (some (.ref f25)))
    (l25 : K.lookup f25 = some ⟨oc25, od25, .func (PySem.W.fnOf "reduced" "reduced" (defArgs s_reduced) (defBody s_reduced) (defScope s_reduced) .none kV25 dc25 pm25 an25 cd25 ct25), sl25⟩)
    (c25 : PySem.W.codeIn K cd25 "reduced" = true)
    (k25 : PySem.W.keepIn K (.ref f25) = true)
    (a26 : PySem.W.nsIn K mainGlobals "law" = some (some (.ref f26)))
    (l26 : K.lookup f26 = some ⟨oc26, od26, .func (PySem.W.fnOf "law" "law" (defArgs s_law) (defBody s_law) (defScope s_law) .none kV26 dc26 pm26 an26 cd26 ct26), sl26⟩)
    (c26 : PySem.W.codeIn K cd26 "law" = true)
    (k26 : PySem.W.keepIn K (.ref f26) = true)
    (a27 : PySem.W.findIn K (.ref C) "__init__" = some (some (.ref f27)))
    (i27 : PySem.W.isFn K (.ref f27) = true)
    (l27 : K.lookup f27 = some ⟨oc27, od27, .func (PySem.W.fnOf "__init__" "Network.__init__" (defArgs s_Network___init__) (defBody s_Network___init__) (defScope s_Network___init__) .none kV27 dc27 pm27 an27 cd27 ct27), sl27⟩)
    (c27 : PySem.W.codeIn K cd27 "Network.__init__" = true)
    (k27 : PySem.W.keepIn K (.ref f27) = true)
    (a28 : PySem.W.nsIn K mainGlobals "_law_moved" = some (some (.ref f28)))
    (l28 : K.lookup f28 = some ⟨oc28, od28, .func (PySem.W.fnOf "_law_moved" "_law_moved" (defArgs s__law_moved) (defBody s__law_moved) (defScope s__law_moved) .none kV28 dc28 pm28 an28 cd28 ct28), sl28⟩)
    (c28 : PySem.W.codeIn K cd28 "_law_moved" = true)
    (k28 : PySem.W.keepIn K (.ref f28) = true)
    (a29 : PySem.W.nsIn K mainGlobals "_law_after" = some (some (.ref f29)))
    (l29 : K.lookup f29 = some ⟨oc29, od29, .func (PySem.W.fnOf "_law_after" "_law_after" (defArgs s__law_after) (defBody s__law_after) (defScope s__law_after) .none kV29 dc29 pm29 an29 cd29 ct29), sl29⟩)
    (c29 : PySem.W.codeIn K cd29 "_law_after" = true)
    (k29 : PySem.W.keepIn K (.ref f29) = true)
    (a30 : PySem.W.nsIn K mainGlobals "_law_road" = some (some (.ref f30)))
    (l30 : K.lookup f30 = some ⟨oc30, od30, .func (PySem.W.fnOf "_law_road" "_law_road" (defArgs s__law_road) (defBody s__law_road) (defScope s__law_road) .none kV30 dc30 pm30 an30 cd30 ct30), sl30⟩)
    (c30 : PySem.W.codeIn K cd30 "_law_road" = true)
    (k30 : PySem.W.keepIn K (.ref f30) = true)
    (a31 : PySem.W.nsIn K mainGlobals "_law_passed" = some (some (.ref f31)))
    (l31 : K.lookup f31 = some ⟨oc31, od31, .func (PySem.W.fnOf "_law_passed" "_law_passed" (defArgs s__law_passed) (defBody s__law_passed) (defScope s__law_passed) .none kV31 dc31 pm31 an31 cd31 ct31), sl31⟩)
    (c31 : PySem.W.codeIn K cd31 "_law_passed" = true)
    (k31 : PySem.W.keepIn K (.ref f31) = true)
    (a32 : PySem.W.nsIn K mainGlobals "_law_backed" = some (some (.ref f32)))
    (l32 : K.lookup f32 = some ⟨oc32, od32, .func (PySem.W.fnOf "_law_backed" "_law_backed" (defArgs s__law_backed) (defBody s__law_backed) (defScope s__law_backed) .none kV32 dc32 pm32 an32 cd32 ct32), sl32⟩)
    (c32 : PySem.W.codeIn K cd32 "_law_backed" = true)
    (k32 : PySem.W.keepIn K (.ref f32) = true)
    (a33 : PySem.W.nsIn K mainGlobals "_law_cut" = some (some (.ref f33)))
    (l33 : K.lookup f33 = some ⟨oc33, od33, .func (PySem.W.fnOf "_law_cut" "_law_cut" (defArgs s__law_cut) (defBody s__law_cut) (defScope s__law_cut) .none kV33 dc33 pm33 an33 cd33 ct33), sl33⟩)
    (c33 : PySem.W.codeIn K cd33 "_law_cut" = true)
    (k33 : PySem.W.keepIn K (.ref f33) = true)
    (a34 : PySem.W.nsIn K mainGlobals "_law_bare" = some (some (.ref f34)))
    (l34 : K.lookup f34 = some ⟨oc34, od34, .func (PySem.W.fnOf "_law_bare" "_law_bare" (defArgs s__law_bare) (defBody s__law_bare) (defScope s__law_bare) .none kV34 dc34 pm34 an34 cd34 ct34), sl34⟩)
    (c34 : PySem.W.codeIn K cd34 "_law_bare" = true)
    (k34 : PySem.W.keepIn K (.ref f34) = true)
    (a35 : PySem.W.nsIn K mainGlobals "_law_row" = some (some (.ref f35)))
    (l35 : K.lookup f35 = some ⟨oc35, od35, .func (PySem.W.fnOf "_law_row" "_law_row" (defArgs s__law_row) (defBody s__law_row) (defScope s__law_row) .none kV35 dc35 pm35 an35 cd35 ct35), sl35⟩)
    (c35 : PySem.W.codeIn K cd35 "_law_row" = true)
    (k35 : PySem.W.keepIn K (.ref f35) = true)
    (a36 : PySem.W.nsIn K mainGlobals "_law_right" = some (some (.ref f36)))
    (l36 : K.lookup f36 = some ⟨oc36, od36, .func (PySem.W.fnOf "_law_right" "_law_right" (defArgs s__law_right) (defBody s__law_right) (defScope s__law_right) .none kV36 dc36 pm36 an36 cd36 ct36), sl36⟩)
    (c36 : PySem.W.codeIn K cd36 "_law_right" = true)
    (k36 : PySem.W.keepIn K (.ref f36) = true)
    (a37 : PySem.W.nsIn K mainGlobals "_law_walk_right" = some (some (.ref f37)))
    (l37 : K.lookup f37 = some ⟨oc37, od37, .func (PySem.W.fnOf "_law_walk_right" "_law_walk_right" (defArgs s__law_walk_right) (defBody s__law_walk_right) (defScope s__law_walk_right) .none kV37 dc37 pm37 an37 cd37 ct37), sl37⟩)
    (c37 : PySem.W.codeIn K cd37 "_law_walk_right" = true)
    (k37 : PySem.W.keepIn K (.ref f37) = true)
    (a38 : PySem.W.findIn K (.ref C) "__len__" = some (some (.ref f38)))
    (i38 : PySem.W.isFn K (.ref f38) = true)
    (l38 : K.lookup f38 = some ⟨oc38, od38, .func (PySem.W.fnOf "__len__" "Network.__len__" (defArgs s_Network___len__) (defBody s_Network___len__) (defScope s_Network___len__) .none kV38 dc38 pm38 an38 cd38 ct38), sl38⟩)
    (c38 : PySem.W.codeIn K cd38 "Network.__len__" = true)
    (k38 : PySem.W.keepIn K (.ref f38) = true)
    (a39 : PySem.W.findIn K (.ref C) "far_end" = some (some (.ref f39)))
    (i39 : PySem.W.isFn K (.ref f39) = true)
    (l39 : K.lookup f39 = some ⟨oc39, od39, .func (PySem.W.fnOf "far_end" "Network.far_end" (defArgs s_Network_far_end) (defBody s_Network_far_end) (defScope s_Network_far_end) .none kV39 dc39 pm39 an39 cd39 ct39), sl39⟩)
    (c39 : PySem.W.codeIn K cd39 "Network.far_end" = true)
    (k39 : PySem.W.keepIn K (.ref f39) = true)
    (a40 : PySem.W.findIn K (.ref C) "places" = some (some (.ref p40)))
    (g40 : PySem.W.specialIn K (.ref p40) "__get__" = some (some (.builtin "property.__get__")))
    (t40 : PySem.W.takesIn K (.ref p40) = some true)
    (r40 : PySem.W.recIn K p40 "property" = some (.ref f40 :: q40))
    (l40 : K.lookup f40 = some ⟨oc40, od40, .func (PySem.W.fnOf "places" "Network.places" (defArgs s_Network_places) (defBody s_Network_places) (defScope s_Network_places) .none kV40 dc40 pm40 an40 cd40 ct40), sl40⟩)
    (c40 : PySem.W.codeIn K cd40 "Network.places" = true)
    (k40 : PySem.W.keepIn K (.ref f40) = true)
    (a41 : PySem.W.findIn K (.ref C) "passages" = some (some (.ref p41)))
    (g41 : PySem.W.specialIn K (.ref p41) "__get__" = some (some (.builtin "property.__get__")))
    (t41 : PySem.W.takesIn K (.ref p41) = some true)
    (r41 : PySem.W.recIn K p41 "property" = some (.ref f41 :: q41))
    (l41 : K.lookup f41 = some ⟨oc41, od41, .func (PySem.W.fnOf "passages" "Network.passages" (defArgs s_Network_passages) (defBody s_Network_passages) (defScope s_Network_passages) .none kV41 dc41 pm41 an41 cd41 ct41), sl41⟩)
    (c41 : PySem.W.codeIn K cd41 "Network.passages" = true)
    (k41 : PySem.W.keepIn K (.ref f41) = true)
    (a42 : PySem.W.nsIn K mainGlobals "trace" = some (some (.ref f42)))
    (l42 : K.lookup f42 = some ⟨oc42, od42, .func (PySem.W.fnOf "trace" "trace" (defArgs s_trace) (defBody s_trace) (defScope s_trace) .none kV42 dc42 pm42 an42 cd42 ct42), sl42⟩)
    (c42 : PySem.W.codeIn K cd42 "trace" = true)
    (k42 : PySem.W.keepIn K (.ref f42) = true)
    (z_len : PySem.W.nsIn K mainGlobals "len" = some none)
    (z_list : PySem.W.nsIn K mainGlobals "list" = some none)
    (z_tuple : PySem.W.nsIn K mainGlobals "tuple" = some none)
    (z_sum : PySem.W.nsIn K mainGlobals "sum" = some none)
    (z_all : PySem.W.nsIn K mainGlobals "all" = some none)
    (z_any : PySem.W.nsIn K mainGlobals "any" = some none)
    (z_min : PySem.W.nsIn K mainGlobals "min" = some none)
    (z_max : PySem.W.nsIn K mainGlobals "max" = some none)
    (z_sorted : PySem.W.nsIn K mainGlobals "sorted" = some none)
    (z_abs : PySem.W.nsIn K mainGlobals "abs" = some none)
    (z_isinstance : PySem.W.nsIn K mainGlobals "isinstance" = some none)
    (z_range : PySem.W.nsIn K mainGlobals "range" = some none)
    (z_enumerate : PySem.W.nsIn K mainGlobals "enumerate" = some none)
    (z_zip : PySem.W.nsIn K mainGlobals "zip" = some none)
    (z_set : PySem.W.nsIn K mainGlobals "set" = some none)
    (z_int : PySem.W.nsIn K mainGlobals "int" = some none)
    (z_bool : PySem.W.nsIn K mainGlobals "bool" = some none)
    (z_str : PySem.W.nsIn K mainGlobals "str" = some none)
    (z_repr : PySem.W.nsIn K mainGlobals "repr" = some none)
    (H : ∀ ns : List Int, ns.length ≤ 63 → ∃ st, callN fns WW 12 26 [.scr ns] [] = .ok (.bl true) st) :
    ∀ base : Heap, K.In base → base.Ns mainGlobals mg → FnG l.prog w K mg base 12 fa (spLaw K) := by
  have e := hfa.symm.trans (PySem.W.mg_of X G a26)
  cases e
  intro base _ _
  let kk : Kg := kg K C [f0, f1, f2, f3, f4, f5, f6, f7, f8, f9, f10, f11, f12, f13, f14, f15, f16, f17, f18, f19, f20, f21, f22, f23, f24, f25, fa, f27, f28, f29, f30, f31, f32, f33, f34, f35, f36, f37, f38, f39, f40, f41, f42]
  have F0 := fun_mk (st := s_is_integer) l0 c0 k0
  have F1 := fun_mk (st := s_is_below) l1 c1 k1
  have F2 := fun_mk (st := s_is_passage) l2 c2 k2
  have F3 := fun_mk (st := s_reached_places) l3 c3 k3
  have F4 := fun_mk (st := s_problem_of) l4 c4 k4
  have F5 := fun_mk (st := s__law_mixed) l5 c5 k5
  have F6 := fun_mk (st := s__law_folded) l6 c6 k6
  have F7 := fun_mk (st := s__law_draw) l7 c7 k7
  have F8 := fun_mk (st := s__law_begun) l8 c8 k8
  have F9 := fun_mk (st := s__law_mixed_up) l9 c9 k9
  have F10 := fun_mk (st := s__law_tie) l10 c10 k10
  have F11 := fun_mk (st := s__law_tree) l11 c11 k11
  have F12 := fun_mk (st := s__law_ring) l12 c12 k12
  have F13 := fun_mk (st := s__law_core) l13 c13 k13
  have F14 := fun_mk (st := s__law_shifted) l14 c14 k14
  have F15 := fun_mk (st := s__law_top) l15 c15 k15
  have F16 := fun_mk (st := s__law_renamed) l16 c16 k16
  have F17 := fun_mk (st := s__law_ties) l17 c17 k17
  have F18 := fun_mk (st := s__law_doors) l18 c18 k18
  have F19 := fun_mk (st := s_is_permutation) l19 c19 k19
  have F20 := fun_mk (st := s_check_state) l20 c20 k20
  have F21 := fun_mk (st := s_is_step) l21 c21 k21
  have F22 := fun_mk (st := s_stepped) l22 c22 k22
  have F23 := fun_mk (st := s_after) l23 c23 k23
  have F24 := fun_mk (st := s_back) l24 c24 k24
  have F25 := fun_mk (st := s_reduced) l25 c25 k25
  have F26 := fun_mk (st := s_law) l26 c26 k26
  have F27 := fun_mk (st := s_Network___init__) l27 c27 k27
  have F28 := fun_mk (st := s__law_moved) l28 c28 k28
  have F29 := fun_mk (st := s__law_after) l29 c29 k29
  have F30 := fun_mk (st := s__law_road) l30 c30 k30
  have F31 := fun_mk (st := s__law_passed) l31 c31 k31
  have F32 := fun_mk (st := s__law_backed) l32 c32 k32
  have F33 := fun_mk (st := s__law_cut) l33 c33 k33
  have F34 := fun_mk (st := s__law_bare) l34 c34 k34
  have F35 := fun_mk (st := s__law_row) l35 c35 k35
  have F36 := fun_mk (st := s__law_right) l36 c36 k36
  have F37 := fun_mk (st := s__law_walk_right) l37 c37 k37
  have F38 := fun_mk (st := s_Network___len__) l38 c38 k38
  have F39 := fun_mk (st := s_Network_far_end) l39 c39 k39
  have F40 := fun_mk (st := s_Network_places) l40 c40 k40
  have F41 := fun_mk (st := s_Network_passages) l41 c41 k41
  have F42 := fun_mk (st := s_trace) l42 c42 k42
  have hm : Sta kk mg fnames ct := by
    have cl : Cls K C := ⟨pg, hd, po, sa⟩
    refine ⟨?_, ?_, ?_, ?_, ?_, ?_, ?_, ?_, ?_⟩
    · intro x hx
      simp only [bltNs, List.mem_cons, List.not_mem_nil, or_false] at hx
      rcases hx with rfl | rfl | rfl | rfl | rfl | rfl | rfl | rfl | rfl | rfl | rfl | rfl | rfl | rfl | rfl | rfl | rfl | rfl | rfl
      · exact PySem.W.mg_none_of X G z_len
      · exact PySem.W.mg_none_of X G z_list
      · exact PySem.W.mg_none_of X G z_tuple
      · exact PySem.W.mg_none_of X G z_sum
      · exact PySem.W.mg_none_of X G z_all
      · exact PySem.W.mg_none_of X G z_any
      · exact PySem.W.mg_none_of X G z_min
      · exact PySem.W.mg_none_of X G z_max
      · exact PySem.W.mg_none_of X G z_sorted
      · exact PySem.W.mg_none_of X G z_abs
      · exact PySem.W.mg_none_of X G z_isinstance
      · exact PySem.W.mg_none_of X G z_range
      · exact PySem.W.mg_none_of X G z_enumerate
      · exact PySem.W.mg_none_of X G z_zip
      · exact PySem.W.mg_none_of X G z_set
      · exact PySem.W.mg_none_of X G z_int
      · exact PySem.W.mg_none_of X G z_bool
      · exact PySem.W.mg_none_of X G z_str
      · exact PySem.W.mg_none_of X G z_repr
    · intro f x hx hf
      match f, hx, hf with
      | 0, hx, _ => obtain rfl := Option.some.inj (show some _ = some x from hx); exact ⟨PySem.W.mg_of X G a0, k0⟩
      | 1, hx, _ => obtain rfl := Option.some.inj (show some _ = some x from hx); exact ⟨PySem.W.mg_of X G a1, k1⟩
      | 2, hx, _ => obtain rfl := Option.some.inj (show some _ = some x from hx); exact ⟨PySem.W.mg_of X G a2, k2⟩
      | 3, hx, _ => obtain rfl := Option.some.inj (show some _ = some x from hx); exact ⟨PySem.W.mg_of X G a3, k3⟩
      | 4, hx, _ => obtain rfl := Option.some.inj (show some _ = some x from hx); exact ⟨PySem.W.mg_of X G a4, k4⟩
      | 5, hx, _ => obtain rfl := Option.some.inj (show some _ = some x from hx); exact ⟨PySem.W.mg_of X G a5, k5⟩
      | 6, hx, _ => obtain rfl := Option.some.inj (show some _ = some x from hx); exact ⟨PySem.W.mg_of X G a6, k6⟩
      | 7, hx, _ => obtain rfl := Option.some.inj (show some _ = some x from hx); exact ⟨PySem.W.mg_of X G a7, k7⟩
      | 8, hx, _ => obtain rfl := Option.some.inj (show some _ = some x from hx); exact ⟨PySem.W.mg_of X G a8, k8⟩
      | 9, hx, _ => obtain rfl := Option.some.inj (show some _ = some x from hx); exact ⟨PySem.W.mg_of X G a9, k9⟩
      | 10, hx, _ => obtain rfl := Option.some.inj (show some _ = some x from hx); exact ⟨PySem.W.mg_of X G a10, k10⟩
      | 11, hx, _ => obtain rfl := Option.some.inj (show some _ = some x from hx); exact ⟨PySem.W.mg_of X G a11, k11⟩
      | 12, hx, _ => obtain rfl := Option.some.inj (show some _ = some x from hx); exact ⟨PySem.W.mg_of X G a12, k12⟩
      | 13, hx, _ => obtain rfl := Option.some.inj (show some _ = some x from hx); exact ⟨PySem.W.mg_of X G a13, k13⟩
      | 14, hx, _ => obtain rfl := Option.some.inj (show some _ = some x from hx); exact ⟨PySem.W.mg_of X G a14, k14⟩
      | 15, hx, _ => obtain rfl := Option.some.inj (show some _ = some x from hx); exact ⟨PySem.W.mg_of X G a15, k15⟩
      | 16, hx, _ => obtain rfl := Option.some.inj (show some _ = some x from hx); exact ⟨PySem.W.mg_of X G a16, k16⟩
      | 17, hx, _ => obtain rfl := Option.some.inj (show some _ = some x from hx); exact ⟨PySem.W.mg_of X G a17, k17⟩
      | 18, hx, _ => obtain rfl := Option.some.inj (show some _ = some x from hx); exact ⟨PySem.W.mg_of X G a18, k18⟩
      | 19, hx, _ => obtain rfl := Option.some.inj (show some _ = some x from hx); exact ⟨PySem.W.mg_of X G a19, k19⟩
      | 20, hx, _ => obtain rfl := Option.some.inj (show some _ = some x from hx); exact ⟨PySem.W.mg_of X G a20, k20⟩
      | 21, hx, _ => obtain rfl := Option.some.inj (show some _ = some x from hx); exact ⟨PySem.W.mg_of X G a21, k21⟩
      | 22, hx, _ => obtain rfl := Option.some.inj (show some _ = some x from hx); exact ⟨PySem.W.mg_of X G a22, k22⟩
      | 23, hx, _ => obtain rfl := Option.some.inj (show some _ = some x from hx); exact ⟨PySem.W.mg_of X G a23, k23⟩
      | 24, hx, _ => obtain rfl := Option.some.inj (show some _ = some x from hx); exact ⟨PySem.W.mg_of X G a24, k24⟩
      | 25, hx, _ => obtain rfl := Option.some.inj (show some _ = some x from hx); exact ⟨PySem.W.mg_of X G a25, k25⟩
      | 26, hx, _ => obtain rfl := Option.some.inj (show some _ = some x from hx); exact ⟨PySem.W.mg_of X G a26, k26⟩
      | 27, _, hf => exact absurd hf (by decide)
      | 28, hx, _ => obtain rfl := Option.some.inj (show some _ = some x from hx); exact ⟨PySem.W.mg_of X G a28, k28⟩
      | 29, hx, _ => obtain rfl := Option.some.inj (show some _ = some x from hx); exact ⟨PySem.W.mg_of X G a29, k29⟩
      | 30, hx, _ => obtain rfl := Option.some.inj (show some _ = some x from hx); exact ⟨PySem.W.mg_of X G a30, k30⟩
      | 31, hx, _ => obtain rfl := Option.some.inj (show some _ = some x from hx); exact ⟨PySem.W.mg_of X G a31, k31⟩
      | 32, hx, _ => obtain rfl := Option.some.inj (show some _ = some x from hx); exact ⟨PySem.W.mg_of X G a32, k32⟩
      | 33, hx, _ => obtain rfl := Option.some.inj (show some _ = some x from hx); exact ⟨PySem.W.mg_of X G a33, k33⟩
      | 34, hx, _ => obtain rfl := Option.some.inj (show some _ = some x from hx); exact ⟨PySem.W.mg_of X G a34, k34⟩
      | 35, hx, _ => obtain rfl := Option.some.inj (show some _ = some x from hx); exact ⟨PySem.W.mg_of X G a35, k35⟩
      | 36, hx, _ => obtain rfl := Option.some.inj (show some _ = some x from hx); exact ⟨PySem.W.mg_of X G a36, k36⟩
      | 37, hx, _ => obtain rfl := Option.some.inj (show some _ = some x from hx); exact ⟨PySem.W.mg_of X G a37, k37⟩
      | 38, _, hf => exact absurd hf (by decide)
      | 39, _, hf => exact absurd hf (by decide)
      | 40, _, hf => exact absurd hf (by decide)
      | 41, _, hf => exact absurd hf (by decide)
      | n + 42, hx, _ => simp [fnames] at hx
    · intro x hx _
      have hx := List.contains_iff_mem.mp hx
      simp only [ct, List.mem_cons, List.not_mem_nil, or_false] at hx
      rcases hx with rfl | rfl | rfl | rfl
      · exact ⟨cl, n_weak⟩
      · exact ⟨cl, n_pieces⟩
      · exact ⟨cl, n_many⟩
      · exact ⟨cl, n_joints⟩
    · intro k x f hx
      have hx := List.contains_iff_mem.mp hx
      simp only [ct, List.mem_cons, List.not_mem_nil, or_false, Prod.mk.injEq] at hx
      rcases hx with ⟨rfl, rfl, rfl⟩ | ⟨rfl, rfl, rfl⟩
      · exact ⟨cl, ⟨p40, a40, g40, t40, q40, r40⟩, _, rfl⟩
      · exact ⟨cl, ⟨p41, a41, g41, t41, q41, r41⟩, _, rfl⟩
    · intro k x f hx
      have hx := List.contains_iff_mem.mp hx
      simp only [ct, List.mem_cons, List.not_mem_nil, or_false, Prod.mk.injEq] at hx
      obtain ⟨rfl, rfl, rfl⟩ := hx
      exact ⟨⟨mk, a27, i27, kc⟩, PySem.W.mg_of X G aC, _, rfl⟩
    · intro k x y i hx
      have hx := List.contains_iff_mem.mp hx
      simp only [ct, List.mem_cons, List.not_mem_nil, or_false, Prod.mk.injEq] at hx
      rcases hx with ⟨rfl, rfl, rfl, rfl⟩ | ⟨rfl, rfl, rfl, rfl⟩
      · exact ⟨by decide, PySem.W.mg_of X G aC, .type "type", _, ⟨rd, ga⟩, m_MAX_PLACES, ⟨_, rfl⟩⟩
      · exact ⟨by decide, PySem.W.mg_of X G aC, .type "type", _, ⟨rd, ga⟩, m_MAX_PASSAGES, ⟨_, rfl⟩⟩
    · intro k x f hx
      have hx := List.contains_iff_mem.mp hx
      simp only [ct, List.mem_cons, List.not_mem_nil, or_false, Prod.mk.injEq] at hx
      rcases hx with ⟨rfl, rfl, rfl⟩
      · exact ⟨cl, ⟨a39, i39, k39⟩, _, rfl⟩
    · intro k f hx
      have hx := List.contains_iff_mem.mp hx
      simp only [ct, List.mem_cons, List.not_mem_nil, or_false, Prod.mk.injEq] at hx
      obtain ⟨rfl, rfl⟩ := hx
      exact ⟨⟨a38, i38, k38⟩, _, rfl⟩
    · intro f x hx
      have hx := List.contains_iff_mem.mp hx
      simp only [ct, List.mem_cons, List.not_mem_nil, or_false, Prod.mk.injEq] at hx
      rcases hx with ⟨rfl, rfl⟩
      · exact ⟨PySem.W.mg_of X G a42, k42⟩
  have all : ∀ k, Lvl l.prog w kk mg base fnames (callN fns WW k) k ∧ LvlG l.prog w kk mg base ct (callN fns WW k) k := by
    refine lvl_all (fun f x hx => ?_) (fun f x hx => ?_)
    · match f, hx with
      | 0, _ => exact fun k L LG => def_ok (K := kk) (f := 0) (F := f_is_integer) (ps := ["value"]) rfl rfl rfl sc_is_integer rfl b_is_integer hm F0 (fun _ _ _ _ _ _ us hl => match us, hl with | [_], _ => rfl) rfl L LG
      | 1, _ => exact fun k L LG => def_ok (K := kk) (f := 1) (F := f_is_below) (ps := ["value", "limit"]) rfl rfl rfl sc_is_below rfl b_is_below hm F1 (fun _ _ _ _ _ _ us hl => match us, hl with | [_, _], _ => rfl) rfl L LG
      | 2, _ => exact fun k L LG => def_ok (K := kk) (f := 2) (F := f_is_passage) (ps := ["value", "places"]) rfl rfl rfl sc_is_passage rfl b_is_passage hm F2 (fun _ _ _ _ _ _ us hl => match us, hl with | [_, _], _ => rfl) rfl L LG
      | 3, _ => exact fun k L LG => def_ok (K := kk) (f := 3) (F := f_reached_places) (ps := ["passages", "place", "without"]) rfl rfl rfl sc_reached_places rfl b_reached_places hm F3 (fun _ _ _ _ _ _ us hl => match us, hl with | [_, _, _], _ => rfl) rfl L LG
      | 4, _ => exact fun k L LG => def_ok (K := kk) (f := 4) (F := f_problem_of) (ps := ["places", "passages", "most_places", "most_passages"]) rfl rfl rfl sc_problem_of rfl b_problem_of hm F4 (fun _ _ _ _ _ _ us hl => match us, hl with | [_, _, _, _], _ => rfl) rfl L LG
      | 5, _ => exact fun k L LG => def_ok (K := kk) (f := 5) (F := f__law_mixed) (ps := ["_law_cell", "_law_n"]) rfl rfl rfl sc__law_mixed rfl b__law_mixed hm F5 (fun _ _ _ _ _ _ us hl => match us, hl with | [_, _], _ => rfl) rfl L LG
      | 6, _ => exact fun k L LG => def_ok (K := kk) (f := 6) (F := f__law_folded) (ps := ["_law_script"]) rfl rfl rfl sc__law_folded rfl b__law_folded hm F6 (fun _ _ _ _ _ _ us hl => match us, hl with | [_], _ => rfl) rfl L LG
      | 7, _ => exact fun k L LG => def_ok (K := kk) (f := 7) (F := f__law_draw) (ps := ["_law_m", "_law_top_here"]) rfl rfl rfl sc__law_draw rfl b__law_draw hm F7 (fun _ _ _ _ _ _ us hl => match us, hl with | [_, _], _ => rfl) rfl L LG
      | 8, _ => exact fun k L LG => def_ok (K := kk) (f := 8) (F := f__law_begun) (ps := ["_law_script"]) rfl rfl rfl sc__law_begun rfl b__law_begun hm F8 (fun _ _ _ _ _ _ us hl => match us, hl with | [_], _ => rfl) rfl L LG
      | 9, _ => exact fun k L LG => def_ok (K := kk) (f := 9) (F := f__law_mixed_up) (ps := ["_law_m", "_law_things"]) rfl rfl rfl sc__law_mixed_up rfl b__law_mixed_up hm F9 (fun _ _ _ _ _ _ us hl => match us, hl with | [_, _], _ => rfl) rfl L LG
      | 10, _ => exact fun k L LG => def_ok (K := kk) (f := 10) (F := f__law_tie) (ps := ["_law_one", "_law_far"]) rfl rfl rfl sc__law_tie rfl b__law_tie hm F10 (fun _ _ _ _ _ _ us hl => match us, hl with | [_, _], _ => rfl) rfl L LG
      | 11, _ => exact fun k L LG => def_ok (K := kk) (f := 11) (F := f__law_tree) (ps := ["_law_m", "_law_many", "_law_low"]) rfl rfl rfl sc__law_tree rfl b__law_tree hm F11 (fun _ _ _ _ _ _ us hl => match us, hl with | [_, _, _], _ => rfl) rfl L LG
      | 12, _ => exact fun k L LG => def_ok (K := kk) (f := 12) (F := f__law_ring) (ps := ["_law_spots"]) rfl rfl rfl sc__law_ring rfl b__law_ring hm F12 (fun _ _ _ _ _ _ us hl => match us, hl with | [_], _ => rfl) rfl L LG
      | 13, _ => exact fun k L LG => def_ok (K := kk) (f := 13) (F := f__law_core) (ps := ["_law_m"]) rfl rfl rfl sc__law_core rfl b__law_core hm F13 (fun _ _ _ _ _ _ us hl => match us, hl with | [_], _ => rfl) rfl L LG
      | 14, _ => exact fun k L LG => def_ok (K := kk) (f := 14) (F := f__law_shifted) (ps := ["_law_ties_here", "_law_low", "_law_hinge"]) rfl rfl rfl sc__law_shifted rfl b__law_shifted hm F14 (fun _ _ _ _ _ _ us hl => match us, hl with | [_, _, _], _ => rfl) rfl L LG
      | 15, _ => exact fun k L LG => def_ok (K := kk) (f := 15) (F := f__law_top) (ps := ["_law_ties_here"]) rfl rfl rfl sc__law_top rfl b__law_top hm F15 (fun _ _ _ _ _ _ us hl => match us, hl with | [_], _ => rfl) rfl L LG
      | 16, _ => exact fun k L LG => def_ok (K := kk) (f := 16) (F := f__law_renamed) (ps := ["_law_m", "_law_many", "_law_ties_here"]) rfl rfl rfl sc__law_renamed rfl b__law_renamed hm F16 (fun _ _ _ _ _ _ us hl => match us, hl with | [_, _, _], _ => rfl) rfl L LG
      | 17, _ => exact fun k L LG => def_ok (K := kk) (f := 17) (F := f__law_ties) (ps := ["_law_m", "_law_cores", "_law_tails", "_law_more"]) rfl rfl rfl sc__law_ties rfl b__law_ties hm F17 (fun _ _ _ _ _ _ us hl => match us, hl with | [_, _, _, _], _ => rfl) rfl L LG
      | 18, _ => exact fun k L LG => def_ok (K := kk) (f := 18) (F := f__law_doors) (ps := ["_law_ties_here", "_law_here"]) rfl rfl rfl sc__law_doors rfl b__law_doors hm F18 (fun _ _ _ _ _ _ us hl => match us, hl with | [_, _], _ => rfl) rfl L LG
      | 19, _ => exact fun k L LG => def_ok (K := kk) (f := 19) (F := f_is_permutation) (ps := ["value"]) rfl rfl rfl sc_is_permutation rfl b_is_permutation hm F19 (fun _ _ _ _ _ _ us hl => match us, hl with | [_], _ => rfl) rfl L LG
      | 20, _ => exact fun k L LG => def_ok (K := kk) (f := 20) (F := f_check_state) (ps := ["network", "state"]) rfl rfl rfl sc_check_state rfl b_check_state hm F20 (fun _ _ _ _ _ _ us hl => match us, hl with | [_, _], _ => rfl) rfl L LG
      | 21, _ => exact fun k L LG => def_ok (K := kk) (f := 21) (F := f_is_step) (ps := ["network", "place", "passage"]) rfl rfl rfl sc_is_step rfl b_is_step hm F21 (fun _ _ _ _ _ _ us hl => match us, hl with | [_, _, _], _ => rfl) rfl L LG
      | 22, _ => exact fun k L LG => def_ok (K := kk) (f := 22) (F := f_stepped) (ps := ["network", "state", "passage"]) rfl rfl rfl sc_stepped rfl b_stepped hm F22 (fun _ _ _ _ _ _ us hl => match us, hl with | [_, _, _], _ => rfl) rfl L LG
      | 23, _ => exact fun k L LG => def_star (K := kk) (f := 23) (F := f_after) (pv := "steps") (ps := ["network", "state"]) rfl rfl rfl sc_after rfl b_after hm F23 (fun _ _ _ _ _ _ us rest hl => match us, hl with | [_, _], _ => by cases rest <;> rfl) rfl L LG
      | 24, _ => exact fun k L LG => def_star (K := kk) (f := 24) (F := f_back) (pv := "steps") (ps := []) rfl rfl rfl sc_back rfl b_back hm F24 (fun _ _ _ _ _ _ us rest hl => match us, hl with | [], _ => by cases rest <;> rfl) rfl L LG
      | 25, _ => exact fun k L LG => def_star (K := kk) (f := 25) (F := f_reduced) (pv := "steps") (ps := []) rfl rfl rfl sc_reduced rfl b_reduced hm F25 (fun _ _ _ _ _ _ us rest hl => match us, hl with | [], _ => by cases rest <;> rfl) rfl L LG
      | 26, _ => exact fun k L LG => def_ok (K := kk) (f := 26) (F := f_law) (ps := ["_law_script"]) rfl rfl rfl sc_law rfl b_law hm F26 (fun _ _ _ _ _ _ us hl => match us, hl with | [_], _ => rfl) rfl L LG
      | 27, _ => exact fun k L LG => def_ok (K := kk) (f := 27) (F := f_Network___init__) (ps := ["self", "places", "passages"]) rfl rfl rfl sc_Network___init__ rfl b_Network___init__ hm F27 (fun _ _ _ _ _ _ us hl => match us, hl with | [_, _, _], _ => rfl) rfl L LG
      | 28, _ => exact fun k L LG => def_ok (K := kk) (f := 28) (F := f__law_moved) (ps := ["_law_ties_here", "_law_here", "_law_things", "_law_at"]) rfl rfl rfl sc__law_moved rfl b__law_moved hm F28 (fun _ _ _ _ _ _ us hl => match us, hl with | [_, _, _, _], _ => rfl) rfl L LG
      | 29, _ => exact fun k L LG => def_ok (K := kk) (f := 29) (F := f__law_after) (ps := ["_law_ties_here", "_law_base", "_law_road_here"]) rfl rfl rfl sc__law_after rfl b__law_after hm F29 (fun _ _ _ _ _ _ us hl => match us, hl with | [_, _, _], _ => rfl) rfl L LG
      | 30, _ => exact fun k L LG => def_ok (K := kk) (f := 30) (F := f__law_road) (ps := ["_law_m", "_law_ties_here", "_law_here", "_law_many"]) rfl rfl rfl sc__law_road rfl b__law_road hm F30 (fun _ _ _ _ _ _ us hl => match us, hl with | [_, _, _, _], _ => rfl) rfl L LG
      | 31, _ => exact fun k L LG => def_ok (K := kk) (f := 31) (F := f__law_passed) (ps := ["_law_net", "_law_state_there", "_law_road_here"]) rfl rfl rfl sc__law_passed rfl b__law_passed hm F31 (fun _ _ _ _ _ _ us hl => match us, hl with | [_, _, _], _ => rfl) rfl L LG
      | 32, _ => exact fun k L LG => def_ok (K := kk) (f := 32) (F := f__law_backed) (ps := ["_law_road_here"]) rfl rfl rfl sc__law_backed rfl b__law_backed hm F32 (fun _ _ _ _ _ _ us hl => match us, hl with | [_], _ => rfl) rfl L LG
      | 33, _ => exact fun k L LG => def_ok (K := kk) (f := 33) (F := f__law_cut) (ps := ["_law_road_here"]) rfl rfl rfl sc__law_cut rfl b__law_cut hm F33 (fun _ _ _ _ _ _ us hl => match us, hl with | [_], _ => rfl) rfl L LG
      | 34, _ => exact fun k L LG => def_ok (K := kk) (f := 34) (F := f__law_bare) (ps := ["_law_road_here"]) rfl rfl rfl sc__law_bare rfl b__law_bare hm F34 (fun _ _ _ _ _ _ us hl => match us, hl with | [_], _ => rfl) rfl L LG
      | 35, _ => exact fun k L LG => def_ok (K := kk) (f := 35) (F := f__law_row) (ps := ["_law_m"]) rfl rfl rfl sc__law_row rfl b__law_row hm F35 (fun _ _ _ _ _ _ us hl => match us, hl with | [_], _ => rfl) rfl L LG
      | 36, _ => exact fun k L LG => def_ok (K := kk) (f := 36) (F := f__law_right) (ps := ["_law_road_here"]) rfl rfl rfl sc__law_right rfl b__law_right hm F36 (fun _ _ _ _ _ _ us hl => match us, hl with | [_], _ => rfl) rfl L LG
      | 37, _ => exact fun k L LG => def_ok (K := kk) (f := 37) (F := f__law_walk_right) (ps := ["_law_m", "_law_net", "_law_ties_here"]) rfl rfl rfl sc__law_walk_right rfl b__law_walk_right hm F37 (fun _ _ _ _ _ _ us hl => match us, hl with | [_, _, _], _ => rfl) rfl L LG
      | 38, _ => exact fun k L LG => def_ok (K := kk) (f := 38) (F := f_Network___len__) (ps := ["self"]) rfl rfl rfl sc_Network___len__ rfl b_Network___len__ hm F38 (fun _ _ _ _ _ _ us hl => match us, hl with | [_], _ => rfl) rfl L LG
      | 39, _ => exact fun k L LG => def_ok (K := kk) (f := 39) (F := f_Network_far_end) (ps := ["self", "passage", "place"]) rfl rfl rfl sc_Network_far_end rfl b_Network_far_end hm F39 (fun _ _ _ _ _ _ us hl => match us, hl with | [_, _, _], _ => rfl) rfl L LG
      | 40, _ => exact fun k L LG => def_ok (K := kk) (f := 40) (F := f_Network_places) (ps := ["self"]) rfl rfl rfl sc_Network_places rfl b_Network_places hm F40 (fun _ _ _ _ _ _ us hl => match us, hl with | [_], _ => rfl) rfl L LG
      | 41, _ => exact fun k L LG => def_ok (K := kk) (f := 41) (F := f_Network_passages) (ps := ["self"]) rfl rfl rfl sc_Network_passages rfl b_Network_passages hm F41 (fun _ _ _ _ _ _ us hl => match us, hl with | [_], _ => rfl) rfl L LG
      | n + 42, hx => simp [fnames] at hx
    · have hx := List.contains_iff_mem.mp hx
      simp only [ct, List.mem_cons, List.not_mem_nil, or_false, Prod.mk.injEq] at hx
      rcases hx with ⟨rfl, rfl⟩
      · exact fun k L LG => gen_star (K := kk) (f := 42) (F := f_trace) (b := g_trace) (pv := "steps") (ps := ["network", "state"]) rfl rfl rfl sc_trace rfl b_trace hm F42 (fun _ _ _ _ _ _ us rest hl => match us, hl with | [_, _], _ => by cases rest <;> rfl) (fun _ _ _ => rfl) rfl L LG
  exact law_ok (K := kk) (f := 26) ((all 12).1 26 _ rfl) H
end DI.Law

set_option Elab.async false
set_option linter.all false
set_option maxRecDepth 100000
set_option maxHeartbeats 1000000
/-! networks: plain facts about what is joined -/
namespace DI.Law
abbrev Ed := List (Nat × Nat)
/-- joined by a passage that is not left out -/
def adj (ps : Ed) (w : List Nat) (x y : Nat) : Prop := ∃ i, i ∉ w ∧ (ps[i]? = some (x, y) ∨ ps[i]? = some (y, x))
inductive Cn (E : Nat → Nat → Prop) (a : Nat) : Nat → Prop
  | refl : Cn E a a
  | step {b c : Nat} : Cn E a b → E b c → Cn E a c
section
variable {E E' : Nat → Nat → Prop} {a b c : Nat}
theorem Cn.trans (h : Cn E a b) (k : Cn E b c) : Cn E a c := by
  induction k with
  | refl => exact h
  | step _ e ih => exact ih.step e
theorem Cn.one (e : E a b) : Cn E a b := Cn.refl.step e
theorem Cn.symm (hs : ∀ x y, E x y → E y x) (h : Cn E a b) : Cn E b a := by
  induction h with
  | refl => exact .refl
  | step _ e ih => exact (Cn.one (hs _ _ e)).trans ih
theorem Cn.map (f : Nat → Nat) (hm : ∀ x y, E x y → Cn E' (f x) (f y)) (h : Cn E a b) : Cn E' (f a) (f b) := by
  induction h with
  | refl => exact .refl
  | step _ e ih => exact ih.trans (hm _ _ e)
theorem Cn.imp (hm : ∀ x y, E x y → E' x y) (h : Cn E a b) : Cn E' a b := h.map id fun x y e => Cn.one (hm x y e)
end
theorem adj_symm {ps : Ed} {w : List Nat} (x y : Nat) (h : adj ps w x y) : adj ps w y x := by
  obtain ⟨i, hi, h⟩ := h
  exact ⟨i, hi, h.symm⟩
theorem adj_mono {ps : Ed} {w v : List Nat} (h : ∀ i ∈ w, i ∈ v) (x y : Nat) (k : adj ps v x y) : adj ps w x y := by
  obtain ⟨i, hi, k⟩ := k
  exact ⟨i, fun e => hi (h i e), k⟩
def Valid (n : Nat) (ps : Ed) : Prop := ∀ p ∈ ps, p.1 < n ∧ p.2 < n
theorem adj_lt {n : Nat} {ps : Ed} {w : List Nat} (hv : Valid n ps) {x y : Nat} (h : adj ps w x y) : x < n ∧ y < n := by
  obtain ⟨i, _, h | h⟩ := h
  · exact hv _ (List.mem_of_getElem? h)
  · exact (hv _ (List.mem_of_getElem? h)).symm
theorem Cn.lt {n : Nat} {ps : Ed} {w : List Nat} (hv : Valid n ps) {a b : Nat} (ha : a < n) (h : Cn (adj ps w) a b) : b < n := by
  cases h with
  | refl => exact ha
  | step _ e => exact (adj_lt hv e).2
/-! ### the places that are found -/
def gr1 (w f : List Nat) (i : Nat) (p : Nat × Nat) : List Nat := if i ∉ w ∧ ¬ (p.1 ∈ f ↔ p.2 ∈ f) then f ++ [if p.1 ∈ f then p.2 else p.1] else f
def gro (ps : Ed) (w f : List Nat) : Nat → List Nat
  | 0 => f
  | k + 1 => gr1 w (gro ps w f k) k (ps.getD k (0, 0))
structure Inv (ps : Ed) (w : List Nat) (a : Nat) (f : List Nat) : Prop where
  st : a ∈ f
  nd : f.Nodup
  rc : ∀ x ∈ f, Cn (adj ps w) a x
def Closed (ps : Ed) (w f : List Nat) : Prop := ∀ i p, i ∉ w → ps[i]? = some p → (p.1 ∈ f ↔ p.2 ∈ f)
theorem Inv.push {ps : Ed} {w : List Nat} {a : Nat} {f : List Nat} (h : Inv ps w a f) {x y : Nat} (hx : x ∈ f) (e : adj ps w x y) (hy : y ∉ f) : Inv ps w a (f ++ [y]) where
  st := List.mem_append_left _ h.st
  nd := List.nodup_append.mpr ⟨h.nd, by simp, fun u hu v hv e => by
    rw [List.mem_singleton.mp hv] at e
    exact hy (e ▸ hu)⟩
  rc := fun z hz => by
    rcases List.mem_append.mp hz with hz | hz
    · exact h.rc z hz
    · rw [List.mem_singleton.mp hz]
      exact (h.rc x hx).step e
theorem gr1_inv {ps : Ed} {w : List Nat} {a : Nat} {f : List Nat} {i : Nat} {p : Nat × Nat} (hp : ps[i]? = some p) (h : Inv ps w a f) : Inv ps w a (gr1 w f i p) := by
  unfold gr1
  split
  · rename_i hc
    by_cases h1 : p.1 ∈ f
    · rw [if_pos h1]
      exact h.push h1 ⟨i, hc.1, .inl hp⟩ fun h2 => hc.2 ⟨fun _ => h2, fun _ => h1⟩
    · rw [if_neg h1]
      have h2 : p.2 ∈ f := Classical.byContradiction fun h2 => hc.2 ⟨fun h => absurd h h1, fun h => absurd h h2⟩
      exact h.push h2 ⟨i, hc.1, .inr hp⟩ h1
  · exact h
theorem gr1_len (w f : List Nat) (i : Nat) (p : Nat × Nat) : f.length ≤ (gr1 w f i p).length := by
  unfold gr1
  split
  · simp
  · exact Nat.le_refl _
theorem gr1_le (w f : List Nat) (i : Nat) (p : Nat × Nat) : (gr1 w f i p).length ≤ f.length + 1 := by
  unfold gr1
  split
  · simp
  · omega
theorem gr1_eq {w f : List Nat} {i : Nat} {p : Nat × Nat} (h : (gr1 w f i p).length = f.length) : gr1 w f i p = f ∧ (i ∉ w → (p.1 ∈ f ↔ p.2 ∈ f)) := by
  unfold gr1 at h ⊢
  split at h
  · simp at h
  · rename_i hc
    rw [if_neg hc]
    exact ⟨rfl, fun hi => Classical.byContradiction fun g => hc ⟨hi, g⟩⟩
theorem gro_len (ps : Ed) (w f : List Nat) : ∀ k, f.length ≤ (gro ps w f k).length
  | 0 => Nat.le_refl _
  | k + 1 => Nat.le_trans (gro_len ps w f k) (gr1_len _ _ _ _)
theorem getD_get {ps : Ed} {k : Nat} (h : k < ps.length) : ps[k]? = some (ps.getD k (0, 0)) := by
  rw [List.getD_eq_getElem?_getD, List.getElem?_eq_getElem h]
  rfl
theorem gro_inv {ps : Ed} {w : List Nat} {a : Nat} {f : List Nat} (h : Inv ps w a f) : ∀ k, k ≤ ps.length → Inv ps w a (gro ps w f k)
  | 0, _ => h
  | k + 1, hk => gr1_inv (getD_get hk) (gro_inv h k (by omega))
theorem gro_same {ps : Ed} {w f : List Nat} : ∀ k, (gro ps w f k).length = f.length → gro ps w f k = f ∧ ∀ i, i < k → i ∉ w → ((ps.getD i (0, 0)).1 ∈ f ↔ (ps.getD i (0, 0)).2 ∈ f)
  | 0, _ => ⟨rfl, fun i h => absurd h (by omega)⟩
  | k + 1, h => by
    have l1 := gro_len ps w f k
    have l2 : (gro ps w f k).length ≤ (gro ps w f (k + 1)).length := gr1_len _ _ _ _
    obtain ⟨e, c⟩ := gro_same (ps := ps) (w := w) (f := f) k (by omega)
    have e1 : gro ps w f (k + 1) = gr1 w (gro ps w f k) k (ps.getD k (0, 0)) := rfl
    rw [e1, e] at h
    obtain ⟨e2, c2⟩ := gr1_eq h
    refine ⟨by rw [e1, e, e2], fun i hi => ?_⟩
    by_cases hk : i = k
    · subst hk; exact c2
    · exact c i (by omega)
theorem gro_closed {ps : Ed} {w f : List Nat} (h : (gro ps w f ps.length).length = f.length) : gro ps w f ps.length = f ∧ Closed ps w f := by
  obtain ⟨e, c⟩ := gro_same _ h
  refine ⟨e, fun i p hi hp => ?_⟩
  have hl := (List.getElem?_eq_some_iff.mp hp).1
  have := c i hl hi
  rw [getD_get hl] at hp
  injection hp with hp
  rw [hp] at this
  exact this
theorem closed_gro {ps : Ed} {w f : List Nat} (h : Closed ps w f) : ∀ k, k ≤ ps.length → gro ps w f k = f
  | 0, _ => rfl
  | k + 1, hk => by
    have e1 : gro ps w f (k + 1) = gr1 w (gro ps w f k) k (ps.getD k (0, 0)) := rfl
    rw [e1, closed_gro h k (by omega)]
    exact if_neg fun ⟨a, b⟩ => b (h k _ a (getD_get hk))
theorem closed_mem {ps : Ed} {w : List Nat} {a : Nat} {f : List Nat} (h : Inv ps w a f) (hc : Closed ps w f) (x : Nat) : x ∈ f ↔ Cn (adj ps w) a x := by
  refine ⟨h.rc x, fun k => ?_⟩
  induction k with
  | refl => exact h.st
  | step _ e ih =>
    obtain ⟨i, hi, e | e⟩ := e
    · exact (hc i _ hi e).mp ih
    · exact (hc i _ hi e).mpr ih
theorem nodup_bnd : ∀ (n : Nat) (p : List Nat), p.Nodup → (∀ x ∈ p, x < n) → p.length ≤ n
  | 0, [], _, _ => Nat.le_refl _
  | 0, x :: p, _, h => absurd (h x List.mem_cons_self) (by omega)
  | n + 1, p, hn, h => by
    by_cases hm : n ∈ p
    · have z := nodup_bnd n (p.erase n) (hn.erase n) fun x hx => by
        have h1 := h x (List.mem_of_mem_erase hx)
        have h2 : x ≠ n := fun e => by
          subst e
          exact (List.Nodup.not_mem_erase hn) hx
        omega
      rw [List.length_erase_of_mem hm] at z
      omega
    · have z := nodup_bnd n p hn fun x hx => by
        have h1 := h x hx
        have h2 : x ≠ n := fun e => hm (by rw [← e]; exact hx)
        omega
      omega
theorem Inv.len {n : Nat} {ps : Ed} {w : List Nat} {a : Nat} {f : List Nat} (hv : Valid n ps) (ha : a < n) (h : Inv ps w a f) : f.length ≤ n := nodup_bnd n f h.nd fun x hx => (h.rc x hx).lt hv ha
theorem inv_one (ps : Ed) (w : List Nat) (a : Nat) : Inv ps w a [a] := ⟨List.mem_singleton_self a, by simp, fun x hx => by rw [List.mem_singleton.mp hx]; exact .refl⟩
def rnd (ps : Ed) (w f : List Nat) : Nat → List Nat
  | 0 => f
  | k + 1 => gro ps w (rnd ps w f k) ps.length
theorem rnd_inv {ps : Ed} {w : List Nat} {a : Nat} {f : List Nat} (h : Inv ps w a f) : ∀ k, Inv ps w a (rnd ps w f k)
  | 0 => h
  | k + 1 => gro_inv (rnd_inv h k) _ (Nat.le_refl _)
theorem rnd_grow (ps : Ed) (w : List Nat) (a : Nat) : ∀ k, Closed ps w (rnd ps w [a] k) ∨ k + 1 ≤ (rnd ps w [a] k).length
  | 0 => .inr (by simp [rnd])
  | k + 1 => by
    have e : rnd ps w [a] (k + 1) = gro ps w (rnd ps w [a] k) ps.length := rfl
    rcases rnd_grow ps w a k with h | h
    · left
      rw [e, closed_gro h _ (Nat.le_refl _)]
      exact h
    · by_cases hl : (gro ps w (rnd ps w [a] k) ps.length).length = (rnd ps w [a] k).length
      · left
        obtain ⟨e1, c⟩ := gro_closed hl
        rw [e, e1]
        exact c
      · right
        have := gro_len ps w (rnd ps w [a] k) ps.length
        rw [e]
        omega
theorem rnd_closed {n : Nat} {ps : Ed} (w : List Nat) {a : Nat} (hv : Valid n ps) (ha : a < n) : Closed ps w (rnd ps w [a] n) := by
  rcases rnd_grow ps w a n with h | h
  · exact h
  · have := (rnd_inv (inv_one ps w a) n).len hv ha
    omega
/-! ### the set of places that are joined to a place -/
section
open Classical
noncomputable def Rc (n : Nat) (ps : Ed) (w : List Nat) (a : Nat) : List Nat := (List.range n).filter fun b => decide (Cn (adj ps w) a b)
theorem mem_Rc {n : Nat} {ps : Ed} {w : List Nat} {a b : Nat} : b ∈ Rc n ps w a ↔ b < n ∧ Cn (adj ps w) a b := by
  unfold Rc
  rw [List.mem_filter, List.mem_range, decide_eq_true_iff]
theorem Rc_asc (n : Nat) (ps : Ed) (w : List Nat) (a : Nat) : (Rc n ps w a).Pairwise (· < ·) := List.pairwise_lt_range.filter _
theorem Rc_nodup (n : Nat) (ps : Ed) (w : List Nat) (a : Nat) : (Rc n ps w a).Nodup := List.nodup_range.filter _
theorem found_perm {n : Nat} {ps : Ed} {w : List Nat} {a : Nat} {f : List Nat} (hv : Valid n ps) (ha : a < n) (h : Inv ps w a f) (hc : Closed ps w f) : f.Perm (Rc n ps w a) :=
  (List.perm_ext_iff_of_nodup h.nd (Rc_nodup n ps w a)).mpr fun x => by
    rw [mem_Rc, closed_mem h hc]
    exact ⟨fun k => ⟨k.lt hv ha, k⟩, fun k => k.2⟩
/-- all places are joined -/
def Con (n : Nat) (ps : Ed) (w : List Nat) : Prop := ∀ b, b < n → Cn (adj ps w) 0 b
theorem Rc_con {n : Nat} {ps : Ed} {w : List Nat} : (Rc n ps w 0).length = n ↔ Con n ps w := by
  constructor
  · intro h b hb
    have e : Rc n ps w 0 = List.range n := (List.filter_sublist (l := List.range n)).eq_of_length (by rw [List.length_range]; exact h)
    have : b ∈ Rc n ps w 0 := by rw [e]; exact List.mem_range.mpr hb
    exact (mem_Rc.mp this).2
  · intro h
    have e : Rc n ps w 0 = List.range n := List.filter_eq_self.mpr fun b hb => decide_eq_true (h b (List.mem_range.mp hb))
    rw [e, List.length_range]
theorem Rc_le {n : Nat} {ps : Ed} {w : List Nat} {a : Nat} : (Rc n ps w a).length ≤ n := by
  have := List.length_filter_le (fun b => decide (Cn (adj ps w) a b)) (List.range n)
  rw [List.length_range] at this
  exact this
/-- the bridges -/
noncomputable def weak (n : Nat) (ps : Ed) : List Nat := (List.range ps.length).filter fun i => decide (¬ Con n ps [i])
theorem mem_weak {n : Nat} {ps : Ed} {i : Nat} : i ∈ weak n ps ↔ i < ps.length ∧ ¬ Con n ps [i] := by
  unfold weak
  rw [List.mem_filter, List.mem_range, decide_eq_true_iff]
def Root (E : Nat → Nat → Prop) (a : Nat) : Prop := ∀ b, Cn E a b → a ≤ b
noncomputable def roots (n : Nat) (E : Nat → Nat → Prop) : List Nat := (List.range n).filter fun a => decide (Root E a)
theorem mem_roots {n : Nat} {E : Nat → Nat → Prop} {a : Nat} : a ∈ roots n E ↔ a < n ∧ Root E a := by
  unfold roots
  rw [List.mem_filter, List.mem_range, decide_eq_true_iff]
noncomputable def cellsP (n : Nat) (ps : Ed) : List (List Nat) := (roots n (adj ps (weak n ps))).map (Rc n ps (weak n ps))
end
theorem conn_all {n : Nat} {ps : Ed} {w : List Nat} (h : Con n ps w) {a b : Nat} (ha : a < n) (hb : b < n) : Cn (adj ps w) a b := ((h a ha).symm adj_symm).trans (h b hb)
theorem asc_ext {l m : List Nat} (hl : l.Pairwise (· < ·)) (hm : m.Pairwise (· < ·)) (h : ∀ x, x ∈ l ↔ x ∈ m) : l = m := by
  have nl : l.Nodup := hl.imp fun h => by omega
  have nm : m.Nodup := hm.imp fun h => by omega
  exact List.Perm.eq_of_pairwise (le := (· < ·)) (fun a b _ _ h1 h2 => by omega) hl hm ((List.perm_ext_iff_of_nodup nl nm).mpr h)
/-- the first of the places that are joined to a place -/
theorem Rc_head {n : Nat} {ps : Ed} {w : List Nat} {a : Nat} (ha : a < n) : ∃ h r, Rc n ps w a = h :: r ∧ h ≤ a ∧ (h = a ↔ Root (adj ps w) a) ∧ ∀ x ∈ Rc n ps w a, h ≤ x := by
  have hm : a ∈ Rc n ps w a := mem_Rc.mpr ⟨ha, .refl⟩
  have hasc := Rc_asc n ps w a
  cases e : Rc n ps w a with
  | nil => rw [e] at hm; cases hm
  | cons h r =>
    rw [e] at hm hasc
    have hs : ∀ x ∈ h :: r, h ≤ x := fun x hx => by
      rcases List.mem_cons.mp hx with rfl | hx
      · exact Nat.le_refl _
      · have := (List.pairwise_cons.mp hasc).1 x hx
        omega
    refine ⟨h, r, rfl, hs a hm, ⟨fun he b hb => ?_, fun hr => ?_⟩, hs⟩
    · by_cases hbn : b < n
      · have : b ∈ Rc n ps w a := mem_Rc.mpr ⟨hbn, hb⟩
        rw [e] at this
        rw [← he]
        exact hs b this
      · omega
    · have : h ∈ Rc n ps w a := by rw [e]; exact List.mem_cons_self
      have := hr h (mem_Rc.mp this).2
      have := hs a hm
      omega
end DI.Law

set_option Elab.async false
set_option linter.all false
set_option maxRecDepth 100000
set_option maxHeartbeats 1000000
/-! bridges and cells: the mathematics -/
namespace DI.Law
section
open Classical
theorem count_one (n t : Nat) (P P' : Nat → Bool) (ht : t < n) (hP : P t = false) (h : ∀ a, a < n → (P' a = true ↔ P a = true ∨ a = t)) : ((List.range n).filter P').length = ((List.range n).filter P).length + 1 := by
  induction n with
  | zero => omega
  | succ n ih =>
    rw [List.range_succ, List.filter_append, List.filter_append, List.length_append, List.length_append]
    by_cases hn : t = n
    · subst hn
      have e1 : (List.range t).filter P' = (List.range t).filter P := List.filter_congr fun a ha => by
        have hl := List.mem_range.mp ha
        have := h a (by omega)
        by_cases hp : P a = true
        · rw [hp]; exact this.mpr (.inl hp)
        · have : ¬ P' a = true := fun e => by
            rcases this.mp e with e | e
            · exact hp e
            · omega
          simp at hp this
          rw [hp, this]
      have e2 : P' t = true := (h t (by omega)).mpr (.inr rfl)
      rw [e1]
      simp [e2, hP]
    · have := ih (by omega) fun a ha => h a (by omega)
      rw [this]
      have e2 : P' n = P n := by
        have := h n (by omega)
        by_cases hp : P n = true
        · rw [hp]; exact this.mpr (.inl hp)
        · have : ¬ P' n = true := fun e => by
            rcases this.mp e with e | e
            · exact hp e
            · omega
          simp at hp this
          rw [hp, this]
      have e3 : [n].filter P' = [n].filter P := by simp [List.filter_cons, e2]
      rw [e3]
      omega
theorem root_of (E : Nat → Nat → Prop) (a : Nat) : ∃ r, Cn E a r ∧ ∀ b, Cn E a b → r ≤ b := by
  have z : ∀ n b, b ≤ n → Cn E a b → ∃ r, Cn E a r ∧ ∀ b, Cn E a b → r ≤ b := by
    intro n
    induction n with
    | zero => intro b hb h; exact ⟨b, h, fun c _ => by omega⟩
    | succ n ih =>
      intro b hb h
      by_cases hx : ∃ c, c ≤ n ∧ Cn E a c
      · obtain ⟨c, h1, h2⟩ := hx
        exact ih c h1 h2
      · refine ⟨b, h, fun c hc => ?_⟩
        by_cases h1 : c ≤ n
        · exact absurd ⟨c, h1, hc⟩ hx
        · omega
  exact z a a (Nat.le_refl _) .refl
/-- one passage more joins two parts -/
structure Joins (E E' : Nat → Nat → Prop) (u v : Nat) : Prop where
  s : ∀ x y, E x y → E y x
  s' : ∀ x y, E' x y → E' y x
  sub : ∀ x y, E' x y → E x y
  uv : E u v
  only : ∀ x y, E x y → E' x y ∨ (x = u ∧ y = v) ∨ (x = v ∧ y = u)
theorem Joins.swap {E E' : Nat → Nat → Prop} {u v : Nat} (h : Joins E E' u v) : Joins E E' v u := ⟨h.s, h.s', h.sub, h.s _ _ h.uv, fun x y e => by
  rcases h.only x y e with h | h | h
  · exact .inl h
  · exact .inr (.inr h)
  · exact .inr (.inl h)⟩
theorem Joins.cn {E E' : Nat → Nat → Prop} {u v : Nat} (h : Joins E E' u v) {a b : Nat} (k : Cn E a b) : Cn E' a b ∨ (Cn E' a u ∧ Cn E' v b) ∨ (Cn E' a v ∧ Cn E' u b) := by
  induction k with
  | refl => exact .inl .refl
  | @step b c _ e ih =>
    rcases h.only _ _ e with e | ⟨rfl, rfl⟩ | ⟨rfl, rfl⟩
    · rcases ih with ih | ⟨i1, i2⟩ | ⟨i1, i2⟩
      · exact .inl (ih.step e)
      · exact .inr (.inl ⟨i1, i2.step e⟩)
      · exact .inr (.inr ⟨i1, i2.step e⟩)
    · rcases ih with ih | ⟨i1, i2⟩ | ⟨i1, i2⟩
      · exact .inr (.inl ⟨ih, .refl⟩)
      · exact .inr (.inl ⟨i1, .refl⟩)
      · exact .inl i1
    · rcases ih with ih | ⟨i1, i2⟩ | ⟨i1, i2⟩
      · exact .inr (.inr ⟨ih, .refl⟩)
      · exact .inl i1
      · exact .inr (.inr ⟨i1, .refl⟩)
theorem roots_split' {n u v : Nat} {E E' : Nat → Nat → Prop} (h : Joins E E' u v) (hb : ∀ x y, E x y → x < n ∧ y < n) {ru rv : Nat} (h1 : Cn E' u ru) (h2 : ∀ b, Cn E' u b → ru ≤ b) (k1 : Cn E' v rv) (k2 : ∀ b, Cn E' v b → rv ≤ b) (hlt : ru < rv) : (roots n E').length = (roots n E).length + 1 := by
  have hbn : ∀ {a b}, a < n → Cn E' a b → b < n := fun {a b} ha k => by
    cases k with
    | refl => exact ha
    | step _ e => exact (hb _ _ (h.sub _ _ e)).2
  have hvn := (hb _ _ h.uv).2
  refine count_one n rv _ _ (hbn hvn k1) (decide_eq_false fun hr => ?_) fun a ha => ?_
  · have : Cn E rv ru := ((k1.symm h.s').imp h.sub).trans ((Cn.one (h.s _ _ h.uv)).trans (h1.imp h.sub))
    have := hr _ this
    omega
  · rw [decide_eq_true_iff, decide_eq_true_iff]
    constructor
    · intro hr
      by_cases hav : a = rv
      · exact .inr hav
      · refine .inl fun b kb => ?_
        rcases h.cn kb with k | ⟨i1, i2⟩ | ⟨i1, i2⟩
        · exact hr b k
        · have := k2 b i2
          have := hr _ (i1.trans h1)
          omega
        · have := hr _ (i1.trans k1)
          have := k2 _ (i1.symm h.s')
          omega
    · rintro (hr | rfl) b kb
      · exact hr b (kb.imp h.sub)
      · exact k2 b (k1.trans kb)
theorem roots_split {n u v : Nat} {E E' : Nat → Nat → Prop} (h : Joins E E' u v) (hb : ∀ x y, E x y → x < n ∧ y < n) (hn : ¬ Cn E' u v) : (roots n E').length = (roots n E).length + 1 := by
  obtain ⟨ru, h1, h2⟩ := root_of E' u
  obtain ⟨rv, k1, k2⟩ := root_of E' v
  by_cases hlt : ru < rv
  · exact roots_split' h hb h1 h2 k1 k2 hlt
  · by_cases hlt : rv < ru
    · exact roots_split' h.swap hb k1 k2 h1 h2 hlt
    · have : ru = rv := by omega
      subst this
      exact absurd (h1.trans (k1.symm h.s')) hn
theorem roots_same {n : Nat} {E E' : Nat → Nat → Prop} (h : ∀ a b, Cn E a b ↔ Cn E' a b) : roots n E = roots n E' := by
  unfold roots
  refine List.filter_congr fun a _ => ?_
  congr 1
  exact propext ⟨fun r b k => r b ((h a b).mpr k), fun r b k => r b ((h a b).mp k)⟩
theorem roots_con {n : Nat} {ps : Ed} {w : List Nat} (hn : 0 < n) (hv : Valid n ps) (h : Con n ps w) : (roots n (adj ps w)).length = 1 := by
  have e : roots n (adj ps w) = [0] := asc_ext (List.pairwise_lt_range.filter _) (by simp) fun x => by
    rw [mem_roots, List.mem_singleton]
    constructor
    · rintro ⟨hx, hr⟩
      have := hr 0 ((h x hx).symm adj_symm)
      omega
    · rintro rfl
      exact ⟨hn, fun b _ => Nat.zero_le b⟩
  rw [e]
  rfl
theorem joins_adj {ps : Ed} {w : List Nat} {j : Nat} {p : Nat × Nat} (hp : ps[j]? = some p) (hj : j ∉ w) : Joins (adj ps w) (adj ps (j :: w)) p.1 p.2 where
  s := adj_symm
  s' := adj_symm
  sub := adj_mono fun i hi => List.mem_cons_of_mem _ hi
  uv := ⟨j, hj, .inl hp⟩
  only := fun x y ⟨i, hi, e⟩ => by
    by_cases hij : i = j
    · subst hij
      right
      rw [hp] at e
      rcases e with e | e
      · injection e with e; rw [e]; exact .inl ⟨rfl, rfl⟩
      · injection e with e; rw [e]; exact .inr ⟨rfl, rfl⟩
    · exact .inl ⟨i, fun h => by rcases List.mem_cons.mp h with h | h; exact hij h; exact hi h, e⟩
/-- the ends of a bridge are apart without it -/
theorem bridge_apart {n : Nat} {ps : Ed} {j : Nat} {p : Nat × Nat} (hc : Con n ps []) (hp : ps[j]? = some p) (h : ¬ Con n ps [j]) : ¬ Cn (adj ps [j]) p.1 p.2 := fun k => h fun b hb => by
  rcases (joins_adj hp (w := []) (by simp)).cn (hc b hb) with z | ⟨i1, i2⟩ | ⟨i1, i2⟩
  · exact z
  · exact i1.trans (k.trans i2)
  · exact i1.trans ((k.symm adj_symm).trans i2)
/-- bridges left out one by one -/
theorem roots_cut {n : Nat} {ps : Ed} (hn : 0 < n) (hv : Valid n ps) (hc : Con n ps []) : ∀ w : List Nat, w.Nodup → (∀ j ∈ w, j ∈ weak n ps) → (roots n (adj ps w)).length = w.length + 1
  | [], _, _ => roots_con hn hv hc
  | j :: w, hd, hw => by
    obtain ⟨hj, hd⟩ := List.nodup_cons.mp hd
    obtain ⟨hl, hb⟩ := mem_weak.mp (hw j List.mem_cons_self)
    have hp := getD_get hl
    rw [roots_split (joins_adj hp hj) (fun x y e => adj_lt hv e) fun k => bridge_apart hc hp hb (k.imp (adj_mono fun i hi => by rw [List.mem_singleton.mp hi]; exact List.mem_cons_self)), roots_cut hn hv hc w hd fun i hi => hw i (List.mem_cons_of_mem _ hi)]
    rfl
theorem weak_nodup (n : Nat) (ps : Ed) : (weak n ps).Nodup := List.nodup_range.filter _
theorem weak_asc (n : Nat) (ps : Ed) : (weak n ps).Pairwise (· < ·) := List.pairwise_lt_range.filter _
theorem weak_le (n : Nat) (ps : Ed) : (weak n ps).length ≤ ps.length := by
  unfold weak
  refine Nat.le_trans (List.length_filter_le _ _) ?_
  rw [List.length_range]
  exact Nat.le_refl _
theorem cells_count {n : Nat} {ps : Ed} (hn : 0 < n) (hv : Valid n ps) (hc : Con n ps []) : (cellsP n ps).length = (weak n ps).length + 1 := by
  unfold cellsP
  rw [List.length_map]
  exact roots_cut hn hv hc _ (weak_nodup n ps) fun j hj => hj
/-- an excursion over a bridge is cut -/
theorem cut_walk {n : Nat} {ps : Ed} {w : List Nat} {j : Nat} {p : Nat × Nat} (hp : ps[j]? = some p) (hj : j ∉ w) (hap : ¬ Cn (adj ps [j]) p.1 p.2) {a x : Nat} (k : Cn (adj ps w) a x) :
    (Cn (adj ps [j]) a x → Cn (adj ps (j :: w)) a x) ∧ (¬ Cn (adj ps [j]) a x → ∃ y, (y = p.1 ∨ y = p.2) ∧ Cn (adj ps (j :: w)) a y) := by
  have big : ∀ {a b}, Cn (adj ps (j :: w)) a b → Cn (adj ps [j]) a b := fun k => k.imp (adj_mono fun i hi => by rw [List.mem_singleton.mp hi]; exact List.mem_cons_self)
  have hap2 : ¬ Cn (adj ps [j]) p.2 p.1 := fun k => hap (k.symm adj_symm)
  induction k with
  | refl => exact ⟨fun _ => .refl, fun h => absurd .refl h⟩
  | @step x y _ e ih =>
    obtain ⟨i1, i2⟩ := ih
    rcases (joins_adj hp hj).only _ _ e with e | ⟨rfl, rfl⟩ | ⟨rfl, rfl⟩
    · have e1 := big (Cn.one e)
      refine ⟨fun h => (i1 (h.trans (e1.symm adj_symm))).step e, fun h => i2 fun h2 => h (h2.trans e1)⟩
    · refine ⟨fun h => ?_, fun h => ?_⟩
      · have hx : ¬ Cn (adj ps [j]) a p.1 := fun hx => hap ((hx.symm adj_symm).trans h)
        obtain ⟨y, rfl | rfl, hy⟩ := i2 hx
        · exact absurd (big hy) hx
        · exact hy
      · by_cases hx : Cn (adj ps [j]) a p.1
        · exact ⟨p.1, .inl rfl, i1 hx⟩
        · exact i2 hx
    · refine ⟨fun h => ?_, fun h => ?_⟩
      · have hx : ¬ Cn (adj ps [j]) a p.2 := fun hx => hap2 ((hx.symm adj_symm).trans h)
        obtain ⟨y, rfl | rfl, hy⟩ := i2 hx
        · exact hy
        · exact absurd (big hy) hx
      · by_cases hx : Cn (adj ps [j]) a p.2
        · exact ⟨p.2, .inr rfl, i1 hx⟩
        · exact i2 hx
/-- two places are in a cell exactly if no single passage separates them -/
theorem cell_iff {n : Nat} {ps : Ed} (hc : Con n ps []) {a b : Nat} (ha : a < n) (hb : b < n) : Cn (adj ps (weak n ps)) a b ↔ ∀ i, i < ps.length → Cn (adj ps [i]) a b := by
  constructor
  · intro k i hi
    by_cases hw : i ∈ weak n ps
    · exact k.imp (adj_mono fun x hx => by rw [List.mem_singleton.mp hx]; exact hw)
    · have : Con n ps [i] := Classical.byContradiction fun h => hw (mem_weak.mpr ⟨hi, h⟩)
      exact conn_all this ha hb
  · intro k
    have z : ∀ w : List Nat, w.Nodup → (∀ j ∈ w, j ∈ weak n ps) → Cn (adj ps w) a b := by
      intro w
      induction w with
      | nil => intro _ _; exact conn_all hc ha hb
      | cons j w ih =>
        intro hd hw
        obtain ⟨hj, hd⟩ := List.nodup_cons.mp hd
        obtain ⟨hl, hbr⟩ := mem_weak.mp (hw j List.mem_cons_self)
        have hp := getD_get hl
        exact (cut_walk (n := n) hp hj (bridge_apart hc hp hbr) (ih hd fun i hi => hw i (List.mem_cons_of_mem _ hi))).1 (k j hl)
    exact z _ (weak_nodup n ps) fun j hj => hj
/-- every place is in one cell -/
theorem cells_perm {n : Nat} {ps : Ed} (hv : Valid n ps) : (cellsP n ps).flatten.Perm (List.range n) := by
  refine (List.perm_ext_iff_of_nodup ?_ List.nodup_range).mpr fun x => ?_
  · refine List.pairwise_flatten.mpr ⟨fun l hl => ?_, ?_⟩
    · obtain ⟨a, _, rfl⟩ := List.mem_map.mp hl
      exact Rc_nodup _ _ _ _
    · refine List.pairwise_map.mpr ?_
      have z : (roots n (adj ps (weak n ps))).Pairwise (· ≠ ·) := (List.nodup_range).filter _
      refine z.imp_of_mem fun {a b} ha hb hab x hx y hy e => ?_
      subst e
      have h1 := (mem_Rc.mp hx).2
      have h2 := (mem_Rc.mp hy).2
      have q1 := (mem_roots.mp ha).2 b (h1.trans (h2.symm adj_symm))
      have q2 := (mem_roots.mp hb).2 a (h2.trans (h1.symm adj_symm))
      omega
  · rw [List.mem_range, List.mem_flatten]
    constructor
    · rintro ⟨l, hl, hx⟩
      obtain ⟨a, _, rfl⟩ := List.mem_map.mp hl
      exact (mem_Rc.mp hx).1
    · intro hx
      obtain ⟨r, h1, h2⟩ := root_of (adj ps (weak n ps)) x
      exact ⟨_, List.mem_map.mpr ⟨r, mem_roots.mpr ⟨h1.lt hv hx, fun b hb => h2 b (h1.trans hb)⟩, rfl⟩, mem_Rc.mpr ⟨hx, h1.symm adj_symm⟩⟩
theorem cells_sum {n : Nat} {ps : Ed} (hv : Valid n ps) : ((cellsP n ps).map List.length).sum = n := by
  rw [← List.length_flatten, (cells_perm hv).length_eq, List.length_range]
/-! a bridge is doubled -/
theorem adj_app {ps : Ed} {p : Nat × Nat} {w : List Nat} {x y : Nat} (h : adj ps w x y) : adj (ps ++ [p]) w x y := by
  obtain ⟨i, hi, e⟩ := h
  refine ⟨i, hi, ?_⟩
  have : ∀ q, ps[i]? = some q → (ps ++ [p])[i]? = some q := fun q hq => by
    rw [List.getElem?_append_left (List.getElem?_eq_some_iff.mp hq).1]
    exact hq
  exact e.imp (this _) (this _)
theorem Con.app {n : Nat} {ps : Ed} {w : List Nat} (p : Nat × Nat) (h : Con n ps w) : Con n (ps ++ [p]) w := fun b hb => (h b hb).imp fun x y e => adj_app e
theorem wide_weak {n : Nat} {ps : Ed} (hc : Con n ps []) {j : Nat} {p : Nat × Nat} (hp : ps[j]? = some p) : j ∉ weak n (ps ++ [p]) ∧ ps.length ∉ weak n (ps ++ [p]) ∧ ∀ i ∈ weak n (ps ++ [p]), i ∈ weak n ps := by
  have hl := (List.getElem?_eq_some_iff.mp hp).1
  have h1 : Con n (ps ++ [p]) [j] := fun b hb => (hc b hb).imp fun x y ⟨i, _, e⟩ => by
    by_cases hij : i = j
    · subst hij
      rw [hp] at e
      exact ⟨ps.length, by simp; omega, by simpa using e⟩
    · have hi : i < ps.length := by
        rcases e with e | e <;> exact (List.getElem?_eq_some_iff.mp e).1
      refine ⟨i, by simp; exact hij, ?_⟩
      rw [List.getElem?_append_left hi]
      exact e
  have h2 : Con n (ps ++ [p]) [ps.length] := fun b hb => (hc b hb).imp fun x y ⟨i, _, e⟩ => by
    have hi : i < ps.length := by
      rcases e with e | e <;> exact (List.getElem?_eq_some_iff.mp e).1
    refine ⟨i, by simp; omega, ?_⟩
    rw [List.getElem?_append_left hi]
    exact e
  refine ⟨fun h => (mem_weak.mp h).2 h1, fun h => (mem_weak.mp h).2 h2, fun i hi => ?_⟩
  obtain ⟨hil, hb⟩ := mem_weak.mp hi
  rw [List.length_append, List.length_singleton] at hil
  have : i ≠ ps.length := fun e => hb (e ▸ h2)
  exact mem_weak.mpr ⟨by omega, fun k => hb (k.app p)⟩
theorem sub_len {l m : List Nat} (hl : l.Nodup) (h : ∀ x ∈ l, x ∈ m) {j : Nat} (hj : j ∈ m) (hjl : j ∉ l) : l.length < m.length := by
  induction l generalizing m with
  | nil => exact List.length_pos_of_mem hj
  | cons a l ih =>
    obtain ⟨ha, hl⟩ := List.nodup_cons.mp hl
    have ham := h a List.mem_cons_self
    have := ih (m := m.erase a) hl (fun x hx => (List.mem_erase_of_ne fun e : x = a => ha (e ▸ hx)).mpr (h x (List.mem_cons_of_mem _ hx))) ((List.mem_erase_of_ne fun e : j = a => hjl (by rw [e]; exact List.mem_cons_self)).mpr hj) fun hx => hjl (List.mem_cons_of_mem _ hx)
    rw [List.length_erase_of_mem ham] at this
    have := List.length_pos_of_mem ham
    rw [List.length_cons]
    omega
theorem wide_valid {n : Nat} {ps : Ed} (hv : Valid n ps) {j : Nat} {p : Nat × Nat} (hp : ps[j]? = some p) : Valid n (ps ++ [p]) := fun q hq => by
  rcases List.mem_append.mp hq with hq | hq
  · exact hv q hq
  · rw [List.mem_singleton.mp hq]
    exact hv p (List.mem_of_getElem? hp)
theorem wide_cells {n : Nat} {ps : Ed} (hn : 0 < n) (hv : Valid n ps) (hc : Con n ps []) {j : Nat} {p : Nat × Nat} (hp : ps[j]? = some p) (hj : j ∈ weak n ps) : (cellsP n (ps ++ [p])).length < (cellsP n ps).length := by
  obtain ⟨w1, w2, w3⟩ := wide_weak hc hp
  rw [cells_count hn hv hc, cells_count hn (wide_valid hv hp) (hc.app p)]
  have := sub_len (weak_nodup n (ps ++ [p])) w3 hj w1
  omega
/-! a tree: as few passages as can be -/
theorem roots_low {n : Nat} {ps : Ed} (hv : Valid n ps) : ∀ w : List Nat, w.Nodup → (∀ i ∈ w, i < ps.length) → (roots n (adj ps w)).length ≤ (roots n (adj ps [])).length + w.length
  | [], _, _ => Nat.le_refl _
  | j :: w, hd, hw => by
    obtain ⟨hj, hd⟩ := List.nodup_cons.mp hd
    have hp := getD_get (hw j List.mem_cons_self)
    have ih := roots_low hv w hd fun i hi => hw i (List.mem_cons_of_mem _ hi)
    have J := joins_adj hp hj
    rw [List.length_cons]
    by_cases k : Cn (adj ps (j :: w)) (ps.getD j (0, 0)).1 (ps.getD j (0, 0)).2
    · rw [roots_same (E := adj ps (j :: w)) (E' := adj ps w) fun a b => ⟨fun z => z.imp J.sub, fun z => by
        rcases J.cn z with z | ⟨i1, i2⟩ | ⟨i1, i2⟩
        · exact z
        · exact i1.trans (k.trans i2)
        · exact i1.trans ((k.symm adj_symm).trans i2)⟩]
      omega
    · rw [roots_split J (fun x y e => adj_lt hv e) k]
      omega
theorem roots_all {n : Nat} {ps : Ed} : (roots n (adj ps (List.range ps.length))).length = n := by
  have e : roots n (adj ps (List.range ps.length)) = List.range n := by
    unfold roots
    refine List.filter_eq_self.mpr fun a _ => decide_eq_true fun b k => ?_
    induction k with
    | refl => exact Nat.le_refl _
    | step _ e _ =>
      obtain ⟨i, hi, e⟩ := e
      have : i < ps.length := by rcases e with e | e <;> exact (List.getElem?_eq_some_iff.mp e).1
      exact absurd (List.mem_range.mpr this) hi
  rw [e, List.length_range]
theorem roots_low2 {n : Nat} {ps : Ed} (hv : Valid n ps) (v : List Nat) : ∀ w : List Nat, (w ++ v).Nodup → (∀ i ∈ w, i < ps.length) → (roots n (adj ps (w ++ v))).length ≤ (roots n (adj ps v)).length + w.length
  | [], _, _ => Nat.le_refl _
  | j :: w, hd, hw => by
    rw [List.cons_append] at hd
    obtain ⟨hj, hd⟩ := List.nodup_cons.mp hd
    have hp := getD_get (hw j List.mem_cons_self)
    have ih := roots_low2 hv v w hd fun i hi => hw i (List.mem_cons_of_mem _ hi)
    have J := joins_adj hp hj
    rw [List.length_cons, List.cons_append]
    by_cases k : Cn (adj ps (j :: (w ++ v))) (ps.getD j (0, 0)).1 (ps.getD j (0, 0)).2
    · rw [roots_same (E := adj ps (j :: (w ++ v))) (E' := adj ps (w ++ v)) fun a b => ⟨fun z => z.imp J.sub, fun z => by
        rcases J.cn z with z | ⟨i1, i2⟩ | ⟨i1, i2⟩
        · exact z
        · exact i1.trans (k.trans i2)
        · exact i1.trans ((k.symm adj_symm).trans i2)⟩]
      omega
    · rw [roots_split J (fun x y e => adj_lt hv e) k]
      omega
theorem tree_weak {n : Nat} {ps : Ed} (hn : 0 < n) (hv : Valid n ps) (hc : Con n ps []) (hl : ps.length + 1 = n) : weak n ps = List.range ps.length := by
  unfold weak
  refine List.filter_eq_self.mpr fun j hj => decide_eq_true fun k => ?_
  have hj := List.mem_range.mp hj
  have one := roots_con hn hv k
  have hmem : j ∈ List.range ps.length := List.mem_range.mpr hj
  have nd : ((List.range ps.length).erase j ++ [j]).Nodup := by
    refine List.nodup_append.mpr ⟨List.nodup_range.erase j, by simp, fun a ha b hb e => ?_⟩
    rw [List.mem_singleton.mp hb] at e
    subst e
    exact List.Nodup.not_mem_erase List.nodup_range ha
  have z := roots_low2 hv [j] ((List.range ps.length).erase j) nd fun i hi => List.mem_range.mp (List.mem_of_mem_erase hi)
  rw [List.length_erase_of_mem hmem, List.length_range, one] at z
  have e : roots n (adj ps ((List.range ps.length).erase j ++ [j])) = roots n (adj ps (List.range ps.length)) := by
    congr 1
    funext x y
    refine propext ⟨fun ⟨i, hi, e⟩ => ⟨i, fun h => hi ?_, e⟩, fun ⟨i, hi, e⟩ => ⟨i, fun h => hi ?_, e⟩⟩
    · by_cases hij : i = j
      · rw [hij]; simp
      · exact List.mem_append_left _ ((List.mem_erase_of_ne hij).mpr h)
    · rcases List.mem_append.mp h with h | h
      · exact List.mem_of_mem_erase h
      · rw [List.mem_singleton.mp h]; exact hmem
  rw [e, roots_all] at z
  omega
end
end DI.Law

set_option Elab.async false
set_option linter.all false
set_option maxRecDepth 100000
set_option maxHeartbeats 1000000
/-! renaming; how networks are made -/
namespace DI.Law
section
open Classical
def tieP (a b : Nat) : Nat × Nat := (min a b, max a b)
theorem tieP_or (a b : Nat) : tieP a b = (a, b) ∨ tieP a b = (b, a) := by
  unfold tieP
  by_cases h : a ≤ b
  · left; rw [Nat.min_eq_left h, Nat.max_eq_right h]
  · right; rw [Nat.min_eq_right (by omega), Nat.max_eq_left (by omega)]
def tieAt (nm : List Nat) (p : Nat × Nat) : Nat × Nat := tieP (nm.getD p.1 0) (nm.getD p.2 0)
theorem inj_get {nm : List Nat} (h : nm.Nodup) {a b : Nat} (ha : a < nm.length) (hb : b < nm.length) (e : nm.getD a 0 = nm.getD b 0) : a = b := by
  rw [List.getD_eq_getElem?_getD, List.getD_eq_getElem?_getD, List.getElem?_eq_getElem ha, List.getElem?_eq_getElem hb] at e
  exact (List.getElem?_inj ha h).mp (by rw [List.getElem?_eq_getElem ha, List.getElem?_eq_getElem hb]; exact congrArg some e)
theorem mem_get {nm : List Nat} {x : Nat} (h : x ∈ nm) : ∃ k, k < nm.length ∧ nm.getD k 0 = x := by
  obtain ⟨k, hk, e⟩ := List.mem_iff_getElem.mp h
  exact ⟨k, hk, by rw [List.getD_eq_getElem?_getD, List.getElem?_eq_getElem hk]; exact e⟩
theorem get_mem {nm : List Nat} {k : Nat} (h : k < nm.length) : nm.getD k 0 ∈ nm := by
  rw [List.getD_eq_getElem?_getD, List.getElem?_eq_getElem h]
  exact List.getElem_mem h
structure Ren (n : Nat) (ps : Ed) (nm row : List Nat) (qs : Ed) : Prop where
  hv : Valid n ps
  pn : nm.Perm (List.range n)
  pr : row.Perm (List.range ps.length)
  pq : qs = row.map fun r => tieAt nm (ps.getD r (0, 0))
section
variable {n : Nat} {ps qs : Ed} {nm row : List Nat}
theorem Ren.nl (h : Ren n ps nm row qs) : nm.length = n := by rw [h.pn.length_eq, List.length_range]
theorem Ren.rl (h : Ren n ps nm row qs) : row.length = ps.length := by rw [h.pr.length_eq, List.length_range]
theorem Ren.ql (h : Ren n ps nm row qs) : qs.length = ps.length := by rw [h.pq, List.length_map, h.rl]
theorem Ren.nd (h : Ren n ps nm row qs) : nm.Nodup := h.pn.nodup_iff.mpr List.nodup_range
theorem Ren.rd (h : Ren n ps nm row qs) : row.Nodup := h.pr.nodup_iff.mpr List.nodup_range
theorem Ren.lt (h : Ren n ps nm row qs) {a : Nat} (ha : a < n) : nm.getD a 0 < n := List.mem_range.mp (h.pn.subset (get_mem (by rw [h.nl]; exact ha)))
theorem Ren.onto (h : Ren n ps nm row qs) {b : Nat} (hb : b < n) : ∃ a, a < n ∧ nm.getD a 0 = b := by
  obtain ⟨k, hk, e⟩ := mem_get (h.pn.symm.subset (List.mem_range.mpr hb))
  exact ⟨k, by rw [h.nl] at hk; exact hk, e⟩
theorem Ren.rlt (h : Ren n ps nm row qs) {k : Nat} (hk : k < ps.length) : row.getD k 0 < ps.length := List.mem_range.mp (h.pr.subset (get_mem (by rw [h.rl]; exact hk)))
theorem Ren.ronto (h : Ren n ps nm row qs) {i : Nat} (hi : i < ps.length) : ∃ k, k < ps.length ∧ row.getD k 0 = i := by
  obtain ⟨k, hk, e⟩ := mem_get (h.pr.symm.subset (List.mem_range.mpr hi))
  exact ⟨k, by rw [h.rl] at hk; exact hk, e⟩
theorem Ren.at (h : Ren n ps nm row qs) {k : Nat} (hk : k < ps.length) : qs[k]? = some (tieAt nm (ps.getD (row.getD k 0) (0, 0))) := by
  have hk' : k < row.length := by rw [h.rl]; exact hk
  have e : row.getD k 0 = row[k] := by rw [List.getD_eq_getElem?_getD, List.getElem?_eq_getElem hk']; rfl
  rw [h.pq, List.getElem?_map, List.getElem?_eq_getElem hk', e]
  rfl
/-- the passages left out, with their other names -/
def Same (row : List Nat) (m : Nat) (w w' : List Nat) : Prop := ∀ k, k < m → (k ∈ w' ↔ row.getD k 0 ∈ w)
theorem Ren.fwd (h : Ren n ps nm row qs) {w w' : List Nat} (hs : Same row ps.length w w') {x y : Nat} (e : adj ps w x y) : adj qs w' (nm.getD x 0) (nm.getD y 0) := by
  obtain ⟨i, hi, e⟩ := e
  have hl : i < ps.length := by rcases e with e | e <;> exact (List.getElem?_eq_some_iff.mp e).1
  obtain ⟨k, hk, rfl⟩ := h.ronto hl
  refine ⟨k, fun g => hi ((hs k hk).mp g), ?_⟩
  rw [h.at hk]
  have g := getD_get hl
  rw [g] at e
  rcases e with e | e
  · injection e with e
    rw [e]
    rcases tieP_or (nm.getD x 0) (nm.getD y 0) with t | t
    · exact .inl (congrArg some t)
    · exact .inr (congrArg some t)
  · injection e with e
    rw [e]
    rcases tieP_or (nm.getD y 0) (nm.getD x 0) with t | t
    · exact .inr (congrArg some t)
    · exact .inl (congrArg some t)
theorem Ren.bwd (h : Ren n ps nm row qs) {w w' : List Nat} (hs : Same row ps.length w w') {u v : Nat} (e : adj qs w' u v) : ∃ x y, u = nm.getD x 0 ∧ v = nm.getD y 0 ∧ adj ps w x y := by
  obtain ⟨k, hk, e⟩ := e
  have hl : k < ps.length := by
    rw [← h.ql]
    rcases e with e | e <;> exact (List.getElem?_eq_some_iff.mp e).1
  have g := getD_get (h.rlt hl)
  rw [h.at hl] at e
  have hw : row.getD k 0 ∉ w := fun z => hk ((hs k hl).mpr z)
  rcases tieP_or (nm.getD (ps.getD (row.getD k 0) (0, 0)).1 0) (nm.getD (ps.getD (row.getD k 0) (0, 0)).2 0) with t | t <;> rcases e with e | e <;> injection e with e <;> rw [tieAt, t] at e <;> injection e with e1 e2
  · exact ⟨_, _, e1.symm, e2.symm, _, hw, .inl g⟩
  · exact ⟨_, _, e2.symm, e1.symm, _, hw, .inr g⟩
  · exact ⟨_, _, e1.symm, e2.symm, _, hw, .inr g⟩
  · exact ⟨_, _, e2.symm, e1.symm, _, hw, .inl g⟩
theorem Ren.cn (h : Ren n ps nm row qs) {w w' : List Nat} (hs : Same row ps.length w w') {a : Nat} (ha : a < n) {v : Nat} : Cn (adj qs w') (nm.getD a 0) v ↔ ∃ b, b < n ∧ v = nm.getD b 0 ∧ Cn (adj ps w) a b := by
  constructor
  · intro k
    induction k with
    | refl => exact ⟨a, ha, rfl, .refl⟩
    | step _ e ih =>
      obtain ⟨b, hb, rfl, kb⟩ := ih
      obtain ⟨x, y, e1, e2, e3⟩ := h.bwd hs e
      have hxy := adj_lt h.hv e3
      have : b = x := inj_get h.nd (by rw [h.nl]; exact hb) (by rw [h.nl]; exact hxy.1) e1
      subst this
      exact ⟨y, hxy.2, e2, kb.step e3⟩
  · rintro ⟨b, hb, rfl, k⟩
    exact k.map (fun x => nm.getD x 0) fun x y e => Cn.one (h.fwd hs e)
theorem Ren.cn2 (h : Ren n ps nm row qs) {w w' : List Nat} (hs : Same row ps.length w w') {a b : Nat} (ha : a < n) (hb : b < n) : Cn (adj qs w') (nm.getD a 0) (nm.getD b 0) ↔ Cn (adj ps w) a b := by
  rw [h.cn hs ha]
  constructor
  · rintro ⟨c, hc, e, k⟩
    have : b = c := inj_get h.nd (by rw [h.nl]; exact hb) (by rw [h.nl]; exact hc) e
    exact this ▸ k
  · exact fun k => ⟨b, hb, rfl, k⟩
theorem Ren.con (h : Ren n ps nm row qs) {w w' : List Nat} (hs : Same row ps.length w w') : Con n qs w' ↔ Con n ps w := by
  constructor
  · intro k b hb
    have h0 : 0 < n := by omega
    exact (h.cn2 hs h0 hb).mp (conn_all k (h.lt h0) (h.lt hb))
  · intro k b hb
    have h0 : 0 < n := by omega
    obtain ⟨c, hc, e⟩ := h.onto h0
    obtain ⟨d, hd, e2⟩ := h.onto hb
    rw [← e, ← e2]
    exact (h.cn2 hs hc hd).mpr (conn_all k hc hd)
theorem Ren.weak (h : Ren n ps nm row qs) : Same row ps.length (weak n ps) (weak n qs) := fun k hk => by
  rw [mem_weak, mem_weak, h.ql]
  have hs : Same row ps.length [row.getD k 0] [k] := fun j hj => by
    rw [List.mem_singleton, List.mem_singleton]
    exact ⟨fun e => by rw [e], fun e => inj_get h.rd (by rw [h.rl]; exact hj) (by rw [h.rl]; exact hk) e⟩
  rw [h.con hs]
  exact ⟨fun g => ⟨h.rlt hk, g.2⟩, fun g => ⟨hk, g.2⟩⟩
theorem Ren.weak_perm (h : Ren n ps nm row qs) : ((DI.Law.weak n qs).map fun k => row.getD k 0).Perm (DI.Law.weak n ps) := by
  refine (List.perm_ext_iff_of_nodup ?_ (weak_nodup n ps)).mpr fun x => ?_
  · refine List.pairwise_map.mpr ((weak_nodup n qs).imp_of_mem fun {a b} ha hb hab e => hab ?_)
    have h1 := (mem_weak.mp ha).1
    have h2 := (mem_weak.mp hb).1
    rw [h.ql] at h1 h2
    exact inj_get h.rd (by rw [h.rl]; exact h1) (by rw [h.rl]; exact h2) e
  · rw [List.mem_map]
    constructor
    · rintro ⟨k, hk, rfl⟩
      have h1 := (mem_weak.mp hk).1
      rw [h.ql] at h1
      exact (h.weak k h1).mp hk
    · intro hx
      obtain ⟨k, hk, e⟩ := h.ronto (mem_weak.mp hx).1
      exact ⟨k, (h.weak k hk).mpr (e ▸ hx), e⟩
theorem Ren.cell (h : Ren n ps nm row qs) {a : Nat} (ha : a < n) : ((Rc n ps (DI.Law.weak n ps) a).map fun x => nm.getD x 0).Perm (Rc n qs (DI.Law.weak n qs) (nm.getD a 0)) := by
  refine (List.perm_ext_iff_of_nodup ?_ (Rc_nodup _ _ _ _)).mpr fun x => ?_
  · refine List.pairwise_map.mpr ((Rc_nodup _ _ _ _).imp_of_mem fun {a b} ha hb hab e => hab ?_)
    exact inj_get h.nd (by rw [h.nl]; exact (mem_Rc.mp ha).1) (by rw [h.nl]; exact (mem_Rc.mp hb).1) e
  · rw [List.mem_map, mem_Rc, h.cn h.weak ha]
    constructor
    · rintro ⟨k, hk, rfl⟩
      exact ⟨h.lt (mem_Rc.mp hk).1, k, (mem_Rc.mp hk).1, rfl, (mem_Rc.mp hk).2⟩
    · rintro ⟨hx, b, hb, rfl, k⟩
      exact ⟨b, mem_Rc.mpr ⟨hb, k⟩, rfl⟩
theorem Rc_same {n : Nat} {ps : Ed} {w : List Nat} {a b : Nat} (k : Cn (adj ps w) a b) : Rc n ps w a = Rc n ps w b :=
  asc_ext (Rc_asc _ _ _ _) (Rc_asc _ _ _ _) fun x => by
    rw [mem_Rc, mem_Rc]
    exact ⟨fun z => ⟨z.1, (k.symm adj_symm).trans z.2⟩, fun z => ⟨z.1, k.trans z.2⟩⟩
theorem root_one {n : Nat} {ps : Ed} {w : List Nat} {a b : Nat} (ha : a ∈ roots n (adj ps w)) (hb : b ∈ roots n (adj ps w)) (k : Cn (adj ps w) a b) : a = b := by
  have q1 := (mem_roots.mp ha).2 b k
  have q2 := (mem_roots.mp hb).2 a (k.symm adj_symm)
  omega
theorem Ren.cells (h : Ren n ps nm row qs) : ((roots n (adj ps (DI.Law.weak n ps))).map fun a => Rc n qs (DI.Law.weak n qs) (nm.getD a 0)).Perm (cellsP n qs) := by
  have rn : (roots n (adj ps (DI.Law.weak n ps))).Nodup := List.nodup_range.filter _
  have rm : (roots n (adj qs (DI.Law.weak n qs))).Nodup := List.nodup_range.filter _
  refine (List.perm_ext_iff_of_nodup ?_ ?_).mpr fun x => ?_
  · refine List.pairwise_map.mpr (rn.imp_of_mem fun {a b} ha hb hab e => hab ?_)
    have ha' := (mem_roots.mp ha).1
    have hb' := (mem_roots.mp hb).1
    have : nm.getD b 0 ∈ Rc n qs (DI.Law.weak n qs) (nm.getD a 0) := by rw [e]; exact mem_Rc.mpr ⟨h.lt hb', .refl⟩
    exact root_one ha hb ((h.cn2 h.weak ha' hb').mp (mem_Rc.mp this).2)
  · refine List.pairwise_map.mpr (rm.imp_of_mem fun {a b} ha hb hab e => hab ?_)
    have : b ∈ Rc n qs (DI.Law.weak n qs) a := by rw [e]; exact mem_Rc.mpr ⟨(mem_roots.mp hb).1, .refl⟩
    exact root_one ha hb (mem_Rc.mp this).2
  · unfold cellsP
    rw [List.mem_map, List.mem_map]
    constructor
    · rintro ⟨a, ha, rfl⟩
      have ha' := (mem_roots.mp ha).1
      obtain ⟨r, h1, h2⟩ := root_of (adj qs (DI.Law.weak n qs)) (nm.getD a 0)
      have hvq : Valid n qs := fun q hq => by
        rw [h.pq] at hq
        obtain ⟨r, hr, rfl⟩ := List.mem_map.mp hq
        have hr' := List.mem_range.mp (h.pr.subset hr)
        have := h.hv _ (List.mem_of_getElem? (getD_get hr'))
        have l1 := h.lt this.1
        have l2 := h.lt this.2
        unfold tieAt
        rcases tieP_or (nm.getD (ps.getD r (0, 0)).1 0) (nm.getD (ps.getD r (0, 0)).2 0) with t | t <;> rw [t]
        · exact ⟨l1, l2⟩
        · exact ⟨l2, l1⟩
      exact ⟨r, mem_roots.mpr ⟨h1.lt hvq (h.lt ha'), fun b hb => h2 b (h1.trans hb)⟩, (Rc_same h1).symm⟩
    · rintro ⟨b, hb, rfl⟩
      obtain ⟨c, hc, e⟩ := h.onto (mem_roots.mp hb).1
      obtain ⟨r, h1, h2⟩ := root_of (adj ps (DI.Law.weak n ps)) c
      have hr := h1.lt h.hv hc
      refine ⟨r, mem_roots.mpr ⟨hr, fun b hb => h2 b (h1.trans hb)⟩, ?_⟩
      rw [← e]
      exact (Rc_same ((h.cn2 h.weak hc hr).mpr h1)).symm
theorem Ren.net (h : Ren n ps nm row qs) : Valid n qs ∧ ∀ p ∈ qs, p.1 ≤ p.2 := by
  have z : ∀ q ∈ qs, (q.1 < n ∧ q.2 < n) ∧ q.1 ≤ q.2 := fun q hq => by
    rw [h.pq] at hq
    obtain ⟨r, hr, rfl⟩ := List.mem_map.mp hq
    have hr' := List.mem_range.mp (h.pr.subset hr)
    have := h.hv _ (List.mem_of_getElem? (getD_get hr'))
    have l1 := h.lt this.1
    have l2 := h.lt this.2
    unfold tieAt tieP
    dsimp only
    omega
  exact ⟨fun q hq => (z q hq).1, fun q hq => (z q hq).2⟩
end
/-! ### how networks are made -/
structure Net (n : Nat) (ps : Ed) : Prop where
  n0 : 1 ≤ n
  n1 : n ≤ 12
  m1 : ps.length ≤ 16
  hv : Valid n ps
  hle : ∀ p ∈ ps, p.1 ≤ p.2
  con : Con n ps []
theorem adj_nil {ps : Ed} {x y : Nat} : adj ps [] x y ↔ (x, y) ∈ ps ∨ (y, x) ∈ ps := by
  constructor
  · rintro ⟨i, _, h | h⟩
    · exact .inl (List.mem_of_getElem? h)
    · exact .inr (List.mem_of_getElem? h)
  · rintro (h | h)
    · obtain ⟨i, e⟩ := List.getElem?_of_mem h
      exact ⟨i, by simp, .inl e⟩
    · obtain ⟨i, e⟩ := List.getElem?_of_mem h
      exact ⟨i, by simp, .inr e⟩
def topP (ps : Ed) : Nat := ps.foldr (fun p m => max p.2 m) 0 + 1
theorem top_cons (p : Nat × Nat) (ps : Ed) : topP (p :: ps) = max (p.2 + 1) (topP ps) := by
  unfold topP
  rw [List.foldr_cons]
  omega
theorem top_app : ∀ ps qs : Ed, topP (ps ++ qs) = max (topP ps) (topP qs)
  | [], qs => by
    have : topP [] = 1 := rfl
    have : 1 ≤ topP qs := by unfold topP; omega
    rw [List.nil_append]
    omega
  | p :: ps, qs => by rw [List.cons_append, top_cons, top_cons, top_app ps qs]; omega
theorem top_pos (ps : Ed) : 1 ≤ topP ps := by unfold topP; omega
theorem top_mem {ps : Ed} {p : Nat × Nat} (h : p ∈ ps) : p.2 < topP ps := by
  induction ps with
  | nil => cases h
  | cons q ps ih =>
    rw [top_cons]
    rcases List.mem_cons.mp h with rfl | h
    · omega
    · have := ih h; omega
theorem top_of {ps : Ed} {b : Nat} (h : b < topP ps) : b = 0 ∨ ∃ p ∈ ps, b ≤ p.2 := by
  induction ps with
  | nil => left; have : topP [] = 1 := rfl; omega
  | cons q ps ih =>
    rw [top_cons] at h
    by_cases hq : b ≤ q.2
    · exact .inr ⟨q, List.mem_cons_self, hq⟩
    · rcases ih (by omega) with h | ⟨p, hp, h⟩
      · exact .inl h
      · exact .inr ⟨p, List.mem_cons_of_mem _ hp, h⟩
structure Good (ps : Ed) : Prop where
  hle : ∀ p ∈ ps, p.1 ≤ p.2
  con : Con (topP ps) ps []
theorem Good.valid {ps : Ed} (h : Good ps) : Valid (topP ps) ps := fun p hp => by
  have := top_mem hp
  have := h.hle p hp
  omega
theorem adj_left {ps qs : Ed} {x y : Nat} (h : adj ps [] x y) : adj (ps ++ qs) [] x y := by
  rw [adj_nil] at h ⊢
  exact h.imp (List.mem_append_left _) (List.mem_append_left _)
theorem adj_right {ps qs : Ed} {x y : Nat} (h : adj qs [] x y) : adj (ps ++ qs) [] x y := by
  rw [adj_nil] at h ⊢
  exact h.imp (List.mem_append_right _) (List.mem_append_right _)
theorem adj_tie {ps : Ed} (x y : Nat) : adj (ps ++ [tieP x y]) [] x y := by
  rw [adj_nil]
  rcases tieP_or x y with t | t <;> rw [t] <;> simp
/-- a new place is joined -/
theorem Good.join {ps : Ed} (h : Good ps) {x : Nat} (hx : x < topP ps) : Good (ps ++ [tieP x (topP ps)]) ∧ topP (ps ++ [tieP x (topP ps)]) = topP ps + 1 := by
  have e : topP (ps ++ [tieP x (topP ps)]) = topP ps + 1 := by
    rw [top_app, top_cons]
    have : topP [] = 1 := rfl
    have : (tieP x (topP ps)).2 = topP ps := by unfold tieP; dsimp only; omega
    omega
  refine ⟨⟨fun p hp => ?_, fun b hb => ?_⟩, e⟩
  · rcases List.mem_append.mp hp with hp | hp
    · exact h.hle p hp
    · rw [List.mem_singleton.mp hp]; unfold tieP; dsimp only; omega
  · rw [e] at hb
    by_cases hb' : b = topP ps
    · subst hb'
      exact ((h.con x hx).imp fun _ _ => adj_left).step (adj_tie _ _)
    · exact (h.con b (by omega)).imp fun _ _ => adj_left
theorem Good.more {ps : Ed} (h : Good ps) {x y : Nat} (hx : x < topP ps) (hy : y < topP ps) : Good (ps ++ [tieP x y]) ∧ topP (ps ++ [tieP x y]) = topP ps := by
  have e : topP (ps ++ [tieP x y]) = topP ps := by
    rw [top_app, top_cons]
    have : topP [] = 1 := rfl
    have : (tieP x y).2 = max x y := rfl
    omega
  refine ⟨⟨fun p hp => ?_, fun b hb => ?_⟩, e⟩
  · rcases List.mem_append.mp hp with hp | hp
    · exact h.hle p hp
    · rw [List.mem_singleton.mp hp]; unfold tieP; dsimp only; omega
  · rw [e] at hb
    exact (h.con b hb).imp fun _ _ => adj_left
def shName (low hinge x : Nat) : Nat := if x = 0 then hinge else low + x - 1
def shiftP (qs : Ed) (low hinge : Nat) : Ed := qs.map fun p => tieP (shName low hinge p.1) (shName low hinge p.2)
theorem Good.shift {ps qs : Ed} (h : Good ps) (k : Good qs) {hinge : Nat} (hh : hinge < topP ps) : Good (ps ++ shiftP qs (topP ps) hinge) ∧ topP (ps ++ shiftP qs (topP ps) hinge) ≤ topP ps + topP qs := by
  have sh : ∀ p ∈ shiftP qs (topP ps) hinge, p.1 ≤ p.2 ∧ (p.2 < topP ps ∨ ∃ x, 0 < x ∧ x < topP qs ∧ p.2 = topP ps + x - 1) := fun p hp => by
    obtain ⟨q, hq, rfl⟩ := List.mem_map.mp hp
    have v := k.valid q hq
    refine ⟨by unfold tieP; dsimp only; omega, ?_⟩
    have e : (tieP (shName (topP ps) hinge q.1) (shName (topP ps) hinge q.2)).2 = max (shName (topP ps) hinge q.1) (shName (topP ps) hinge q.2) := rfl
    rw [e]
    have h1 : ∀ x, x < topP qs → shName (topP ps) hinge x < topP ps ∨ (0 < x ∧ x < topP qs ∧ shName (topP ps) hinge x = topP ps + x - 1) := fun x hx => by
      unfold shName
      split
      · exact .inl hh
      · exact .inr ⟨by omega, hx, rfl⟩
    rcases Nat.le_total (shName (topP ps) hinge q.1) (shName (topP ps) hinge q.2) with l | l
    · rw [Nat.max_eq_right l]
      rcases h1 q.2 v.2 with z | z
      · exact .inl z
      · exact .inr ⟨_, z⟩
    · rw [Nat.max_eq_left l]
      rcases h1 q.1 v.1 with z | z
      · exact .inl z
      · exact .inr ⟨_, z⟩
  refine ⟨⟨fun p hp => ?_, fun b hb => ?_⟩, ?_⟩
  · rcases List.mem_append.mp hp with hp | hp
    · exact h.hle p hp
    · exact (sh p hp).1
  · by_cases hb' : b < topP ps
    · exact (h.con b hb').imp fun _ _ => adj_left
    · have : b = 0 ∨ ∃ p ∈ shiftP qs (topP ps) hinge, b ≤ p.2 := by
        rw [top_app] at hb
        exact top_of (by omega)
      have tp := top_pos ps
      rcases this with h0 | ⟨p, hp, hbp⟩
      · omega
      · rcases (sh p hp).2 with z | ⟨x, x0, x1, x2⟩
        · omega
        · have c : Cn (adj (ps ++ shiftP qs (topP ps) hinge) []) (shName (topP ps) hinge 0) (shName (topP ps) hinge (b - topP ps + 1)) := (k.con (b - topP ps + 1) (by omega)).map _ fun u v e => Cn.one (adj_right (by
            rw [adj_nil] at e ⊢
            rcases e with e | e
            · have m : tieP (shName (topP ps) hinge u) (shName (topP ps) hinge v) ∈ shiftP qs (topP ps) hinge := List.mem_map.mpr ⟨_, e, rfl⟩
              rcases tieP_or (shName (topP ps) hinge u) (shName (topP ps) hinge v) with t | t <;> rw [t] at m
              · exact .inl m
              · exact .inr m
            · have m : tieP (shName (topP ps) hinge v) (shName (topP ps) hinge u) ∈ shiftP qs (topP ps) hinge := List.mem_map.mpr ⟨_, e, rfl⟩
              rcases tieP_or (shName (topP ps) hinge v) (shName (topP ps) hinge u) with t | t <;> rw [t] at m
              · exact .inr m
              · exact .inl m))
          have e0 : shName (topP ps) hinge 0 = hinge := rfl
          have e1 : shName (topP ps) hinge (b - topP ps + 1) = b := by
            unfold shName
            rw [if_neg (by omega)]
            omega
          rw [e0, e1] at c
          exact ((h.con hinge hh).imp fun _ _ => adj_left).trans c
  · rw [top_app]
    have : topP (shiftP qs (topP ps) hinge) ≤ topP ps + topP qs := by
      have tp := top_pos ps
      by_cases g : topP (shiftP qs (topP ps) hinge) ≤ topP ps + topP qs
      · exact g
      · rcases top_of (ps := shiftP qs (topP ps) hinge) (b := topP ps + topP qs) (by omega) with z | ⟨p, hp, z⟩
        · omega
        · rcases (sh p hp).2 with y | ⟨x, x0, x1, x2⟩ <;> omega
    omega
theorem Good.net {ps : Ed} (h : Good ps) (ht : topP ps ≤ 12) (hm : ps.length ≤ 16) : Net (topP ps) ps := ⟨top_pos ps, ht, hm, h.valid, h.hle, h.con⟩
theorem Net.perm {n : Nat} {ps qs : Ed} (h : Net n ps) (hp : qs.Perm ps) : Net n qs := ⟨h.n0, h.n1, by rw [hp.length_eq]; exact h.m1, fun p k => h.hv p (hp.subset k), fun p k => h.hle p (hp.subset k), fun b hb => (h.con b hb).imp fun x y e => by
  rw [adj_nil] at e ⊢
  exact e.imp (hp.symm.subset ·) (hp.symm.subset ·)⟩
theorem Net.named {n : Nat} {ps : Ed} (h : Net n ps) {nm : List Nat} (hn : nm.Perm (List.range n)) : Net n (ps.map (tieAt nm)) := by
  have r : Ren n ps nm (List.range ps.length) (ps.map (tieAt nm)) := ⟨h.hv, hn, List.Perm.refl _, by
    refine List.ext_getElem? fun k => ?_
    rw [List.getElem?_map, List.getElem?_map]
    by_cases hk : k < ps.length
    · rw [List.getElem?_range hk, getD_get hk]
      rfl
    · rw [List.getElem?_eq_none (by omega), List.getElem?_eq_none (by rw [List.length_range]; omega)]
      rfl⟩
  refine ⟨h.n0, h.n1, by rw [List.length_map]; exact h.m1, r.net.1, r.net.2, (r.con (w := []) (w' := []) fun k hk => by simp).mpr h.con⟩
/-- a check that can be computed -/
def goodB (ps : Ed) : Bool := (ps.all fun p => decide (p.1 ≤ p.2)) && decide ((rnd ps [] [0] (topP ps)).length = topP ps) && decide (topP ps ≤ 5) && decide (ps.length ≤ 6)
theorem good_of {ps : Ed} (h : goodB ps = true) : Good ps ∧ topP ps ≤ 5 ∧ ps.length ≤ 6 := by
  unfold goodB at h
  simp only [Bool.and_eq_true, decide_eq_true_eq, List.all_eq_true] at h
  obtain ⟨⟨⟨h1, h2⟩, h3⟩, h4⟩ := h
  have hv : Valid (topP ps) ps := fun p hp => by
    have := top_mem hp
    have := h1 p hp
    omega
  refine ⟨⟨h1, ?_⟩, h3, h4⟩
  have hp := found_perm hv (top_pos ps) (rnd_inv (inv_one ps [] 0) (topP ps)) (rnd_closed [] hv (top_pos ps))
  exact Rc_con.mp (by rw [← hp.length_eq]; exact h2)
end
end DI.Law

set_option Elab.async false
set_option linter.all false
set_option maxRecDepth 100000
set_option maxHeartbeats 1000000
/-! networks as data; loops by number -/
namespace DI.Law
open PySem L2 DI
abbrev pD (p : Nat × Nat) : D := tN [p.1, p.2]
abbrev tP (ps : Ed) : D := .tup (ps.map pD)
abbrev lP (ps : Ed) : D := .lst (ps.map pD)
theorem len_lst (l : List D) : bltD .len [.lst l] = some (.int l.length) := rfl
theorem len_tup (l : List D) : bltD .len [.tup l] = some (.int l.length) := rfl
theorem x_lenT (p : List Nat) : bltD .len [tN p] = some (.int p.length) := by simp [bltD]
theorem x_lenL (c : List Nat) : bltD .len [lN c] = some (.int c.length) := by simp [bltD]
theorem x_lenP (ps : Ed) : bltD .len [tP ps] = some (.int ps.length) := by simp [bltD]
theorem x_lenQ (ps : Ed) : bltD .len [lP ps] = some (.int ps.length) := by simp [bltD]
theorem put_eq (l : List D) (n : Int) (d : D) : putD (.lst l) (.int n) d = (ixN l.length n).map fun j => .lst (l.set j d) := rfl
theorem x_idx {p : List Nat} {x : Nat} (h : x < p.length) : idxD (tN p) (.int x) = some (.int (p.getD x 0 : Nat)) := by
  show atI _ _ = _
  rw [atI_nat, List.getElem?_map, List.getElem?_map, List.getElem?_eq_getElem h, List.getD_eq_getElem?_getD, List.getElem?_eq_getElem h]
  rfl
theorem x_idxL {p : List Nat} {x : Nat} (h : x < p.length) : idxD (lN p) (.int x) = some (.int (p.getD x 0 : Nat)) := by
  show atI _ _ = _
  rw [atI_nat, List.getElem?_map, List.getElem?_map, List.getElem?_eq_getElem h, List.getD_eq_getElem?_getD, List.getElem?_eq_getElem h]
  rfl
theorem x_idxP {ps : Ed} {i : Nat} {p : Nat × Nat} (h : ps[i]? = some p) : idxD (tP ps) (.int i) = some (pD p) := by
  show atI _ _ = _
  rw [atI_nat, List.getElem?_map, h]
  rfl
theorem x_fst (p : Nat × Nat) : idxD (pD p) (.int 0) = some (.int p.1) := rfl
theorem x_snd (p : Nat × Nat) : idxD (pD p) (.int 1) = some (.int p.2) := rfl
theorem out_ok {A : Type} {a : A} {f : A → Store → Out} : (R.ok a st).out f = f a st := rfl
theorem ne_int (i j : Int) : cmpD .NotEq (.int i) (.int j) = some (!decide (i = j)) := by
  have e : cmpD .NotEq (.int i) (.int j) = (eqD (.int i) (.int j)).map not := rfl
  rw [e, eqD_i]
  rfl
theorem eq_int (i j : Int) : cmpD .Eq (.int i) (.int j) = some (decide (i = j)) := eqD_i i j
theorem ne_bl (i j : Bool) : cmpD .NotEq (.bl i) (.bl j) = some (!decide (i = j)) := by
  have e : cmpD .NotEq (.bl i) (.bl j) = (eqD (.bl i) (.bl j)).map not := rfl
  rw [e, eqD_b]
  rfl
theorem any_int (x : Nat) : ∀ l : List Nat, ((l.map fun (y : Nat) => (y : Int)).map PyData.int).any (fun z => PyData.eqv z (.int x)) = decide (x ∈ l)
  | [] => rfl
  | y :: l => by
    rw [List.map_cons, List.map_cons, List.any_cons, any_int x l]
    have e : PyData.eqv (PyData.int (y : Int)) (PyData.int (x : Int)) = ((y : Int) == (x : Int)) := rfl
    rw [e]
    by_cases h : x = y
    · subst h; simp
    · have : ¬ ((y : Int) = (x : Int)) := by omega
      simp [h, this]
theorem in_l (x : Nat) (l : List Nat) : inD (.int x) (lN l) = some (decide (x ∈ l)) := by
  have e : inD (.int x) (lN l) = if SeqAt.shaped (D.int (x : Int)).py && SeqAt.shaped (PyData.list (pys ((l.map fun (y : Nat) => (y : Int)).map D.int))) then some ((pys ((l.map fun (y : Nat) => (y : Int)).map D.int)).any fun z => PyData.eqv z (D.int (x : Int)).py) else none := rfl
  have s := shape_l (l.map fun (y : Nat) => (y : Int))
  rw [D.py] at s
  rw [e, s]
  rw [show SeqAt.shaped (D.int (x : Int)).py = true from rfl, Bool.and_self, if_pos rfl, pys_int]
  exact congrArg some (any_int x l)
theorem in_t (x : Nat) (l : List Nat) : inD (.int x) (tN l) = some (decide (x ∈ l)) := in_l x l
theorem not_in_l (x : Nat) (l : List Nat) : cmpD .NotIn (.int x) (lN l) = some (!decide (x ∈ l)) := by
  have e : cmpD .NotIn (.int x) (lN l) = (inD (.int x) (lN l)).map not := rfl
  rw [e, in_l]
  rfl
theorem not_in_t (x : Nat) (l : List Nat) : cmpD .NotIn (.int x) (tN l) = some (!decide (x ∈ l)) := not_in_l x l
theorem cat_eq (x y : List D) : binD .Add (.lst x) (.lst y) = if x.length + y.length ≤ 16777216 then some (.lst (x ++ y)) else none := rfl
theorem catT_eq (x y : List D) : binD .Add (.tup x) (.tup y) = if x.length + y.length ≤ 16777216 then some (.tup (x ++ y)) else none := rfl
theorem x_cat (p q : List Nat) (h : p.length + q.length ≤ 1000) : binD .Add (lN p) (lN q) = some (lN (p ++ q)) := by
  rw [cat_eq, if_pos (by simp; omega)]
  simp
theorem x_catP (p q : Ed) (h : p.length + q.length ≤ 1000) : binD .Add (lP p) (lP q) = some (lP (p ++ q)) := by
  rw [cat_eq, if_pos (by simp; omega)]
  simp
theorem x_catT (p q : Ed) (h : p.length + q.length ≤ 1000) : binD .Add (tP p) (tP q) = some (tP (p ++ q)) := by
  rw [catT_eq, if_pos (by simp; omega)]
  simp
theorem add_nn (i j : Nat) : binD .Add (.int i) (.int j) = some (.int (i + j : Nat)) := by
  show some (D.int ((i : Int) + (j : Int))) = _
  rw [Int.natCast_add]
/-! sorting -/
theorem sort_nat {l m : List Nat} (hp : l.Perm m) (hm : m.Pairwise (· < ·)) : sortI (l.map fun (x : Nat) => (x : Int)) = m.map fun (x : Nat) => (x : Int) :=
  (sortI_one (hp.symm.map _) (List.pairwise_map.mpr (hm.imp fun h => by omega))).symm
theorem x_sorted {l m : List Nat} (hp : l.Perm m) (hm : m.Pairwise (· < ·)) : bltD .sorted [lN l] = some (lN m) := by
  have e : bltD .sorted [lN l] = (match intsOf ((l.map fun (x : Nat) => (x : Int)).map D.int) with
    | some ns => some (.lst ((sortI ns).map .int))
    | none => (tupsOf ((l.map fun (x : Nat) => (x : Int)).map D.int)).map fun nss => .lst ((sortL nss).map fun ns => .tup (ns.map .int))) := rfl
  rw [e, intsOf_map]
  show some (D.lst ((sortI (l.map fun (x : Nat) => (x : Int))).map D.int)) = _
  rw [sort_nat hp hm]
theorem tups_of : ∀ l : List (List Nat), (∀ c ∈ l, 0 < c.length) → tupsOf (l.map tN) = some (l.map fun c => c.map fun (x : Nat) => (x : Int))
  | [], _ => rfl
  | [] :: l, h => absurd (h [] List.mem_cons_self) (by simp)
  | (n :: c) :: l, h => by
    rw [List.map_cons]
    show (match intsOf (((n :: c).map fun (x : Nat) => (x : Int)).map D.int) with | some (n :: ns) => (tupsOf (l.map tN)).map ((n :: ns) :: ·) | _ => none) = _
    rw [ints_map, tups_of l fun d hd => h d (List.mem_cons_of_mem _ hd)]
    rfl
theorem x_sortedL {l m : List (List Nat)} (hp : l.Perm m) (hl : ∀ c ∈ l, 0 < c.length) (hm : m.Pairwise fun a b => HT.lexLt (b.map fun (x : Nat) => (x : Int)) (a.map fun (x : Nat) => (x : Int)) = false) : bltD .sorted [.lst (l.map tN)] = some (.lst (m.map tN)) := by
  cases e : l with
  | nil =>
    subst e
    rw [List.nil_perm.mp hp]
    rfl
  | cons c r =>
    have k : bltD .sorted [.lst ((c :: r).map tN)] = (tupsOf ((c :: r).map tN)).map fun nss => .lst ((sortL nss).map fun ns => .tup (ns.map .int)) := rfl
    rw [k, ← e, tups_of l hl, Option.map_some]
    have s : sortL (l.map fun c => c.map fun (x : Nat) => (x : Int)) = m.map fun c => c.map fun (x : Nat) => (x : Int) :=
      sortedL_one ((sortL_perm _).trans (hp.map _)) (sortL_sorted _) (List.pairwise_map.mpr hm)
    rw [s, List.map_map]
    rfl
theorem minI_le (x : Int) : ∀ l : List Int, (∀ y ∈ l, x ≤ y) → minI x l = x
  | [], _ => rfl
  | y :: l, h => by
    have e : minI x (y :: l) = minI (if y < x then y else x) l := rfl
    have := h y List.mem_cons_self
    rw [e, if_neg (by omega)]
    exact minI_le x l fun z hz => h z (List.mem_cons_of_mem _ hz)
theorem minI_mem (x : Int) : ∀ l : List Int, (minI x l ∈ x :: l) ∧ ∀ y ∈ x :: l, minI x l ≤ y
  | [] => ⟨by simp [minI], fun y hy => by rw [List.mem_singleton.mp hy]; exact Int.le_refl _⟩
  | y :: l => by
    have e : minI x (y :: l) = minI (if y < x then y else x) l := rfl
    rw [e]
    obtain ⟨h1, h2⟩ := minI_mem (if y < x then y else x) l
    by_cases g : y < x
    · rw [if_pos g] at h1 h2 ⊢
      refine ⟨List.mem_cons_of_mem _ h1, fun z hz => ?_⟩
      rcases List.mem_cons.mp hz with rfl | hz
      · have := h2 y List.mem_cons_self; omega
      · exact h2 z hz
    · rw [if_neg g] at h1 h2 ⊢
      refine ⟨?_, fun z hz => ?_⟩
      · rcases List.mem_cons.mp h1 with h1 | h1
        · rw [h1]; exact List.mem_cons_self
        · exact List.mem_cons_of_mem _ (List.mem_cons_of_mem _ h1)
      · rcases List.mem_cons.mp hz with rfl | hz
        · exact h2 z List.mem_cons_self
        · rcases List.mem_cons.mp hz with rfl | hz
          · have := h2 x List.mem_cons_self; omega
          · exact h2 z (List.mem_cons_of_mem _ hz)
/-- the least of a list -/
theorem x_minL {l : List Nat} {m : Nat} (hm : m ∈ l) (h : ∀ y ∈ l, m ≤ y) : bltD .min [lN l] = some (.int m) := by
  cases l with
  | nil => cases hm
  | cons x l =>
    have e : bltD .min [lN (x :: l)] = (match intsOf (((x :: l).map fun (x : Nat) => (x : Int)).map D.int) with
      | some (n :: ns) => some (.int (minI n ns))
      | _ => none) := rfl
    rw [e, intsOf_map]
    show some (D.int (minI (x : Int) (l.map fun (x : Nat) => (x : Int)))) = _
    obtain ⟨h1, h2⟩ := minI_mem (x : Int) (l.map fun (x : Nat) => (x : Int))
    have h3 := h2 (m : Int) (by
      rw [← List.map_cons (f := fun (x : Nat) => (x : Int))]
      exact List.mem_map.mpr ⟨m, hm, rfl⟩)
    rw [← List.map_cons (f := fun (x : Nat) => (x : Int))] at h1
    obtain ⟨y, hy, ey⟩ := List.mem_map.mp h1
    have := h y hy
    rw [← ey] at h3 ⊢
    have : y = m := by omega
    rw [this]
theorem sum_nat : ∀ l : List Nat, (l.map fun (x : Nat) => (x : Int)).sum = (l.sum : Nat)
  | [] => rfl
  | x :: l => by
    rw [List.map_cons, List.sum_cons, List.sum_cons, sum_nat l]
    omega
theorem x_sum (l : List Nat) : bltD .sum [lN l] = some (.int (l.sum : Nat)) := by
  have e : bltD .sum [lN l] = (intsOf ((l.map fun (x : Nat) => (x : Int)).map D.int)).map fun ns => .int ns.sum := rfl
  rw [e, intsOf_map]
  show some (D.int _) = _
  rw [sum_nat]
theorem x_sumT (l : List Nat) : bltD .sum [tN l] = some (.int (l.sum : Nat)) := by
  have e : bltD .sum [tN l] = (intsOf ((l.map fun (x : Nat) => (x : Int)).map D.int)).map fun ns => .int ns.sum := rfl
  rw [e, intsOf_map]
  show some (D.int _) = _
  rw [sum_nat]
theorem filterMap_if {A B : Type} (f : A → B) (q : A → Bool) : ∀ l : List A, l.filterMap (fun x => if q x = true then some (f x) else none) = (l.filter q).map f
  | [] => rfl
  | x :: l => by
    rw [List.filterMap_cons, List.filter_cons]
    by_cases h : q x = true
    · rw [if_pos h, if_pos h, List.map_cons, filterMap_if f q l]
    · rw [if_neg h, if_neg h, filterMap_if f q l]
theorem forR_step {b : D → Env → Store → Out} {x : D} {r : List D} {S S1 : Env} {st st1 : Store} (h : b x S st = .nxt S1 st1) : forR b (x :: r) S st = forR b r S1 st1 := by rw [forR, h]
theorem forR_nil {b : D → Env → Store → Out} {S : Env} {st : Store} : forR b [] S st = .nxt S st := by rw [forR]
theorem forR_ret {b : D → Env → Store → Out} {x : D} {r : List D} {S : Env} {st st1 : Store} {d : D} (h : b x S st = .ret d st1) : forR b (x :: r) S st = .ret d st1 := by rw [forR, h]
/-- a loop by the number of its turn -/
theorem for_num {b : D → Env → Store → Out} (I : Nat → Env → Store → Prop) (l : List D) : ∀ (k0 : Nat) (S : Env) (st : Store), I k0 S st → (∀ k x S st, l[k]? = some x → I (k0 + k) S st → ∃ S' st', b x S st = .nxt S' st' ∧ I (k0 + k + 1) S' st') → ∃ S' st', forR b l S st = .nxt S' st' ∧ I (k0 + l.length) S' st' := by
  induction l with
  | nil => intro k0 S st h _; exact ⟨S, st, rfl, h⟩
  | cons x l ih =>
    intro k0 S st h hs
    obtain ⟨S1, st1, e1, h1⟩ := hs 0 x S st rfl h
    obtain ⟨S2, st2, e2, h2⟩ := ih (k0 + 1) S1 st1 h1 fun k y S st hk hI => by
      obtain ⟨S', st', e, i⟩ := hs (k + 1) y S st hk (by rw [show k0 + (k + 1) = k0 + 1 + k by omega]; exact hI)
      exact ⟨S', st', e, by rw [show k0 + 1 + k + 1 = k0 + (k + 1) + 1 by omega]; exact i⟩
    exact ⟨S2, st2, (forR_step e1).trans e2, by rw [List.length_cons, show k0 + (l.length + 1) = k0 + 1 + l.length by omega]; exact h2⟩
theorem for_list {b : D → Env → Store → Out} (I : Nat → Env → Store → Prop) (l : List D) {S : Env} {st : Store} (h : I 0 S st) (hs : ∀ k x S st, l[k]? = some x → I k S st → ∃ S' st', b x S st = .nxt S' st' ∧ I (k + 1) S' st') : ∃ S' st', forR b l S st = .nxt S' st' ∧ I l.length S' st' := by
  obtain ⟨S', st', e, i⟩ := for_num I l 0 S st h fun k x S st hk hI => by
    rw [Nat.zero_add] at hI ⊢
    exact hs k x S st hk hI
  exact ⟨S', st', e, by rw [Nat.zero_add] at i; exact i⟩
theorem for_enum {b : D → Env → Store → Out} (I : Nat → Env → Store → Prop) (l : List D) {S : Env} {st : Store} (h : I 0 S st) (hs : ∀ k x S st, l[k]? = some x → I k S st → ∃ S' st', b (.tup [.int k, x]) S st = .nxt S' st' ∧ I (k + 1) S' st') : ∃ S' st', forR b (enumD l) S st = .nxt S' st' ∧ I l.length S' st' := by
  obtain ⟨S', st', e, i⟩ := for_list I (enumD l) h fun k x S st hk hI => by
    obtain ⟨y, hy, rfl⟩ := enumD_get hk
    exact hs k y S st hy hI
  exact ⟨S', st', e, by rw [enumD_len] at i; exact i⟩
theorem for_range {b : D → Env → Store → Out} (I : Nat → Env → Store → Prop) (n : Nat) {S : Env} {st : Store} (h : I 0 S st) (hs : ∀ k S st, k < n → I k S st → ∃ S' st', b (.int k) S st = .nxt S' st' ∧ I (k + 1) S' st') : ∃ S' st', forR b ((List.range n).map fun (x : Nat) => D.int x) S st = .nxt S' st' ∧ I n S' st' := by
  obtain ⟨S', st', e, i⟩ := for_list I ((List.range n).map fun (x : Nat) => D.int x) h fun k x S st hk hI => by
    rw [List.getElem?_map] at hk
    by_cases hkn : k < n
    · rw [List.getElem?_range hkn] at hk
      cases hk
      exact hs k S st hkn hI
    · rw [List.getElem?_eq_none (by rw [List.length_range]; omega)] at hk
      cases hk
  exact ⟨S', st', e, by rw [List.length_map, List.length_range] at i; exact i⟩
/-- a comprehension without a test, by the number of its turn -/
theorem comp_num {f : D → Store → R (Option D)} (I : Nat → List D → Store → Prop) (l : List D) : ∀ (k0 : Nat) (acc : List D) (st : Store), I k0 acc st → (∀ k x acc st, l[k]? = some x → I (k0 + k) acc st → ∃ d st', f x st = .ok (some d) st' ∧ I (k0 + k + 1) (acc ++ [d]) st') → ∃ ds st', compR f l st = .ok ds st' ∧ I (k0 + l.length) (acc ++ ds) st' := by
  induction l with
  | nil => intro k0 acc st h _; exact ⟨[], st, rfl, by rw [List.append_nil]; exact h⟩
  | cons x l ih =>
    intro k0 acc st h hs
    obtain ⟨d, st1, e1, h1⟩ := hs 0 x acc st rfl h
    obtain ⟨ds, st2, e2, h2⟩ := ih (k0 + 1) (acc ++ [d]) st1 h1 fun k y acc st hk hI => by
      obtain ⟨d', st', e, i⟩ := hs (k + 1) y acc st hk (by rw [show k0 + (k + 1) = k0 + 1 + k by omega]; exact hI)
      exact ⟨d', st', e, by rw [show k0 + 1 + k + 1 = k0 + (k + 1) + 1 by omega]; exact i⟩
    refine ⟨d :: ds, st2, ?_, by rw [List.length_cons, show k0 + (l.length + 1) = k0 + 1 + l.length by omega, List.append_cons]; exact h2⟩
    rw [compR, e1]
    show R.bind (compR f l st1) _ = _
    rw [e2]
    rfl
theorem compR_none {f : D → Store → R (Option D)} {st : Store} : ∀ {l : List D}, (∀ x ∈ l, f x st = .ok none st) → compR f l st = .ok [] st
  | [], _ => rfl
  | x :: l, h => by
    rw [compR, h x List.mem_cons_self]
    show R.bind (compR f l st) _ = _
    rw [compR_none fun y hy => h y (List.mem_cons_of_mem _ hy)]
    rfl
section
variable {C : Calls} {st : Store}
theorem x_whl {c : IE} {b : ISs} {g : List Nat} {S : Env} {W : Nat} : exec C W (.whl c b g) S st = whlR (fun S st => (ev C S c st).bind fun x st => .of (truD (see st x)) st) (execs C W b) W S st := by rw [exec]
theorem i_range {S : Env} {e : IE} {n : Nat} {st1 : Store} (h : ev C S e st = .ok (.int n) st1) (hn : n ≤ 1000) : itm C S (.rng (.cons e .nil)) st = .ok ((List.range n).map fun (x : Nat) => D.int x) st1 := by
  have z := i_rng (es_cons h es_nil) (rng1_of n hn)
  rw [rangeD_nat] at z
  exact z
theorem x_unt {W : Nat} {S S2 : Env} {ts : ITs} {es : IEs} {l : List D} {st1 st2 : Store} (h : evs C S es st = .ok l st1) (ha : asgs C ts l S st1 = .ok S2 st2) : exec C W (.unt ts es) S st = .nxt S2 st2 := by
  rw [exec, h]
  show R.out (asgs C ts l S st1) _ = _
  rw [ha]
  rfl
theorem x_unp {W : Nat} {S S2 : Env} {t : IT} {e : IE} {d : D} {st1 st2 : Store} (h : ev C S e st = .ok d st1) (ha : asg C t d S st1 = .ok S2 st2) : exec C W (.unp t e) S st = .nxt S2 st2 := by
  rw [exec, h]
  show R.out (asg C t d S st1) _ = _
  rw [ha]
  rfl
theorem as_nil {S : Env} : asgs C .nil [] S st = .ok S st := by rw [asgs]
theorem as_cons {S S1 S2 : Env} {t : IT} {ts : ITs} {d : D} {l : List D} {st1 st2 : Store} (h : asg C t d S st = .ok S1 st1) (k : asgs C ts l S1 st1 = .ok S2 st2) : asgs C (.cons t ts) (d :: l) S st = .ok S2 st2 := by
  rw [asgs, h]
  exact k
theorem e_slc {S : Env} {a lo hi : IE} {x z : D} {l h : Option Int} {st1 st2 st3 : Store} (ha : ev C S a st = .ok x st1) (hl : (if isGap lo then R.ok none st1 else (ev C S lo st1).bind intR) = .ok l st2) (hh : (if isGap hi then R.ok none st2 else (ev C S hi st2).bind intR) = .ok h st3) (hz : slcD (see st3 x) l h = some z) : ev C S (.slc a lo hi) st = .ok z st3 := by
  rw [ev, ha]
  show R.bind (if isGap lo then R.ok none st1 else (ev C S lo st1).bind intR) _ = _
  rw [hl]
  show R.bind (if isGap hi then R.ok none st2 else (ev C S hi st2).bind intR) _ = _
  rw [hh]
  show R.of _ _ = _
  rw [hz]
  rfl
theorem cut_to (l : List D) (t : Nat) : cutD l none (some (t : Int)) = l.take t := by
  unfold cutD
  rw [HT.sIx_nat, HT.sIx_none]
  by_cases h : t ≤ l.length
  · rw [Nat.min_eq_left h]; simp
  · rw [Nat.min_eq_right (by omega), List.take_of_length_le (by omega : l.length ≤ t)]; simp
theorem whl_stop {c : Env → Store → R Bool} {b : Env → Store → Out} {n : Nat} {S : Env} {st1 : Store} (h : c S st = .ok false st1) : whlR c b (n + 1) S st = .nxt S st1 := by rw [whlR, h]
theorem whl_step {c : Env → Store → R Bool} {b : Env → Store → Out} {n : Nat} {S S1 : Env} {st1 st2 : Store} (h : c S st = .ok true st1) (hb : b S st1 = .nxt S1 st2) : whlR c b (n + 1) S st = whlR c b n S1 st2 := by
  rw [whlR, h]
  show (match b S st1 with | .nxt S st => whlR c b n S st | .cnt S st => whlR c b n S st | .brk S st => _ | .ret d st => _ | .err e st => _ | .no => _) = _
  rw [hb]
theorem x_iffR {S : Env} {W : Nat} {c : IE} {p q : ISs} {d x : D} {st1 st2 : Store} (h : ev C S c st = .ok x st1) (hz : truD (see st1 x) = some true) (hp : execs C W p S st1 = .ret d st2) : exec C W (.iff c p q) S st = .ret d st2 := (x_iffT h hz).trans hp
end
end DI.Law

set_option Elab.async false
set_option linter.all false
set_option maxRecDepth 100000
set_option maxHeartbeats 1000000
namespace DI.Law
open PySem L2 DI
/-! ### the drawn numbers -/
theorem mul_eq (i j : Int) : binD .Mult (.int i) (.int j) = if mulOk i j then some (.int (i * j)) else none := rfl
theorem mul_l {i : Int} (j : Int) (h : -(2 ^ 64) < i ∧ i < 2 ^ 64) : binD .Mult (.int i) (.int j) = some (.int (i * j)) := by
  rw [mul_eq, if_pos]
  unfold mulOk
  rw [decide_eq_true h]
  rfl
theorem mul_r (i : Int) {j : Int} (h : -(2 ^ 64) < j ∧ j < 2 ^ 64) : binD .Mult (.int i) (.int j) = some (.int (i * j)) := by
  rw [mul_eq, if_pos]
  unfold mulOk
  rw [decide_eq_true h, Bool.or_true]
theorem add_eq (i j : Int) : binD .Add (.int i) (.int j) = some (.int (i + j)) := rfl
theorem sub_eq (i j : Int) : binD .Sub (.int i) (.int j) = some (.int (i - j)) := rfl
theorem mod_eq (i : Int) {j : Int} (h : j ≠ 0) : binD .Mod (.int i) (.int j) = some (.int (i.fmod j)) := if_pos h
theorem div_eq (i : Int) {j : Int} (h : j ≠ 0 ∧ j.natAbs < 1073741824) : binD .FloorDiv (.int i) (.int j) = some (.int (i.fdiv j)) := if_pos h
theorem fmod_in (i : Int) {j : Int} (h : 0 < j) : 0 ≤ i.fmod j ∧ i.fmod j < j := ⟨Int.fmod_nonneg_of_pos i h, Int.fmod_lt_of_pos i h⟩
theorem fdiv_in {i j : Int} (h : 0 ≤ i) (hj : 0 < j) : 0 ≤ i.fdiv j ∧ i.fdiv j ≤ i := by
  rw [Int.fdiv_eq_ediv_of_nonneg i (by omega)]
  exact ⟨Int.ediv_nonneg h (by omega), Int.ediv_le_self j h⟩
section
variable {C : Calls} {st : Store}
theorem r_mixed {c n : Int} (hc : 0 ≤ c ∧ c < 2 ^ 60) (hn : 0 ≤ n ∧ n < 2 ^ 50) : ∃ v : Int, 0 ≤ v ∧ v < 2 ^ 32 ∧ ∀ st, runF C WW f__law_mixed [.int c, .int n] st = .ok (.int v) st := by
  have f1 := fmod_in ((((c * (1 + 2 * n)) * 48271).fmod 2147483647 + (7919 * n) * n + 104729 * n) * 69621) (j := 2147483629) (by decide)
  have f2 := fdiv_in (j := 7) f1.1 (by decide)
  refine ⟨_, f2.1, by omega, fun st => ?_⟩
  show outR (execs C WW f__law_mixed.body [some (.int c), some (.int n), none] st) = _
  have e1 : exec C WW (.set 2 (.bin .Add (.bin .Add (.bin .Mod (.bin .Mult (.bin .Mult (.var 0) (.bin .Add (.con (.int 1)) (.bin .Mult (.con (.int 2)) (.var 1)))) (.con (.int 48271))) (.con (.int 2147483647))) (.bin .Mult (.bin .Mult (.con (.int 7919)) (.var 1)) (.var 1))) (.bin .Mult (.con (.int 104729)) (.var 1)))) [some (.int c), some (.int n), none] st =
      .nxt [some (.int c), some (.int n), some (.int (((c * (1 + 2 * n)) * 48271).fmod 2147483647 + (7919 * n) * n + 104729 * n))] st := by
    have p1 : ev C [some (.int c), some (.int n), none] (.bin .Mult (.con (.int 2)) (.var 1)) st = .ok (.int (2 * n)) st := e_bin e_con (e_var rfl) (mul_l n (by omega))
    have p2 : ev C [some (.int c), some (.int n), none] (.bin .Mult (.var 0) (.bin .Add (.con (.int 1)) (.bin .Mult (.con (.int 2)) (.var 1)))) st = .ok (.int (c * (1 + 2 * n))) st := e_bin (e_var rfl) (e_bin e_con p1 (add_eq _ _)) (mul_l _ (by omega))
    have p3 : ev C [some (.int c), some (.int n), none] (.bin .Mod (.bin .Mult (.bin .Mult (.var 0) (.bin .Add (.con (.int 1)) (.bin .Mult (.con (.int 2)) (.var 1)))) (.con (.int 48271))) (.con (.int 2147483647))) st = .ok (.int (((c * (1 + 2 * n)) * 48271).fmod 2147483647)) st :=
      e_bin (e_bin p2 e_con (mul_r _ (by omega))) e_con (mod_eq _ (by decide))
    have p4 : ev C [some (.int c), some (.int n), none] (.bin .Mult (.bin .Mult (.con (.int 7919)) (.var 1)) (.var 1)) st = .ok (.int ((7919 * n) * n)) st := e_bin (e_bin e_con (e_var rfl) (mul_l _ (by omega))) (e_var rfl) (mul_r _ (by omega))
    have p5 : ev C [some (.int c), some (.int n), none] (.bin .Mult (.con (.int 104729)) (.var 1)) st = .ok (.int (104729 * n)) st := e_bin e_con (e_var rfl) (mul_l _ (by omega))
    exact x_set (e_bin (e_bin p3 p4 (add_eq _ _)) p5 (add_eq _ _))
  generalize ((c * (1 + 2 * n)) * 48271).fmod 2147483647 + (7919 * n) * n + 104729 * n = t at e1
  have e2 : exec C WW (.ret (.bin .FloorDiv (.bin .Mod (.bin .Mult (.var 2) (.con (.int 69621))) (.con (.int 2147483629))) (.con (.int 7)))) [some (.int c), some (.int n), some (.int t)] st = .ret (.int (((t * 69621).fmod 2147483629).fdiv 7)) st :=
    x_ret (e_bin (e_bin (e_bin (e_var rfl) e_con (mul_r _ (by omega))) e_con (mod_eq _ (by decide))) e_con (div_eq _ (by decide)))
  have z : execs C WW f__law_mixed.body [some (.int c), some (.int n), none] st = .ret (.int (((t * 69621).fmod 2147483629).fdiv 7)) st := (s_nxt e1).trans (s_ret e2)
  rw [z]
  rfl
/-- the store in which the draws stand -/
def mK : List KD := [.inl (.inr "cells"), .inl (.inr "great"), .inl (.inr "spot")]
structure DrSt (B : Int) (st : Store) : Prop where
  ex : ∃ (cells great : List Int) (spot : Int) (rest : Store), st = .dic false mK [lI cells, .obj 1, .int spot] :: .lst (great.map .int) :: rest ∧ cells.length = 64 ∧ (∀ x ∈ cells, 0 ≤ x ∧ x < 2 ^ 32) ∧ 0 ≤ spot ∧ spot ≤ B
theorem x_sto {W n : Nat} {S : Env} {st1 st2 st3 : Store} {e o k : IE} {d z y : D} {cl : Cell} (h : ev C S e st = .ok d st1) (ho : ev C S o st1 = .ok (.obj n) st2) (hk : ev C S k st2 = .ok z st3) (hp : putD (see st3 (.obj n)) z d = some y) (hc : cellOf y = some cl) :
    exec C W (.sto o k e) S st = .nxt S (st3.set n cl) := by
  rw [exec, h]
  show R.out (ev C S o st1) _ = _
  rw [ho]
  show R.out (ev C S k st2) _ = _
  rw [hk]
  show (match putD (see st3 (.obj n)) z d with | some o => _ | none => _) = _
  rw [hp]
  show (match cellOf y with | some c => _ | none => _) = _
  rw [hc]
theorem atI_in {l : List Int} {i : Int} (h : 0 ≤ i) (hl : i < l.length) : ∃ x ∈ l, idxD (lI l) (.int i) = some (.int x) := by
  obtain ⟨k, rfl⟩ : ∃ k : Nat, i = k := ⟨i.toNat, by omega⟩
  have hn : k < l.length := by omega
  refine ⟨l[k], List.getElem_mem hn, ?_⟩
  show atI _ _ = _
  rw [atI_nat, List.getElem?_map, List.getElem?_eq_getElem hn]
  rfl
theorem r_draw (hm : ∀ c n : Int, 0 ≤ c ∧ c < 2 ^ 60 → 0 ≤ n ∧ n < 2 ^ 50 → ∃ v : Int, 0 ≤ v ∧ v < 2 ^ 32 ∧ ∀ st, C 5 [.int c, .int n] st = .ok (.int v) st) {B : Int} (hB : B < 2 ^ 40) (h : DrSt B st) {top : Int} (ht : 0 < top) (ht2 : top ≤ 1000) :
    ∃ (v : Int) (st' : Store), runF C WW f__law_draw [.obj 0, .int top] st = .ok (.int v) st' ∧ 0 ≤ v ∧ v < top ∧ DrSt (B + 1) st' := by
  obtain ⟨cells, great, spot, rest, rfl, hc64, hcr, hs0, hsB⟩ := h.ex
  let st1 : Store := .dic false mK [lI cells, .obj 1, .int (spot + 1)] :: .lst (great.map .int) :: rest
  show ∃ (v : Int) (st' : Store), outR (execs C WW f__law_draw.body [some (.obj 0), some (.int top), none, none, none] _) = .ok (.int v) st' ∧ _
  have e1 : exec C WW (.set 2 (.idx (.var 0) (.con (.str "spot")))) [some (.obj 0), some (.int top), none, none, none] (.dic false mK [lI cells, .obj 1, .int spot] :: .lst (great.map .int) :: rest) = .nxt [some (.obj 0), some (.int top), some (.int spot), none, none] (.dic false mK [lI cells, .obj 1, .int spot] :: .lst (great.map .int) :: rest) :=
    x_set (e_idx (e_var rfl) e_con rfl)
  have e2 : exec C WW (.sto (.var 0) (.con (.str "spot")) (.bin .Add (.var 2) (.con (.int 1)))) [some (.obj 0), some (.int top), some (.int spot), none, none] (.dic false mK [lI cells, .obj 1, .int spot] :: .lst (great.map .int) :: rest) = .nxt [some (.obj 0), some (.int top), some (.int spot), none, none] st1 :=
    x_sto (n := 0) (y := .dic false mK [lI cells, .obj 1, .int (spot + 1)]) (cl := .dic false mK [lI cells, .obj 1, .int (spot + 1)]) (e_bin (e_var rfl) e_con (add_eq _ _)) (e_var rfl) e_con rfl rfl
  have dr1 : DrSt (B + 1) st1 := ⟨cells, great, spot + 1, rest, rfl, hc64, hcr, by omega, by omega⟩
  -- the last row
  obtain ⟨c0, hc0, ec0⟩ := atI_in (l := cells) (i := spot.fmod 64) (fmod_in spot (by decide)).1 (by have := (fmod_in spot (j := 64) (by decide)).2; omega)
  have hd := fdiv_in (i := spot) (j := 64) hs0 (by decide)
  have hc0' := hcr c0 hc0
  obtain ⟨v1, v1a, v1b, v1e⟩ := hm (c0 + 31 * spot.fdiv 64) spot (by omega) (by omega)
  obtain ⟨v2, v2a, v2b, v2e⟩ := hm v1 (spot + 7) (by omega) (by omega)
  have last : ∀ o3 o4 : Option D, exec C WW (.ret (.bin .Mod (.cal 5 "_law_mixed" (.cons (.cal 5 "_law_mixed" (.cons (.bin .Add (.idx (.idx (.var 0) (.con (.str "cells"))) (.bin .Mod (.var 2) (.con (.int 64)))) (.bin .Mult (.con (.int 31)) (.bin .FloorDiv (.var 2) (.con (.int 64))))) (.cons (.var 2) .nil))) (.cons (.bin .Add (.var 2) (.con (.int 7))) .nil))) (.var 1)))
      [some (.obj 0), some (.int top), some (.int spot), o3, o4] st1 = .ret (.int (v2.fmod top)) st1 := by
    intro o3 o4
    have q1 : ev C [some (.obj 0), some (.int top), some (.int spot), o3, o4] (.idx (.idx (.var 0) (.con (.str "cells"))) (.bin .Mod (.var 2) (.con (.int 64)))) st1 = .ok (.int c0) st1 := e_idx (x := lI cells) (e_idx (e_var rfl) e_con rfl) (e_bin (e_var rfl) e_con (mod_eq _ (by decide))) ec0
    have q2 : ev C [some (.obj 0), some (.int top), some (.int spot), o3, o4] (.bin .Mult (.con (.int 31)) (.bin .FloorDiv (.var 2) (.con (.int 64)))) st1 = .ok (.int (31 * spot.fdiv 64)) st1 := e_bin e_con (e_bin (e_var rfl) e_con (div_eq _ (by decide))) (mul_l _ (by omega))
    have q3 : ev C [some (.obj 0), some (.int top), some (.int spot), o3, o4] (.cal 5 "_law_mixed" (.cons (.bin .Add (.idx (.idx (.var 0) (.con (.str "cells"))) (.bin .Mod (.var 2) (.con (.int 64)))) (.bin .Mult (.con (.int 31)) (.bin .FloorDiv (.var 2) (.con (.int 64))))) (.cons (.var 2) .nil))) st1 = .ok (.int v1) st1 :=
      (e_cal (es_cons (e_bin q1 q2 (add_eq _ _)) (es_cons (e_var rfl) es_nil))).trans (v1e st1)
    have q4 : ev C [some (.obj 0), some (.int top), some (.int spot), o3, o4] (.cal 5 "_law_mixed" (.cons (.cal 5 "_law_mixed" (.cons (.bin .Add (.idx (.idx (.var 0) (.con (.str "cells"))) (.bin .Mod (.var 2) (.con (.int 64)))) (.bin .Mult (.con (.int 31)) (.bin .FloorDiv (.var 2) (.con (.int 64))))) (.cons (.var 2) .nil))) (.cons (.bin .Add (.var 2) (.con (.int 7))) .nil))) st1 = .ok (.int v2) st1 :=
      (e_cal (es_cons q3 (es_cons (e_bin (e_var rfl) e_con (add_eq _ _)) es_nil))).trans (v2e st1)
    exact x_ret (e_bin q4 (e_var rfl) (mod_eq _ (by omega)))
  have fin := fmod_in v2 ht
  have ecg : ev C [some (.obj 0), some (.int top), some (.int spot), none, none] (.cmp .NotEq (.idx (.var 0) (.con (.str "great"))) (.lst .nil)) st1 = .ok (.bl (!decide (great = []))) st1 := by
    refine e_cmp (x := .obj 1) (e_idx (e_var rfl) e_con rfl) (e_lst es_nil (by decide)) ?_
    show (eqD (lI great) (lI [])).map not = _
    rw [eqD_l]
    rfl
  by_cases hg : great = []
  · have e3 := x_iffF (W := WW) (p := .cons (.set 3 (.bin .Mod (.var 2) (.blt .len (.cons (.idx (.var 0) (.con (.str "great"))) .nil)))) (.cons (.set 4 (.idx (.idx (.var 0) (.con (.str "great"))) (.var 3))) (.cons (.iff (.cmp .Gt (.var 4) (.con (.int 0))) (.cons (.sto (.idx (.var 0) (.con (.str "great"))) (.var 3) (.bin .FloorDiv (.var 4) (.var 1))) (.cons (.ret (.bin .Mod (.var 4) (.var 1))) .nil)) .nil) .nil))) (q := .nil) ecg (by rw [decide_eq_true hg]; rfl)
    refine ⟨v2.fmod top, st1, ?_, fin.1, fin.2, dr1⟩
    have z := (s_nxt (r := _) e1).trans ((s_nxt (r := _) e2).trans ((s_nxt (r := _) (e3.trans s_nil)).trans (s_ret (r := .nil) (last none none))))
    rw [show execs C WW f__law_draw.body _ _ = _ from z]
    rfl
  · have hgl : 0 < (great.length : Int) := by
      cases great with
      | nil => exact absurd rfl hg
      | cons _ _ => simp
    obtain ⟨g, hgm, eg⟩ := atI_in (l := great) (i := spot.fmod great.length) (fmod_in spot hgl).1 (fmod_in spot hgl).2
    have e3 := x_iffT (W := WW) (p := .cons (.set 3 (.bin .Mod (.var 2) (.blt .len (.cons (.idx (.var 0) (.con (.str "great"))) .nil)))) (.cons (.set 4 (.idx (.idx (.var 0) (.con (.str "great"))) (.var 3))) (.cons (.iff (.cmp .Gt (.var 4) (.con (.int 0))) (.cons (.sto (.idx (.var 0) (.con (.str "great"))) (.var 3) (.bin .FloorDiv (.var 4) (.var 1))) (.cons (.ret (.bin .Mod (.var 4) (.var 1))) .nil)) .nil) .nil))) (q := .nil) ecg (by rw [decide_eq_false hg]; rfl)
    have el : bltD .len [lI great] = some (.int great.length) := by simp [bltD]
    have e4 : exec C WW (.set 3 (.bin .Mod (.var 2) (.blt .len (.cons (.idx (.var 0) (.con (.str "great"))) .nil)))) [some (.obj 0), some (.int top), some (.int spot), none, none] st1 = .nxt [some (.obj 0), some (.int top), some (.int spot), some (.int (spot.fmod great.length)), none] st1 :=
      x_set (e_bin (e_var rfl) (e_blt (es_cons (x := .obj 1) (e_idx (e_var rfl) e_con rfl) es_nil) el) (mod_eq _ (by omega)))
    have e5 : exec C WW (.set 4 (.idx (.idx (.var 0) (.con (.str "great"))) (.var 3))) [some (.obj 0), some (.int top), some (.int spot), some (.int (spot.fmod great.length)), none] st1 = .nxt [some (.obj 0), some (.int top), some (.int spot), some (.int (spot.fmod great.length)), some (.int g)] st1 :=
      x_set (e_idx (x := .obj 1) (e_idx (e_var rfl) e_con rfl) (e_var rfl) eg)
    have ec2 : ev C [some (.obj 0), some (.int top), some (.int spot), some (.int (spot.fmod great.length)), some (.int g)] (.cmp .Gt (.var 4) (.con (.int 0))) st1 = .ok (.bl (decide (0 < g))) st1 := e_cmp (e_var rfl) e_con rfl
    by_cases hg0 : 0 < g
    · let st2 : Store := .dic false mK [lI cells, .obj 1, .int (spot + 1)] :: .lst ((great.set (spot.fmod great.length).toNat (g.fdiv top)).map .int) :: rest
      have hi := fmod_in spot hgl
      have ep : putD (lI great) (.int (spot.fmod great.length)) (.int (g.fdiv top)) = some (lI (great.set (spot.fmod great.length).toNat (g.fdiv top))) := by
        rw [put_eq]
        have q : ixN (great.map D.int).length (spot.fmod great.length) = some (spot.fmod great.length).toNat := by
          unfold ixN
          rw [if_pos hi.1, if_pos (by simpa using hi.2)]
        rw [q]
        show some (D.lst _) = some (D.lst _)
        rw [List.map_set]
      have e6 : exec C WW (.sto (.idx (.var 0) (.con (.str "great"))) (.var 3) (.bin .FloorDiv (.var 4) (.var 1))) [some (.obj 0), some (.int top), some (.int spot), some (.int (spot.fmod great.length)), some (.int g)] st1 = .nxt [some (.obj 0), some (.int top), some (.int spot), some (.int (spot.fmod great.length)), some (.int g)] st2 :=
        x_sto (n := 1) (cl := .lst ((great.set (spot.fmod great.length).toNat (g.fdiv top)).map .int)) (e_bin (e_var rfl) (e_var rfl) (div_eq _ (by omega))) (e_idx (e_var rfl) e_con rfl) (e_var rfl) ep rfl
      have e7 : exec C WW (.ret (.bin .Mod (.var 4) (.var 1))) [some (.obj 0), some (.int top), some (.int spot), some (.int (spot.fmod great.length)), some (.int g)] st2 = .ret (.int (g.fmod top)) st2 := x_ret (e_bin (e_var rfl) (e_var rfl) (mod_eq _ (by omega)))
      have e8 := x_iffT (W := WW) (p := .cons (.sto (.idx (.var 0) (.con (.str "great"))) (.var 3) (.bin .FloorDiv (.var 4) (.var 1))) (.cons (.ret (.bin .Mod (.var 4) (.var 1))) .nil)) (q := .nil) ec2 (by rw [decide_eq_true hg0]; rfl)
      have e9 := e8.trans ((s_nxt (r := .cons (.ret (.bin .Mod (.var 4) (.var 1))) .nil) e6).trans (s_ret (r := .nil) e7))
      have e10 := e3.trans ((s_nxt (r := _) e4).trans ((s_nxt (r := _) e5).trans (s_ret (r := .nil) e9)))
      have ff := fmod_in g ht
      refine ⟨g.fmod top, st2, ?_, ff.1, ff.2, ⟨cells, _, spot + 1, rest, rfl, hc64, hcr, by omega, by omega⟩⟩
      have z : execs C WW f__law_draw.body [some (.obj 0), some (.int top), none, none, none] (.dic false mK [lI cells, .obj 1, .int spot] :: .lst (great.map .int) :: rest) = .ret (.int (g.fmod top)) st2 := (s_nxt e1).trans ((s_nxt e2).trans (s_ret e10))
      rw [z]
      rfl
    · have e8 := x_iffF (W := WW) (p := .cons (.sto (.idx (.var 0) (.con (.str "great"))) (.var 3) (.bin .FloorDiv (.var 4) (.var 1))) (.cons (.ret (.bin .Mod (.var 4) (.var 1))) .nil)) (q := .nil) ec2 (by rw [decide_eq_false hg0]; rfl)
      have e10 := e3.trans ((s_nxt (r := _) e4).trans ((s_nxt (r := _) e5).trans ((s_nxt (r := .nil) (e8.trans s_nil)).trans s_nil)))
      refine ⟨v2.fmod top, st1, ?_, fin.1, fin.2, dr1⟩
      have z := (s_nxt (r := _) e1).trans ((s_nxt (r := _) e2).trans ((s_nxt (r := _) e10).trans (s_ret (r := .nil) (last _ _))))
      rw [show execs C WW f__law_draw.body _ _ = _ from z]
      rfl
end
end DI.Law

set_option Elab.async false
set_option linter.all false
set_option maxRecDepth 100000
set_option maxHeartbeats 1000000
namespace DI.Law
open PySem L2 DI
section
variable {C : Calls} {st : Store}
def Cel (f : List Int) : Prop := f.length = 64 ∧ ∀ x ∈ f, 0 ≤ x ∧ x < 2 ^ 32
theorem Cel.set {f : List Int} (h : Cel f) (i : Nat) {v : Int} (hv : 0 ≤ v ∧ v < 2 ^ 32) : Cel (f.set i v) := ⟨by simp [h.1], fun x hx => by
  rcases List.mem_or_eq_of_mem_set hx with hx | hx
  · exact h.2 x hx
  · rw [hx]; exact hv⟩
theorem put_I {f : List Int} {i v : Int} (h : 0 ≤ i) (hl : i < f.length) : putD (lI f) (.int i) (.int v) = some (lI (f.set i.toNat v)) := by
  rw [put_eq]
  have q : ixN (f.map D.int).length i = some i.toNat := by
    unfold ixN
    rw [if_pos h, if_pos (by simpa using hl)]
  rw [q]
  show some (D.lst _) = some (D.lst _)
  rw [List.map_set]
theorem i_enmS {S : Env} {e : IE} {ns : List Int} {st1 : Store} (h : ev C S e st = .ok (.scr ns) st1) : itm C S (.enm e) st = .ok (enumD (ns.map .int)) st1 := by rw [itm, h]; rfl
theorem i_valS {S : Env} {e : IE} {ns : List Int} {st1 : Store} (h : ev C S e st = .ok (.scr ns) st1) : itm C S (.val e) st = .ok (ns.map .int) st1 := by rw [itm, h]; rfl
theorem rng2_eq (i j : Int) : rngD [.int i, .int j] = if (-(2 ^ 62) ≤ i ∧ i < 2 ^ 62) ∧ (-(2 ^ 62) ≤ j ∧ j < 2 ^ 62) then some (rangeD i j) else none := rfl
abbrev lp1 : ISs := .cons (.sti 1 (.bin .Mod (.var 2) (.con (.int 64))) (.bin .Mod (.bin .Add (.bin .Mult (.idx (.var 1) (.bin .Mod (.var 2) (.con (.int 64)))) (.con (.int 48271))) (.var 3)) (.con (.int 2147483647)))) .nil
abbrev lp2 : ISs := .cons (.sti 1 (.var 2) (.bin .Mod (.bin .Add (.idx (.var 1) (.var 2)) (.bin .Mult (.idx (.var 1) (.bin .Sub (.var 2) (.con (.int 1)))) (.con (.int 16807)))) (.con (.int 2147483647)))) .nil
theorem r_folded (ns : List Int) (st : Store) : ∃ f, Cel f ∧ runF C WW f__law_folded [.scr ns] st = .ok (lI f) st := by
    let f0 : List Int := (List.range 64).map fun (x : Nat) => 17 + (x : Int)
    have c0 : Cel f0 := ⟨by simp [f0], fun x hx => by
      obtain ⟨y, hy, rfl⟩ := List.mem_map.mp hx
      have := List.mem_range.mp hy
      omega⟩
    have e1 : exec C WW (.seto 1 (.lcp (.bin .Add (.con (.int 17)) (.var 2)) (.nam 2) (.rng (.cons (.con (.int 64)) .nil)) .nil [2])) [some (.scr ns), none, none, none] st = .nxt [some (.scr ns), some (lI f0), none, none] st := by
      have hc : compR (trn C [some (.scr ns), none, none, none] [2] (.bin .Add (.con (.int 17)) (.var 2)) (.nam 2) .nil) ((List.range 64).map fun (x : Nat) => D.int x) st = .ok (((List.range 64).map fun (x : Nat) => D.int x).map fun x => match x with | .int i => .int (17 + i) | _ => .non) st := by
        refine compR_map fun x hx => ?_
        obtain ⟨y, hy, rfl⟩ := List.mem_map.mp hx
        exact t_one (S2 := [some (.scr ns), none, some (.int y), none]) (st1 := st) rfl (e_bin e_con (e_var rfl) (add_eq _ _))
      refine (x_seto (e_lcp (i_rng (es_cons e_con es_nil) (m := (List.range 64).map fun (x : Nat) => D.int x) ?_) hc (by simp)) rfl).trans ?_
      · have := rng1_of 64 (by decide)
        rw [rangeD_nat] at this
        exact this
      · have e : ((List.range 64).map fun (x : Nat) => D.int x).map (fun x => match x with | .int i => D.int (17 + i) | _ => .non) = f0.map D.int := by
          simp only [f0, List.map_map]
          rfl
        rw [e]
        rfl
    obtain ⟨S2, st2, e2, ⟨f2, o2, o3, rfl, c2⟩, rfl⟩ : ∃ S' st', exec C WW (.frr (.tup (.cons (.nam 2) (.cons (.nam 3) .nil))) (.enm (.var 0)) lp1 []) [some (.scr ns), some (lI f0), none, none] st = .nxt S' st' ∧ (∃ f o u, S' = [some (.scr ns), some (lI f), o, u] ∧ Cel f) ∧ st' = st := by
      rw [x_frr (i_enmS (e_var rfl))]
      obtain ⟨S', st', e, i⟩ := forR_inv (b := fun x S st => (asg C (.tup (.cons (.nam 2) (.cons (.nam 3) .nil))) x S st).out fun S st => execs C WW lp1 S st)
        (fun d S' st' => (∃ f o u, S' = [some (.scr ns), some (lI f), o, u] ∧ Cel f) ∧ st' = st) (enumD (ns.map D.int)) [] [some (.scr ns), some (lI f0), none, none] st ⟨⟨f0, none, none, rfl, c0⟩, rfl⟩
        fun d x S' st' hp ⟨⟨f, o, u, eS, cf⟩, est⟩ => by
          subst eS est
          rw [List.nil_append] at hp
          obtain ⟨more, hmore⟩ := hp
          have hxi : (enumD (ns.map D.int))[d.length]? = some x := by
            rw [← hmore, List.append_assoc, List.getElem?_append_right (Nat.le_refl _), Nat.sub_self]
            rfl
          obtain ⟨e, he, rfl⟩ := enumD_get hxi
          rw [List.getElem?_map] at he
          cases hq : ns[d.length]? with
          | none => rw [hq] at he; cases he
          | some q =>
            rw [hq] at he
            cases he
            have fm := fmod_in (d.length : Int) (j := 64) (by decide)
            obtain ⟨y, hy, ey⟩ := atI_in (l := f) (i := (d.length : Int).fmod 64) fm.1 (by rw [cf.1]; exact fm.2)
            have hyb := cf.2 y hy
            have fv := fmod_in (y * 48271 + q) (j := 2147483647) (by decide)
            refine ⟨[some (.scr ns), some (lI (f.set ((d.length : Int).fmod 64).toNat ((y * 48271 + q).fmod 2147483647))), some (.int d.length), some (.int q)], st', ?_, ⟨_, _, _, rfl, cf.set _ (by omega)⟩, rfl⟩
            show execs C WW lp1 [some (.scr ns), some (lI f), some (.int d.length), some (.int q)] st' = _
            have k1 : ev C [some (.scr ns), some (lI f), some (.int d.length), some (.int q)] (.bin .Mod (.var 2) (.con (.int 64))) st' = .ok (.int ((d.length : Int).fmod 64)) st' := e_bin (e_var rfl) e_con (mod_eq _ (by decide))
            have k2 : ev C [some (.scr ns), some (lI f), some (.int d.length), some (.int q)] (.idx (.var 1) (.bin .Mod (.var 2) (.con (.int 64)))) st' = .ok (.int y) st' := e_idx (x := lI f) (e_var rfl) k1 ey
            have k3 : ev C [some (.scr ns), some (lI f), some (.int d.length), some (.int q)] (.bin .Mod (.bin .Add (.bin .Mult (.idx (.var 1) (.bin .Mod (.var 2) (.con (.int 64)))) (.con (.int 48271))) (.var 3)) (.con (.int 2147483647))) st' = .ok (.int ((y * 48271 + q).fmod 2147483647)) st' :=
              e_bin (e_bin (e_bin k2 e_con (mul_r y (by omega))) (e_var rfl) (add_eq _ _)) e_con (mod_eq _ (by decide))
            exact (s_nxt (x_sti k3 rfl k1 (put_I fm.1 (by rw [cf.1]; exact fm.2)))).trans s_nil
      exact ⟨S', st', e, i⟩
    obtain ⟨S3, st3, e3, ⟨f3, o2', o3', rfl, c3⟩, rfl⟩ : ∃ S' st', exec C WW (.frr (.nam 2) (.rng (.cons (.con (.int 1)) (.cons (.con (.int 64)) .nil))) lp2 []) [some (.scr ns), some (lI f2), o2, o3] st2 = .nxt S' st' ∧ (∃ f o u, S' = [some (.scr ns), some (lI f), o, u] ∧ Cel f) ∧ st' = st2 := by
      rw [x_frr (i_rng (es_cons e_con (es_cons e_con es_nil)) ((rng2_eq 1 64).trans (if_pos (by omega))))]
      obtain ⟨S', st', e, i⟩ := forR_inv (b := fun x S st => (asg C (.nam 2) x S st).out fun S st => execs C WW lp2 S st)
        (fun d S' st' => (∃ f o u, S' = [some (.scr ns), some (lI f), o, u] ∧ Cel f) ∧ st' = st2) (rangeD 1 64) [] [some (.scr ns), some (lI f2), o2, o3] st2 ⟨⟨f2, o2, o3, rfl, c2⟩, rfl⟩
        fun d x S' st' hp ⟨⟨f, o, u, eS, cf⟩, est⟩ => by
          subst eS est
          rw [List.nil_append] at hp
          have hx : x ∈ rangeD 1 64 := hp.subset (by simp)
          unfold rangeD at hx
          obtain ⟨y, hy, rfl⟩ := List.mem_map.mp hx
          have hy := List.mem_range.mp hy
          have hy : y < 63 := hy
          obtain ⟨v, hv, ev1⟩ := atI_in (l := f) (i := 1 + (y : Int)) (by omega) (by rw [cf.1]; omega)
          obtain ⟨w, hw, ew1⟩ := atI_in (l := f) (i := 1 + (y : Int) - 1) (by omega) (by rw [cf.1]; omega)
          have hwb := cf.2 w hw
          have fv := fmod_in (v + w * 16807) (j := 2147483647) (by decide)
          refine ⟨[some (.scr ns), some (lI (f.set (1 + (y : Int)).toNat ((v + w * 16807).fmod 2147483647))), some (.int (1 + (y : Int))), u], st', ?_, ⟨_, _, _, rfl, cf.set _ (by omega)⟩, rfl⟩
          rw [a_nam]
          show execs C WW lp2 [some (.scr ns), some (lI f), some (.int (1 + (y : Int))), u] st' = _
          have k1 : ev C [some (.scr ns), some (lI f), some (.int (1 + (y : Int))), u] (.idx (.var 1) (.var 2)) st' = .ok (.int v) st' := e_idx (x := lI f) (y := .int (1 + (y : Int))) (e_var rfl) (e_var rfl) ev1
          have k2 : ev C [some (.scr ns), some (lI f), some (.int (1 + (y : Int))), u] (.idx (.var 1) (.bin .Sub (.var 2) (.con (.int 1)))) st' = .ok (.int w) st' := e_idx (x := lI f) (y := .int (1 + (y : Int) - 1)) (e_var rfl) (e_bin (e_var rfl) e_con (sub_eq _ _)) ew1
          have k3 : ev C [some (.scr ns), some (lI f), some (.int (1 + (y : Int))), u] (.bin .Mod (.bin .Add (.idx (.var 1) (.var 2)) (.bin .Mult (.idx (.var 1) (.bin .Sub (.var 2) (.con (.int 1)))) (.con (.int 16807)))) (.con (.int 2147483647))) st' = .ok (.int ((v + w * 16807).fmod 2147483647)) st' :=
            e_bin (e_bin k1 (e_bin k2 e_con (mul_r w (by omega))) (add_eq _ _)) e_con (mod_eq _ (by decide))
          exact (s_nxt (x_sti k3 rfl (e_var rfl) (put_I (by omega) (by rw [cf.1]; omega)))).trans s_nil
      exact ⟨S', st', e, i⟩
    refine ⟨f3, c3, ?_⟩
    have z : execs C WW f__law_folded.body [some (.scr ns), none, none, none] st3 = .ret (lI f3) st3 := (s_nxt e1).trans ((s_nxt e2).trans ((s_nxt e3).trans (s_frz.trans (s_ret (x_ret (e_var rfl))))))
    show outR (execs C WW f__law_folded.body [some (.scr ns), none, none, none] st3) = _
    rw [z]
    rfl
theorem e_dsp {S : Env} {ks : List Str} {vs : IEs} {l : List D} {st1 : Store} (h : evs C S vs st = .ok l st1) (hk : ks.Nodup ∧ l.length = ks.length) : ev C S (.dsp ks vs) st = .ok (.dic false (ks.map fun s => .inl (.inr s)) l) st1 := by
  rw [ev, h]
  exact if_pos hk
theorem x_stor {W n : Nat} {S : Env} {st1 st2 st3 : Store} {e o k : IE} {d z y : D} {c0 cl : Cell} (h : ev C S e st = .ok d st1) (hc0 : cellOf d = some c0) (ho : ev C S o (st1 ++ [c0]) = .ok (.obj n) st2) (hk : ev C S k st2 = .ok z st3) (hp : putD (see st3 (.obj n)) z (.obj st1.length) = some y) (hc : cellOf y = some cl) :
    exec C W (.stor o k e) S st = .nxt S (st3.set n cl) := by
  rw [exec, h]
  show (match cellOf d with | some c0 => _ | none => _) = _
  rw [hc0]
  show R.out (ev C S o (st1 ++ [c0])) _ = _
  rw [ho]
  show R.out (ev C S k st2) _ = _
  rw [hk]
  show (match putD (see st3 (.obj n)) z (.obj st1.length) with | some o => _ | none => _) = _
  rw [hp]
  show (match cellOf y with | some c => _ | none => _) = _
  rw [hc]
theorem pow_eq (i j : Int) : binD .Pow (.int i) (.int j) = if 0 ≤ j ∧ j ≤ 1000000 ∧ i.natAbs < 2 ^ 64 then some (.int (i ^ j.toNat)) else none := rfl
theorem r_begun (hf : ∀ ns st, ∃ f, Cel f ∧ C 6 [.scr ns] st = .ok (lI f) st) (ns : List Int) (hl : ns.length ≤ 63) : ∃ st', runF C WW f__law_begun [.scr ns] [] = .ok (.obj 0) st' ∧ DrSt 0 st' := by
  obtain ⟨f, cf, ef⟩ := hf ns []
  let g : List Int := ns.map fun x => if 10 ^ 18 ≤ x then x else 0
  let s1 : Store := [.dic false mK [lI f, .lst [], .int 0]]
  let s2 : Store := [.dic false mK [lI f, .obj 1, .int 0], .lst (g.map .int)]
  refine ⟨s2, ?_, ⟨f, g, 0, [], rfl, cf.1, cf.2, Int.le_refl 0, Int.le_refl 0⟩⟩
  have e1 : exec C WW (.setr 1 (.dsp ["cells", "great", "spot"] (.cons (.cal 6 "_law_folded" (.cons (.var 0) .nil)) (.cons (.lst .nil) (.cons (.con (.int 0)) .nil))))) [some (.scr ns), none, none] [] = .nxt [some (.scr ns), some (.obj 0), none] s1 :=
    x_setr (cl := .dic false mK [lI f, .lst [], .int 0]) (e_dsp (es_cons ((e_cal (es_cons (e_var rfl) es_nil)).trans ef) (es_cons (e_lst es_nil (by decide)) (es_cons e_con es_nil))) ⟨by decide +kernel, rfl⟩) rfl
  have hc : compR (trn C [some (.scr ns), some (.obj 0), none] [2] (.ite (.cmp .GtE (.var 2) (.bin .Pow (.con (.int 10)) (.con (.int 18)))) (.var 2) (.con (.int 0))) (.nam 2) .nil) (ns.map D.int) s1 = .ok ((ns.map D.int).map fun x => match x with | .int i => .int (if 10 ^ 18 ≤ i then i else 0) | _ => .non) s1 := by
    refine compR_map fun x hx => ?_
    obtain ⟨y, hy, rfl⟩ := List.mem_map.mp hx
    refine t_one (S2 := [some (.scr ns), some (.obj 0), some (.int y)]) (st1 := s1) rfl ?_
    have k1 : ev C [some (.scr ns), some (.obj 0), some (.int y)] (.cmp .GtE (.var 2) (.bin .Pow (.con (.int 10)) (.con (.int 18)))) s1 = .ok (.bl (decide ((10 : Int) ^ 18 ≤ y))) s1 := e_cmp (e_var rfl) (e_bin e_con e_con ((pow_eq 10 18).trans (if_pos (by decide)))) rfl
    by_cases h : (10 : Int) ^ 18 ≤ y
    · rw [e_iteT k1 (by rw [decide_eq_true h]; rfl)]
      show _ = R.ok (D.int (if 10 ^ 18 ≤ y then y else 0)) s1
      rw [if_pos h]
      exact e_var rfl
    · rw [e_iteF k1 (by rw [decide_eq_false h]; rfl)]
      show _ = R.ok (D.int (if 10 ^ 18 ≤ y then y else 0)) s1
      rw [if_neg h]
      exact e_con
  have hg : ((ns.map D.int).map fun x => match x with | .int i => D.int (if 10 ^ 18 ≤ i then i else 0) | _ => .non) = g.map D.int := by
    rw [List.map_map, List.map_map]
    rfl
  rw [hg] at hc
  have e2 : exec C WW (.stor (.var 1) (.con (.str "great")) (.lcp (.ite (.cmp .GtE (.var 2) (.bin .Pow (.con (.int 10)) (.con (.int 18)))) (.var 2) (.con (.int 0))) (.nam 2) (.val (.var 0)) .nil [2])) [some (.scr ns), some (.obj 0), none] s1 = .nxt [some (.scr ns), some (.obj 0), none] s2 :=
    x_stor (n := 0) (c0 := .lst (g.map .int)) (cl := .dic false mK [lI f, .obj 1, .int 0]) (y := .dic false mK [lI f, .obj 1, .int 0]) (e_lcp (i_valS (e_var rfl)) hc (by simp [g]; omega)) rfl (e_var rfl) e_con rfl rfl
  have z : execs C WW f__law_begun.body [some (.scr ns), none, none] [] = .ret (.obj 0) s2 := (s_nxt e1).trans ((s_nxt e2).trans (s_ret (x_ret (e_var rfl))))
  show outR (execs C WW f__law_begun.body [some (.scr ns), none, none] []) = _
  rw [z]
  rfl
end
end DI.Law

set_option Elab.async false
set_option linter.all false
set_option maxRecDepth 100000
set_option maxHeartbeats 1000000
namespace DI.Law
open PySem L2 DI
/-- what a drawn number is -/
def Drw (C : Calls) : Prop := ∀ (B : Int) (st : Store) (top : Int), B < 2 ^ 40 → DrSt B st → 0 < top → top ≤ 1000 → ∃ (v : Int) (st' : Store), C 7 [.obj 0, .int top] st = .ok (.int v) st' ∧ 0 ≤ v ∧ v < top ∧ DrSt (B + 1) st'
section
variable {C : Calls} {st : Store}
theorem x_apo {W i j k : Nat} {S : Env} {e : IE} {n : Int} {l m : List D} {d : D} {st1 : Store} (hi : S[i]? = some (some (.lst l))) (hj : S[j]? = some (some (.lst m))) (h : ev C S e st = .ok (.int n) st1) (hc : -(2 ^ 63) ≤ n ∧ n < 2 ^ 63 ∧ l.length < 16777216 ∧ i ≠ j) (hk : seqIndex? n m.length = some k) (hd : m[k]? = some d) :
    exec C W (.apo i j e) S st = .nxt ((S.set j (some (.lst (m.eraseIdx k)))).set i (some (.lst (l ++ [d])))) st1 := by
  rw [exec, hi, hj]
  show R.out (ev C S e st) _ = _
  rw [h]
  show (if _ then _ else _) = _
  rw [if_pos hc]
  show (match seqIndex? n m.length with | some k => _ | none => _) = _
  rw [hk]
  show (match m[k]? with | some d => _ | none => _) = _
  rw [hd]
theorem x_list (p : List Nat) : bltD .list [lN p] = some (lN p) := rfl
theorem x_listT (p : List Nat) : bltD .list [tN p] = some (lN p) := rfl
theorem erase_perm {A : Type} : ∀ (l : List A) (k : Nat) (h : k < l.length), (l[k] :: l.eraseIdx k).Perm l
  | a :: l, 0, _ => List.Perm.refl _
  | a :: l, k + 1, h => (List.Perm.swap a _ _).trans ((erase_perm l k (by simpa using h)).cons a)
theorem map_erase {A B : Type} (f : A → B) : ∀ (l : List A) (k : Nat), (l.eraseIdx k).map f = (l.map f).eraseIdx k
  | [], _ => rfl
  | a :: l, 0 => rfl
  | a :: l, k + 1 => by
    rw [List.map_cons, List.eraseIdx_cons_succ, List.eraseIdx_cons_succ, List.map_cons, map_erase f l k]
abbrev mBody : ISs := .cons (.apo 4 3 (.cal 7 "_law_draw" (.cons (.var 0) (.cons (.blt .len (.cons (.var 3) .nil)) .nil)))) .nil
theorem DrSt.mono {B B' : Int} {st : Store} (h : DrSt B st) (hb : B ≤ B') : DrSt B' st := by
  obtain ⟨c, g, s, r, e1, e2, e3, e4, e5⟩ := h.ex
  exact ⟨c, g, s, r, e1, e2, e3, e4, by omega⟩
theorem DrSt.app {B : Int} {st : Store} (h : DrSt B st) (ext : Store) : DrSt B (st ++ ext) := by
  obtain ⟨c, g, s, r, rfl, e2, e3, e4, e5⟩ := h.ex
  exact ⟨c, g, s, r ++ ext, rfl, e2, e3, e4, e5⟩
theorem perm_map_inv {A B : Type} {f : A → B} {q l : List B} (h : q.Perm l) : ∀ m : List A, l = m.map f → ∃ p : List A, q = p.map f ∧ p.Perm m := by
  induction h with
  | nil => intro m e; exact ⟨[], rfl, by rw [List.map_eq_nil_iff.mp e.symm]⟩
  | cons x _ ih =>
    intro m e
    cases m with
    | nil => cases e
    | cons a m =>
      rw [List.map_cons] at e
      injection e with e1 e2
      obtain ⟨p, h1, h2⟩ := ih m e2
      exact ⟨a :: p, by rw [List.map_cons, h1, e1], h2.cons a⟩
  | swap x y l =>
    intro m e
    cases m with
    | nil => cases e
    | cons a m =>
      cases m with
      | nil => rw [List.map_cons] at e; injection e with _ e; cases e
      | cons b m =>
        rw [List.map_cons, List.map_cons] at e
        injection e with e1 e2
        injection e2 with e2 e3
        exact ⟨b :: a :: m, by rw [List.map_cons, List.map_cons, e1, e2, e3], List.Perm.swap a b m⟩
  | trans _ _ ih1 ih2 =>
    intro m e
    obtain ⟨p, rfl, h2⟩ := ih2 m e
    obtain ⟨r, h3, h4⟩ := ih1 p rfl
    exact ⟨r, h3, h4.trans h2⟩
theorem x_listD (l : List D) : bltD .list [.lst l] = some (.lst l) := rfl
theorem r_mixed_up (hd : Drw C) {B : Int} {things : List D} (hl : things.length ≤ 900) (hB : B + 2000 < 2 ^ 40) (h : DrSt B st) :
    ∃ q st', runF C WW f__law_mixed_up [.obj 0, .lst things] st = .ok (.lst q) st' ∧ q.Perm things ∧ DrSt (B + things.length) st' := by
  show ∃ q st', outR (execs C WW f__law_mixed_up.body [some (.obj 0), some (.lst things), none, none, none] st) = .ok (.lst q) st' ∧ _
  have e1 : exec C WW (.par [(3, true), (4, true)] (.cons (.blt .list (.cons (.var 1) .nil)) (.cons (.lst .nil) .nil))) [some (.obj 0), some (.lst things), none, none, none] st = .nxt [some (.obj 0), some (.lst things), none, some (.lst things), some (.lst [])] st :=
    x_par (es_cons (e_blt (es_cons (e_var rfl) es_nil) (x_listD things)) (es_cons (e_lst es_nil (by decide)) es_nil)) rfl
  obtain ⟨S2, st2, e2, o2, stock, found, rfl, hp, hlen, hdr⟩ : ∃ S' st', exec C WW (.frr (.nam 2) (.rng (.cons (.blt .len (.cons (.var 3) .nil)) .nil)) mBody []) [some (.obj 0), some (.lst things), none, some (.lst things), some (.lst [])] st = .nxt S' st' ∧
      ∃ o2 stock found, S' = [some (.obj 0), some (.lst things), o2, some (.lst stock), some (.lst found)] ∧ (found ++ stock).Perm things ∧ stock.length + things.length = things.length ∧ DrSt (B + things.length) st' := by
    rw [x_frr (i_range (e_blt (es_cons (e_var rfl) es_nil) (len_lst things)) (by omega))]
    refine for_range (fun k S' st' => ∃ o2 stock found, S' = [some (.obj 0), some (.lst things), o2, some (.lst stock), some (.lst found)] ∧ (found ++ stock).Perm things ∧ stock.length + k = things.length ∧ DrSt (B + k) st') things.length
      ⟨none, things, [], rfl, by simp, by simp, by simpa using h⟩ fun k S' st' hk ⟨o2, stock, found, eS, hperm, hsl, hdr⟩ => by
        subst eS
        have hs0 : 0 < stock.length := by omega
        obtain ⟨v, st1, ev1, v0, v1, dr1⟩ := hd (B + k) st' stock.length (by omega) hdr (by omega) (by omega)
        have hvn : v.toNat < stock.length := by omega
        have hfl : found.length ≤ 900 := by
          have := hperm.length_eq
          simp at this
          omega
        refine ⟨[some (.obj 0), some (.lst things), some (.int k), some (.lst (stock.eraseIdx v.toNat)), some (.lst (found ++ [stock[v.toNat]]))], st1, ?_, _, stock.eraseIdx v.toNat, found ++ [stock[v.toNat]], rfl, ?_, ?_, ?_⟩
        · rw [a_nam]
          show execs C WW mBody [some (.obj 0), some (.lst things), some (.int k), some (.lst stock), some (.lst found)] st' = _
          have k1 : exec C WW (.apo 4 3 (.cal 7 "_law_draw" (.cons (.var 0) (.cons (.blt .len (.cons (.var 3) .nil)) .nil)))) [some (.obj 0), some (.lst things), some (.int k), some (.lst stock), some (.lst found)] st' = _ :=
            x_apo (W := WW) rfl rfl ((e_cal (es_cons (e_var rfl) (es_cons (e_blt (es_cons (e_var rfl) es_nil) (len_lst stock)) es_nil))).trans ev1) ⟨by omega, by omega, by omega, by decide⟩ (seqIndex_of v0 v1) (List.getElem?_eq_getElem hvn)
          rw [s_nxt k1, s_nil]
          rfl
        · rw [List.append_assoc]
          exact ((erase_perm stock v.toNat hvn).append_left found).trans hperm
        · rw [List.length_eraseIdx_of_lt hvn]
          omega
        · have e : B + ((k + 1 : Nat) : Int) = B + (k : Int) + 1 := by omega
          rw [e]
          exact dr1
  have hst : stock = [] := List.eq_nil_of_length_eq_zero (by omega)
  subst hst
  rw [List.append_nil] at hp
  have z : execs C WW f__law_mixed_up.body [some (.obj 0), some (.lst things), none, none, none] st = .ret (.lst found) st2 := (s_nxt e1).trans ((s_nxt e2).trans (s_frz.trans (s_ret (x_ret (e_var rfl)))))
  refine ⟨found, st2, ?_, hp, hdr⟩
  rw [z]
  rfl
end
end DI.Law

set_option Elab.async false
set_option linter.all false
set_option maxRecDepth 100000
set_option maxHeartbeats 1000000
/-! how networks are made: the program -/
namespace DI.Law
open PySem L2 DI
abbrev dropS : Nat → ISs → ISs
  | 0, b => b
  | k + 1, .cons _ r => dropS k r
  | _ + 1, .nil => .nil
abbrev nthS : Nat → ISs → IS
  | 0, .cons s _ => s
  | k + 1, .cons _ r => nthS k r
  | _, .nil => .pas
abbrev bodS : IS → ISs
  | .frr _ _ b _ => b
  | .whl _ b _ => b
  | .iff _ a _ => a
  | _ => .nil
abbrev retE : IS → IE
  | .ret e => e
  | .set _ e => e
  | .seto _ e => e
  | .iff c _ _ => c
  | .whl c _ _ => c
  | _ => .gap
abbrev tgtS : IS → IT
  | .frr t _ _ _ => t
  | _ => .nam 0
abbrev itS : IS → II
  | .frr _ i _ _ => i
  | _ => .val .gap
abbrev lcpE : IE → IE
  | .lcp e _ _ _ _ => e
  | _ => .gap
abbrev lcpC : IE → IEs
  | .lcp _ _ _ c _ => c
  | _ => .nil
section
variable {C : Calls} {st : Store}
theorem run_ret {F : Fn} {l : List D} {S0 : Env} {d : D} {st' : Store} (h : execs C WW F.body S0 st = .ret d st') (hS : l.map some ++ List.replicate (F.nn - l.length) none = S0) : runF C WW F l st = .ok d st' := by
  unfold runF
  rw [hS, h]
  rfl
theorem run_nxt {F : Fn} {l : List D} {S0 S1 : Env} {st' : Store} (h : execs C WW F.body S0 st = .nxt S1 st') (hS : l.map some ++ List.replicate (F.nn - l.length) none = S0) : runF C WW F l st = .ok .non st' := by
  unfold runF
  rw [hS, h]
  rfl
def Tie (C : Calls) : Prop := ∀ (a b : Nat) (st : Store), C 10 [.int a, .int b] st = .ok (pD (tieP a b)) st
theorem x_min2 (a b : Nat) : bltD .min [.int a, .int b] = some (.int (min a b : Nat)) := by
  have e : bltD .min [.int (a : Int), .int (b : Int)] = some (.int (if (b : Int) < a then (b : Int) else a)) := rfl
  rw [e]
  by_cases h : (b : Int) < a
  · rw [if_pos h, Nat.min_eq_right (by omega)]
  · rw [if_neg h, Nat.min_eq_left (by omega)]
theorem x_max2 (a b : Nat) : bltD .max [.int a, .int b] = some (.int (max a b : Nat)) := by
  have e : bltD .max [.int (a : Int), .int (b : Int)] = some (.int (if (b : Int) > a then (b : Int) else a)) := rfl
  rw [e]
  by_cases h : (b : Int) > a
  · rw [if_pos h, Nat.max_eq_right (by omega)]
  · rw [if_neg h, Nat.max_eq_left (by omega)]
theorem r_tie (a b : Nat) : runF C WW f__law_tie [.int a, .int b] st = .ok (pD (tieP a b)) st :=
  run_ret (S0 := [some (.int a), some (.int b)]) (s_ret (x_ret (e_tup (es_cons (e_blt (es_cons (e_var rfl) (es_cons (e_var rfl) es_nil)) (x_min2 a b)) (es_cons (e_blt (es_cons (e_var rfl) (es_cons (e_var rfl) es_nil)) (x_max2 a b)) es_nil)) (by simp)))) rfl
theorem maxI_nat : ∀ (l : Ed) (x : Nat), maxI (x : Int) (l.map fun p => (p.2 : Int)) = (max x (l.foldr (fun p m => max p.2 m) 0) : Nat)
  | [], x => by simp [maxI]
  | p :: l, x => by
    have e : maxI (x : Int) ((p :: l).map fun p => (p.2 : Int)) = maxI (if (p.2 : Int) > x then (p.2 : Int) else x) (l.map fun p => (p.2 : Int)) := rfl
    rw [e, List.foldr_cons]
    by_cases h : (p.2 : Int) > x
    · rw [if_pos h, maxI_nat l p.2]
      congr 1
      omega
    · rw [if_neg h, maxI_nat l x]
      congr 1
      omega
theorem x_maxL (ps : Ed) : bltD .max [.lst (.int (0 : Nat) :: (ps.map fun p => D.int (p.2 : Int)))] = some (.int (ps.foldr (fun p m => max p.2 m) 0 : Nat)) := by
  have e : bltD .max [.lst (.int (0 : Nat) :: (ps.map fun p => D.int (p.2 : Int)))] = (match intsOf (((0 : Nat) : Int) :: (ps.map fun p => (p.2 : Int)) |>.map D.int) with
      | some (n :: ns) => some (.int (maxI n ns))
      | _ => none) := by rw [List.map_cons, List.map_map]; rfl
  rw [e, intsOf_map]
  show some (D.int (maxI ((0 : Nat) : Int) (ps.map fun p => (p.2 : Int)))) = _
  rw [maxI_nat ps 0, Nat.zero_max]
def Top (C : Calls) : Prop := ∀ (ps : Ed) (st : Store), ps.length ≤ 900 → C 15 [lP ps] st = .ok (.int (topP ps)) st
theorem r_top {ps : Ed} (hl : ps.length ≤ 900) : runF C WW f__law_top [lP ps] st = .ok (.int (topP ps)) st := by
  have hc : compR (trn C [some (lP ps), none, none] [1, 2] (.var 2) (.tup (.cons (.nam 1) (.cons (.nam 2) .nil))) .nil) (ps.map pD) st = .ok (ps.map fun p => D.int (p.2 : Int)) st := by
    have z : compR (trn C [some (lP ps), none, none] [1, 2] (.var 2) (.tup (.cons (.nam 1) (.cons (.nam 2) .nil))) .nil) (ps.map pD) st = .ok ((ps.map pD).map fun x => match x with | .tup [_, d] => d | _ => .non) st := by
      refine compR_map fun x hx => ?_
      obtain ⟨p, _, rfl⟩ := List.mem_map.mp hx
      exact t_one (S2 := [some (lP ps), some (.int p.1), some (.int p.2)]) (st1 := st) rfl (e_var rfl)
    rw [z, List.map_map]
    rfl
  have k1 : evs C [some (lP ps), none, none] (.cons (.bin .Add (.lst (.cons (.con (.int 0)) .nil)) (.lcp (.var 2) (.tup (.cons (.nam 1) (.cons (.nam 2) .nil))) (.val (.var 0)) .nil [1, 2])) .nil) st = .ok [.lst (.int (0 : Nat) :: (ps.map fun p => D.int (p.2 : Int)))] st :=
    es_cons (e_bin (e_lst (es_cons e_con es_nil) (by simp)) (e_lcp (i_lst (e_var rfl)) hc (by simp; omega)) ((cat_eq _ _).trans (if_pos (by simp; omega)))) es_nil
  have k2 : ev C [some (lP ps), none, none] (retE (nthS 0 f__law_top.body)) st = .ok (.int (topP ps)) st :=
    e_bin (e_blt k1 (x_maxL ps)) e_con (add_nn _ 1)
  exact run_ret (s_ret (x_ret k2)) rfl
def ringP (p : List Nat) : Ed := (List.range p.length).map fun i => tieP (p.getD (if i = 0 then p.length - 1 else i - 1) 0) (p.getD i 0)
def Ring (C : Calls) : Prop := ∀ (p : List Nat) (st : Store), p.length ≤ 900 → C 12 [lN p] st = .ok (lP (ringP p)) st
theorem x_prev {p : List Nat} {i : Nat} (h : i < p.length) : idxD (lN p) (.int ((i : Int) - 1)) = some (.int (p.getD (if i = 0 then p.length - 1 else i - 1) 0 : Nat)) := by
  by_cases h0 : i = 0
  · subst h0
    show atI _ _ = _
    unfold atI ixN
    have hx : p.length - 1 < p.length := by omega
    rw [if_neg (by omega), if_pos (by simp; omega)]
    show ((p.map fun (x : Nat) => (x : Int)).map D.int)[_]? = _
    have e : ((((0 : Nat) : Int) - 1) + (((p.map fun (x : Nat) => (x : Int)).map D.int).length : Int)).toNat = p.length - 1 := by simp; omega
    rw [e, if_pos rfl, List.getElem?_map, List.getElem?_map, List.getElem?_eq_getElem hx, List.getD_eq_getElem?_getD, List.getElem?_eq_getElem hx]
    rfl
  · rw [if_neg h0, show ((i : Int) - 1) = ((i - 1 : Nat) : Int) by omega]
    exact x_idxL (by omega)
theorem r_ring (ht : Tie C) {p : List Nat} (hl : p.length ≤ 900) : runF C WW f__law_ring [lN p] st = .ok (lP (ringP p)) st := by
  have hc : compR (trn C [some (lN p), none] [1] (lcpE (retE (nthS 0 f__law_ring.body))) (.nam 1) .nil) ((List.range p.length).map fun (x : Nat) => D.int x) st = .ok ((ringP p).map pD) st := by
    have z : compR (trn C [some (lN p), none] [1] (lcpE (retE (nthS 0 f__law_ring.body))) (.nam 1) .nil) ((List.range p.length).map fun (x : Nat) => D.int x) st = .ok (((List.range p.length).map fun (x : Nat) => D.int x).map fun x => match x with | .int i => pD (tieP (p.getD (if i.toNat = 0 then p.length - 1 else i.toNat - 1) 0) (p.getD i.toNat 0)) | _ => .non) st := by
      refine compR_map fun x hx => ?_
      obtain ⟨i, hi, rfl⟩ := List.mem_map.mp hx
      have hi := List.mem_range.mp hi
      exact t_one (S2 := [some (lN p), some (.int i)]) (st1 := st) rfl ((e_cal (es_cons (e_idx (x := lN p) (y := .int ((i : Int) - 1)) (e_var rfl) (e_bin (e_var rfl) e_con rfl) (x_prev hi)) (es_cons (e_idx (x := lN p) (y := .int (i : Int)) (e_var rfl) (e_var rfl) (x_idxL hi)) es_nil))).trans (ht _ _ _))
    rw [z, List.map_map]
    unfold ringP
    rw [List.map_map]
    rfl
  have hi : itm C [some (lN p), none] (.rng (.cons (.blt .len (.cons (.var 0) .nil)) .nil)) st = .ok ((List.range p.length).map fun (x : Nat) => D.int x) st := i_range (e_blt (es_cons (e_var rfl) es_nil) (x_lenL p)) (by omega)
  exact run_ret (S0 := [some (lN p), none]) (s_ret (x_ret (e_lcp hi hc (by simp [ringP]; omega)))) rfl
def Shift (C : Calls) : Prop := ∀ (ps : Ed) (low hinge : Nat) (st : Store), (∀ p ∈ ps, p.1 < 21 ∧ p.2 < 21) → ps.length ≤ 900 → low ≤ 900 → C 14 [lP ps, .int low, .int hinge] st = .ok (lP (shiftP ps low hinge)) st
def shN (low hinge : Nat) : List Nat := hinge :: (List.range 20).map fun k => low + k
theorem shN_get {low hinge x : Nat} (h : x < 21) : (shN low hinge).getD x 0 = shName low hinge x := by
  unfold shN shName
  cases x with
  | zero => rfl
  | succ x =>
    rw [if_neg (by omega), List.getD_cons_succ, List.getD_eq_getElem?_getD, List.getElem?_map, List.getElem?_range (by omega)]
    rfl
theorem listRg2 {a b : Nat} (ha : a ≤ 1000) (hb : b ≤ 2000) : bltD .listRg [.int a, .int b] = some (lN ((List.range (b - a)).map fun k => a + k)) := by
  have e : rngD [.int (a : Int), .int (b : Int)] = some (rangeD a b) := (rng2_eq a b).trans (if_pos (by omega))
  have e2 : rangeD (a : Int) (b : Int) = (((List.range (b - a)).map fun k => a + k).map fun (x : Nat) => (x : Int)).map D.int := by
    unfold rangeD
    rw [show (((b : Int)) - (a : Int)).toNat = b - a by omega, List.map_map, List.map_map]
    refine List.map_congr_left fun k _ => ?_
    show D.int _ = D.int _
    congr 1
  rw [listRg_of e (by rw [e2]; simp; omega), e2]
theorem r_shift (ht : Tie C) {ps : Ed} {low hinge : Nat} (hp : ∀ p ∈ ps, p.1 < 21 ∧ p.2 < 21) (hl : ps.length ≤ 900) (hlo : low ≤ 900) : runF C WW f__law_shifted [lP ps, .int low, .int hinge] st = .ok (lP (shiftP ps low hinge)) st := by
  have nl : (shN low hinge).length = 21 := by simp [shN]
  have hr := listRg2 (a := low) (b := low + 20) (by omega) (by omega)
  rw [show low + 20 - low = 20 by omega] at hr
  have k1 : exec C WW (nthS 0 f__law_shifted.body) [some (lP ps), some (.int low), some (.int hinge), none, none, none] st = .nxt [some (lP ps), some (.int low), some (.int hinge), some (lN (shN low hinge)), none, none] st :=
    x_set (d := lN (shN low hinge)) (e_bin (e_lst (es_cons (e_var rfl) es_nil) (by simp)) (e_blt (es_cons (e_var rfl) (es_cons (e_bin (e_var rfl) e_con (add_nn low 20)) es_nil)) hr) (x_cat [hinge] ((List.range 20).map fun k => low + k) (by simp)))
  have hc : compR (trn C [some (lP ps), some (.int low), some (.int hinge), some (lN (shN low hinge)), none, none] [4, 5] (lcpE (retE (nthS 1 f__law_shifted.body))) (.tup (.cons (.nam 4) (.cons (.nam 5) .nil))) .nil) (ps.map pD) st = .ok ((shiftP ps low hinge).map pD) st := by
    have z : compR (trn C [some (lP ps), some (.int low), some (.int hinge), some (lN (shN low hinge)), none, none] [4, 5] (lcpE (retE (nthS 1 f__law_shifted.body))) (.tup (.cons (.nam 4) (.cons (.nam 5) .nil))) .nil) (ps.map pD) st =
        .ok ((ps.map pD).map fun x => match x with | .tup [.int a, .int b] => pD (tieP (shName low hinge a.toNat) (shName low hinge b.toNat)) | _ => .non) st := by
      refine compR_map fun x hx => ?_
      obtain ⟨p, hpm, rfl⟩ := List.mem_map.mp hx
      obtain ⟨h1, h2⟩ := hp p hpm
      refine t_one (S2 := [some (lP ps), some (.int low), some (.int hinge), some (lN (shN low hinge)), some (.int p.1), some (.int p.2)]) (st1 := st) rfl ?_
      have i1 := x_idxL (p := shN low hinge) (x := p.1) (by omega)
      have i2 := x_idxL (p := shN low hinge) (x := p.2) (by omega)
      rw [shN_get h1] at i1
      rw [shN_get h2] at i2
      exact (e_cal (es_cons (e_idx (x := lN (shN low hinge)) (y := .int p.1) (e_var rfl) (e_var rfl) i1) (es_cons (e_idx (x := lN (shN low hinge)) (y := .int p.2) (e_var rfl) (e_var rfl) i2) es_nil))).trans (ht _ _ _)
    rw [z, List.map_map]
    unfold shiftP
    rw [List.map_map]
    rfl
  exact run_ret (S0 := [some (lP ps), some (.int low), some (.int hinge), none, none, none]) ((s_nxt k1).trans (s_ret (x_ret (e_lcp (i_lst (e_var rfl)) hc (by simp [shiftP]; omega))))) rfl
def Tree (C : Calls) : Prop := ∀ (B : Int) (st : Store) (many low : Nat), 1 ≤ low → low ≤ many → many ≤ 900 → B + 2000 < 2 ^ 40 → DrSt B st → ∃ es st', C 11 [.obj 0, .int many, .int low] st = .ok (lP es) st' ∧ es.length = many - low ∧ (∀ ps, Good ps → topP ps = low → Good (ps ++ es) ∧ topP (ps ++ es) = many) ∧ DrSt (B + (many - low : Nat)) st'
theorem r_tree (ht : Tie C) (hd : Drw C) {B : Int} {many low : Nat} (h1 : 1 ≤ low) (h2 : low ≤ many) (h3 : many ≤ 900) (hB : B + 2000 < 2 ^ 40) (h : DrSt B st) : ∃ es st', runF C WW f__law_tree [.obj 0, .int many, .int low] st = .ok (lP es) st' ∧ es.length = many - low ∧ (∀ ps, Good ps → topP ps = low → Good (ps ++ es) ∧ topP (ps ++ es) = many) ∧ DrSt (B + (many - low : Nat)) st' := by
  have hr : itm C [some (.obj 0), some (.int many), some (.int low), none] (.rng (.cons (.blt .max (.cons (.con (.int 1)) (.cons (.var 2) .nil))) (.cons (.var 1) .nil))) st = .ok ((List.range (many - low)).map fun k => D.int ((low + k : Nat) : Int)) st := by
    have hm := x_max2 1 low
    rw [Nat.max_eq_right h1] at hm
    have e : rngD [.int (low : Int), .int (many : Int)] = some (rangeD low many) := (rng2_eq low many).trans (if_pos (by omega))
    have e2 : rangeD (low : Int) (many : Int) = (List.range (many - low)).map fun k => D.int ((low + k : Nat) : Int) := by
      unfold rangeD
      rw [show (((many : Int)) - (low : Int)).toNat = many - low by omega]
      refine List.map_congr_left fun k _ => ?_
      congr 1
    rw [← e2]
    exact i_rng (es_cons (e_blt (es_cons e_con (es_cons (e_var rfl) es_nil)) hm) (es_cons (e_var rfl) es_nil)) e
  obtain ⟨ds, st', ec, es, rfl, hl, hg, hdr⟩ := comp_num (f := trn C [some (.obj 0), some (.int many), some (.int low), none] [3] (lcpE (retE (nthS 0 f__law_tree.body))) (.nam 3) .nil)
    (fun k acc st => ∃ es : Ed, acc = es.map pD ∧ es.length = k ∧ (∀ ps, Good ps → topP ps = low → Good (ps ++ es) ∧ topP (ps ++ es) = low + k) ∧ DrSt (B + k) st) ((List.range (many - low)).map fun k => D.int ((low + k : Nat) : Int)) 0 [] st
    ⟨[], rfl, rfl, fun ps g e => by rw [List.append_nil]; exact ⟨g, e⟩, h.mono (by omega)⟩ fun k x acc st hk ⟨es, ea, hl, hg, hdr⟩ => by
      rw [Nat.zero_add] at hl hg hdr ⊢
      rw [List.getElem?_map] at hk
      have hkn : k < many - low := by
        by_cases hkn : k < many - low
        · exact hkn
        · rw [List.getElem?_eq_none (by rw [List.length_range]; omega)] at hk
          cases hk
      rw [List.getElem?_range hkn] at hk
      cases hk
      obtain ⟨v, st1, ev1, v0, v1, dr1⟩ := hd (B + k) st (low + k : Nat) (by omega) hdr (by omega) (by omega)
      obtain ⟨u, rfl⟩ : ∃ u : Nat, v = u := ⟨v.toNat, by omega⟩
      refine ⟨pD (tieP u (low + k)), st1, ?_, es ++ [tieP u (low + k)], by rw [ea, List.map_append]; rfl, by simp [hl], fun ps g e => ?_, ?_⟩
      · refine t_one (S2 := [some (.obj 0), some (.int many), some (.int low), some (.int (low + k : Nat))]) (st1 := st) rfl ?_
        have c1 : ev C [some (.obj 0), some (.int many), some (.int low), some (.int (low + k : Nat))] (.cmp .Gt (.var 3) (.con (.int 0))) st = .ok (.bl (decide ((0 : Int) < ((low + k : Nat) : Int)))) st := e_cmp (e_var rfl) e_con rfl
        have c2 := e_iteT (b := .cal 7 "_law_draw" (.cons (.var 0) (.cons (.var 3) .nil))) (c := .con (.int 0)) c1 (by rw [decide_eq_true (by omega)]; rfl)
        exact (e_cal (es_cons (c2.trans ((e_cal (es_cons (e_var rfl) (es_cons (e_var rfl) es_nil))).trans ev1)) (es_cons (e_var rfl) es_nil))).trans (ht _ _ _)
      · obtain ⟨g1, e1⟩ := hg ps g e
        have := g1.join (x := u) (by rw [e1]; omega)
        rw [e1] at this
        rw [← List.append_assoc]
        exact ⟨this.1, this.2⟩
      · rw [show B + ((k + 1 : Nat) : Int) = B + (k : Int) + 1 by omega]
        exact dr1
  rw [List.length_map, List.length_range, Nat.zero_add] at hl hg hdr
  refine ⟨es, st', ?_, hl, fun ps g e => ?_, hdr⟩
  · refine run_ret (S0 := [some (.obj 0), some (.int many), some (.int low), none]) (s_ret (x_ret (e_lcp hr ec ?_))) rfl
    simp
    omega
  · obtain ⟨g1, e1⟩ := hg ps g e
    exact ⟨g1, by omega⟩
end
end DI.Law

set_option Elab.async false
set_option linter.all false
set_option maxRecDepth 100000
set_option maxHeartbeats 1000000
namespace DI.Law
open PySem L2 DI
section
variable {C : Calls} {st : Store}
/-! the small networks without bridges -/
def Core (C : Calls) : Prop := ∀ (B : Int) (st : Store), B + 2000 < 2 ^ 40 → DrSt B st → ∃ es st', C 13 [.obj 0] st = .ok (lP es) st' ∧ Good es ∧ topP es ≤ 5 ∧ es.length ≤ 6 ∧ DrSt (B + 5) st'
theorem good_0 : ∀ a, a < 5 → goodB (ringP (List.range (1 + a))) = true := by decide +kernel
theorem good_1 : ∀ a, a < 3 → ∀ b, b < 3 → goodB (ringP (List.range (1 + a)) ++ ringP ([0] ++ (List.range (1 + a + b - (1 + a))).map fun k => 1 + a + k)) = true := by decide +kernel
theorem good_2 : goodB [(0, 1), (0, 2), (0, 3), (1, 2), (1, 3)] = true := by decide +kernel
theorem good_3 : goodB [(0, 2), (1, 2), (0, 3), (1, 3), (0, 4), (1, 4)] = true := by decide +kernel
theorem good_4 : ∀ a, a < 3 → goodB (List.replicate (2 + a) (0, 1)) = true := by decide +kernel
theorem good_5 : ∀ a, a < 2 → goodB (ringP (List.range (3 + a)) ++ [(0, 2)]) = true := by decide +kernel
theorem drw_nat (hd : Drw C) {B : Int} {st : Store} (top : Nat) (hB : B < 2 ^ 40) (h : DrSt B st) (h0 : 0 < top) (h1 : top ≤ 1000) : ∃ (v : Nat) (st' : Store), C 7 [.obj 0, .int top] st = .ok (.int v) st' ∧ v < top ∧ DrSt (B + 1) st' := by
  obtain ⟨v, st', e, v0, v1, d⟩ := hd B st top hB h (by omega) (by omega)
  obtain ⟨u, rfl⟩ : ∃ u : Nat, v = u := ⟨v.toNat, by omega⟩
  exact ⟨u, st', e, by omega, d⟩
theorem e_draw {S : Env} {e : IE} {top v : Nat} {st2 : Store} (h0 : S[0]? = some (some (.obj 0))) (he : ev C S e st = .ok (.int top) st) (h : C 7 [.obj 0, .int top] st = .ok (.int v) st2) : ev C S (.cal 7 "_law_draw" (.cons (.var 0) (.cons e .nil))) st = .ok (.int v) st2 :=
  (e_cal (es_cons (e_var h0) (es_cons he es_nil))).trans h
theorem core_body (hr : Ring C) (hd : Drw C) {B : Int} (hB : B + 2000 < 2 ^ 40) (h : DrSt B st) : ∃ es st', execs C WW f__law_core.body [some (.obj 0), none, none] st = .ret (lP es) st' ∧ goodB es = true ∧ DrSt (B + 5) st' := by
  obtain ⟨v, s1, ev1, hv, d1⟩ := drw_nat hd 6 (by omega) h (by omega) (by omega)
  have k0 : execs C WW f__law_core.body [some (.obj 0), none, none] st = execs C WW (dropS 1 f__law_core.body) [some (.obj 0), some (.int v), none] s1 := s_nxt (x_set (e_draw rfl e_con ev1))
  have cc : ∀ k : Nat, ev C [some (.obj 0), some (.int v), none] (.cmp .Eq (.var 1) (.con (.int k))) s1 = .ok (.bl (decide ((v : Int) = k))) s1 := fun k => e_cmp (e_var rfl) e_con (eq_int _ _)
  have yes : ∀ k : Nat, v = k → truD (see s1 (.bl (decide ((v : Int) = k)))) = some true := fun k e => by rw [decide_eq_true (by omega)]; rfl
  have no : ∀ k : Nat, v ≠ k → truD (see s1 (.bl (decide ((v : Int) = k)))) = some false := fun k e => by rw [decide_eq_false (by omega)]; rfl
  rw [k0]
  by_cases h0 : v = 0
  · obtain ⟨a, s2, ev2, ha, d2⟩ := drw_nat hd 5 (by omega) d1 (by omega) (by omega)
    refine ⟨_, s2, ?_, good_0 a ha, d2.mono (by omega)⟩
    refine s_ret (x_iffR (cc 0) (yes 0 h0) (s_ret (x_ret ?_)))
    exact (e_cal (es_cons (e_blt (es_cons (e_bin (z := .int (1 + a : Nat)) e_con (e_draw rfl e_con ev2) (add_nn 1 a)) es_nil) (x_listRg (1 + a) (by omega))) es_nil)).trans (hr _ _ (by simp; omega))
  have j0 : execs C WW (dropS 1 f__law_core.body) [some (.obj 0), some (.int v), none] s1 = execs C WW (dropS 2 f__law_core.body) [some (.obj 0), some (.int v), none] s1 := s_nxt ((x_iffF (cc 0) (no 0 h0)).trans s_nil)
  rw [j0]
  by_cases h1 : v = 1
  · obtain ⟨a, s2, ev2, ha, d2⟩ := drw_nat hd 3 (by omega) d1 (by omega) (by omega)
    obtain ⟨b, s3, ev3, hb, d3⟩ := drw_nat hd 3 (by omega) d2 (by omega) (by omega)
    refine ⟨_, s3, ?_, good_1 a ha b hb, d3.mono (by omega)⟩
    refine s_ret (x_iffR (cc 1) (yes 1 h1) ?_)
    refine (s_nxt (S1 := [some (.obj 0), some (.int v), some (.int (1 + a : Nat))]) (x_set (e_bin e_con (e_draw rfl e_con ev2) (add_nn 1 a)))).trans (s_ret (x_ret ?_))
    have r1 := (e_cal (C := C) (f := 12) (n := "_law_ring") (S := [some (.obj 0), some (.int v), some (.int (1 + a : Nat))]) (st := s2) (es_cons (e_blt (es_cons (e_var (i := 2) rfl) es_nil) (x_listRg (1 + a) (by omega))) es_nil)).trans (hr (List.range (1 + a)) s2 (by simp; omega))
    have r2 := e_blt (C := C) (bi := .listRg) (S := [some (.obj 0), some (.int v), some (.int (1 + a : Nat))]) (st := s2) (es_cons (e_var (i := 2) rfl) (es_cons (e_bin (op := .Add) (e_var (i := 2) rfl) (e_draw rfl e_con ev3) (add_nn (1 + a) b)) es_nil)) (listRg2 (a := 1 + a) (b := 1 + a + b) (by omega) (by omega))
    have r3 := e_bin (C := C) (op := .Add) (S := [some (.obj 0), some (.int v), some (.int (1 + a : Nat))]) (e_lst (es_cons (e_con (d := .int ((0 : Nat) : Int))) es_nil) (by simp)) r2 (x_cat [0] ((List.range (1 + a + b - (1 + a))).map fun k => 1 + a + k) (by simp; omega))
    have r4 := (e_cal (C := C) (f := 12) (n := "_law_ring") (es_cons r3 es_nil)).trans (hr _ s3 (by simp; omega))
    exact e_bin r1 r4 (x_catP _ _ (by simp [ringP]; omega))
  have j1 : execs C WW (dropS 2 f__law_core.body) [some (.obj 0), some (.int v), none] s1 = execs C WW (dropS 3 f__law_core.body) [some (.obj 0), some (.int v), none] s1 := s_nxt ((x_iffF (cc 1) (no 1 h1)).trans s_nil)
  rw [j1]
  have pr : ∀ a b : Nat, ev C [some (.obj 0), some (.int v), none] (.tup (.cons (.con (.int a)) (.cons (.con (.int b)) .nil))) s1 = .ok (pD (a, b)) s1 := fun a b => e_tup (es_cons e_con (es_cons e_con es_nil)) (by simp)
  by_cases h2 : v = 2
  · refine ⟨_, s1, ?_, good_2, d1.mono (by omega)⟩
    exact s_ret (x_iffR (cc 2) (yes 2 h2) (s_ret (x_ret (e_lst (es_cons (pr 0 1) (es_cons (pr 0 2) (es_cons (pr 0 3) (es_cons (pr 1 2) (es_cons (pr 1 3) es_nil))))) (by simp)))))
  have j2 : execs C WW (dropS 3 f__law_core.body) [some (.obj 0), some (.int v), none] s1 = execs C WW (dropS 4 f__law_core.body) [some (.obj 0), some (.int v), none] s1 := s_nxt ((x_iffF (cc 2) (no 2 h2)).trans s_nil)
  rw [j2]
  by_cases h3 : v = 3
  · refine ⟨_, s1, ?_, good_3, d1.mono (by omega)⟩
    exact s_ret (x_iffR (cc 3) (yes 3 h3) (s_ret (x_ret (e_lst (es_cons (pr 0 2) (es_cons (pr 1 2) (es_cons (pr 0 3) (es_cons (pr 1 3) (es_cons (pr 0 4) (es_cons (pr 1 4) es_nil)))))) (by simp)))))
  have j3 : execs C WW (dropS 4 f__law_core.body) [some (.obj 0), some (.int v), none] s1 = execs C WW (dropS 5 f__law_core.body) [some (.obj 0), some (.int v), none] s1 := s_nxt ((x_iffF (cc 3) (no 3 h3)).trans s_nil)
  rw [j3]
  by_cases h4 : v = 4
  · obtain ⟨a, s2, ev2, ha, d2⟩ := drw_nat hd 3 (by omega) d1 (by omega) (by omega)
    refine ⟨_, s2, ?_, good_4 a ha, d2.mono (by omega)⟩
    refine s_ret (x_iffR (cc 4) (yes 4 h4) (s_ret (x_ret ?_)))
    refine e_bin (e_lst (es_cons (pr 0 1) es_nil) (by simp)) (e_bin e_con (e_draw rfl e_con ev2) (add_nn 2 a)) ?_
    have e : binD .Mult (.lst [pD (0, 1)]) (.int (2 + a : Nat)) = if -(2 ^ 63) ≤ ((2 + a : Nat) : Int) ∧ ((2 + a : Nat) : Int) < 2 ^ 63 ∧ [pD (0, 1)].length * ((2 + a : Nat) : Int).toNat ≤ 16777216 then some (.lst (List.replicate ((2 + a : Nat) : Int).toNat [pD (0, 1)]).flatten) else none := rfl
    show binD .Mult (.lst [pD (0, 1)]) (.int (2 + a : Nat)) = _
    rw [e, if_pos (by simp; omega), Int.toNat_natCast]
    have : a = 0 ∨ a = 1 ∨ a = 2 := by omega
    rcases this with rfl | rfl | rfl <;> rfl
  have j4 : execs C WW (dropS 5 f__law_core.body) [some (.obj 0), some (.int v), none] s1 = execs C WW (dropS 6 f__law_core.body) [some (.obj 0), some (.int v), none] s1 := s_nxt ((x_iffF (cc 4) (no 4 h4)).trans s_nil)
  rw [j4]
  obtain ⟨a, s2, ev2, ha, d2⟩ := drw_nat hd 2 (by omega) d1 (by omega) (by omega)
  refine ⟨_, s2, ?_, good_5 a ha, d2.mono (by omega)⟩
  have pr2 : ev C [some (.obj 0), some (.int v), none] (.tup (.cons (.con (.int (0 : Nat))) (.cons (.con (.int (2 : Nat))) .nil))) s2 = .ok (pD (0, 2)) s2 := e_tup (es_cons e_con (es_cons e_con es_nil)) (by simp)
  have r1 := (e_cal (C := C) (f := 12) (n := "_law_ring") (S := [some (.obj 0), some (.int v), none]) (es_cons (e_blt (es_cons (e_bin (z := .int (3 + a : Nat)) (op := .Add) (e_con (d := .int ((3 : Nat) : Int))) (e_draw rfl e_con ev2) (add_nn 3 a)) es_nil) (x_listRg (3 + a) (by omega))) es_nil)).trans (hr (List.range (3 + a)) s2 (by simp; omega))
  exact s_ret (x_ret (e_bin r1 (e_lst (es_cons pr2 es_nil) (by simp)) (x_catP _ [(0, 2)] (by simp [ringP]; omega))))
theorem r_core (hr : Ring C) (hd : Drw C) {B : Int} (hB : B + 2000 < 2 ^ 40) (h : DrSt B st) : ∃ es st', runF C WW f__law_core [.obj 0] st = .ok (lP es) st' ∧ Good es ∧ topP es ≤ 5 ∧ es.length ≤ 6 ∧ DrSt (B + 5) st' := by
  obtain ⟨es, st', e, g, d⟩ := core_body hr hd hB h
  obtain ⟨g1, g2, g3⟩ := good_of g
  exact ⟨es, st', run_ret e rfl, g1, g2, g3, d⟩
end
end DI.Law

set_option Elab.async false
set_option linter.all false
set_option maxRecDepth 100000
set_option maxHeartbeats 1000000
namespace DI.Law
open PySem L2 DI
section
variable {C : Calls} {st : Store}
def Mix (C : Calls) : Prop := ∀ (B : Int) (st : Store) (things : List D), things.length ≤ 900 → B + 2000 < 2 ^ 40 → DrSt B st → ∃ q st', C 9 [.obj 0, .lst things] st = .ok (.lst q) st' ∧ q.Perm things ∧ DrSt (B + things.length) st'
theorem mix_nat (hm : Mix C) {B : Int} {l : List Nat} (hl : l.length ≤ 900) (hB : B + 2000 < 2 ^ 40) (h : DrSt B st) : ∃ q st', C 9 [.obj 0, lN l] st = .ok (lN q) st' ∧ q.Perm l ∧ DrSt (B + l.length) st' := by
  obtain ⟨q, st', e, hp, d⟩ := hm B st ((l.map fun (x : Nat) => (x : Int)).map D.int) (by simp; exact hl) hB h
  rw [List.map_map] at hp
  obtain ⟨p, rfl, hp2⟩ := perm_map_inv hp l rfl
  refine ⟨p, st', by rw [e]; show R.ok (D.lst _) st' = R.ok (D.lst _) st'; rw [List.map_map], hp2, ?_⟩
  simpa using d
theorem mix_pair (hm : Mix C) {B : Int} {l : Ed} (hl : l.length ≤ 900) (hB : B + 2000 < 2 ^ 40) (h : DrSt B st) : ∃ q st', C 9 [.obj 0, lP l] st = .ok (lP q) st' ∧ q.Perm l ∧ DrSt (B + l.length) st' := by
  obtain ⟨q, st', e, hp, d⟩ := hm B st (l.map pD) (by simp; exact hl) hB h
  obtain ⟨p, rfl, hp2⟩ := perm_map_inv hp l rfl
  exact ⟨p, st', e, hp2, by simpa using d⟩
def Named (C : Calls) : Prop := ∀ (B : Int) (st : Store) (n : Nat) (ps : Ed), Net n ps → B + 3000 < 2 ^ 40 → DrSt B st → ∃ qs st', C 16 [.obj 0, .int n, lP ps] st = .ok (tP qs) st' ∧ Net n qs ∧ DrSt (B + 30) st'
theorem r_named (ht : Tie C) (hm : Mix C) {B : Int} {n : Nat} {ps : Ed} (hn : Net n ps) (hB : B + 3000 < 2 ^ 40) (h : DrSt B st) : ∃ qs st', runF C WW f__law_renamed [.obj 0, .int n, lP ps] st = .ok (tP qs) st' ∧ Net n qs ∧ DrSt (B + 30) st' := by
  have n1 := hn.n1
  have m1 := hn.m1
  obtain ⟨nm, s1, e1, hp1, d1⟩ := mix_nat hm (l := List.range n) (by simp; omega) (by omega) h
  rw [List.length_range] at d1
  have hnl : nm.length = n := by rw [hp1.length_eq, List.length_range]
  have kr : ev C [some (.obj 0), some (.int n), some (lP ps), none, none, none] (.blt .listRg (.cons (.var 1) .nil)) st = .ok (lN (List.range n)) st := e_blt (es_cons (x := .int n) (e_var rfl) es_nil) (x_listRg n (by omega))
  have k0 : exec C WW (nthS 0 f__law_renamed.body) [some (.obj 0), some (.int n), some (lP ps), none, none, none] st = .nxt [some (.obj 0), some (.int n), some (lP ps), some (lN nm), none, none] s1 :=
    x_set ((e_cal (es_cons (e_var rfl) (es_cons kr es_nil))).trans e1)
  have hc : compR (trn C [some (.obj 0), some (.int n), some (lP ps), some (lN nm), none, none] [4, 5] (.cal 10 "_law_tie" (.cons (.idx (.var 3) (.var 4)) (.cons (.idx (.var 3) (.var 5)) .nil))) (.tup (.cons (.nam 4) (.cons (.nam 5) .nil))) .nil) (ps.map pD) s1 = .ok ((ps.map (tieAt nm)).map pD) s1 := by
    have z : compR (trn C [some (.obj 0), some (.int n), some (lP ps), some (lN nm), none, none] [4, 5] (.cal 10 "_law_tie" (.cons (.idx (.var 3) (.var 4)) (.cons (.idx (.var 3) (.var 5)) .nil))) (.tup (.cons (.nam 4) (.cons (.nam 5) .nil))) .nil) (ps.map pD) s1 =
        .ok ((ps.map pD).map fun x => match x with | .tup [.int a, .int b] => pD (tieAt nm (a.toNat, b.toNat)) | _ => .non) s1 := by
      refine compR_map fun x hx => ?_
      obtain ⟨p, hpm, rfl⟩ := List.mem_map.mp hx
      obtain ⟨h1, h2⟩ := hn.hv p hpm
      refine t_one (S2 := [some (.obj 0), some (.int n), some (lP ps), some (lN nm), some (.int p.1), some (.int p.2)]) (st1 := s1) rfl ?_
      exact (e_cal (es_cons (e_idx (x := lN nm) (y := .int p.1) (e_var rfl) (e_var rfl) (x_idxL (by omega))) (es_cons (e_idx (x := lN nm) (y := .int p.2) (e_var rfl) (e_var rfl) (x_idxL (by omega))) es_nil))).trans (ht _ _ _)
    rw [z, List.map_map, List.map_map]
    rfl
  obtain ⟨qs, s2, e2, hp2, d2⟩ := mix_pair hm (l := ps.map (tieAt nm)) (by simp; omega) (by omega) d1
  rw [List.length_map] at d2
  refine ⟨qs, s2, run_ret (S0 := [some (.obj 0), some (.int n), some (lP ps), none, none, none]) ((s_nxt k0).trans (s_ret (x_ret (d := tP qs) ?_))) rfl, (hn.named hp1).perm hp2, d2.mono (by omega)⟩
  exact e_blt (es_cons ((e_cal (es_cons (e_var rfl) (es_cons (e_lcp (i_lst (e_var rfl)) hc (by simp; omega)) es_nil))).trans e2) es_nil) rfl
abbrev b1T : ISs := bodS (nthS 1 f__law_ties.body)
abbrev b4T : ISs := bodS (nthS 4 f__law_ties.body)
theorem e_top (hT : Top C) {S : Env} {ps : Ed} (i : Nat) (hS : S[i]? = some (some (lP ps))) (hl : ps.length ≤ 900) : ev C S (.cal 15 "_law_top" (.cons (.var i) .nil)) st = .ok (.int (topP ps)) st := (e_cal (es_cons (e_var hS) es_nil)).trans (hT ps st hl)
theorem good_lt {es : Ed} (g : Good es) (ht : topP es ≤ 5) : ∀ p ∈ es, p.1 < 21 ∧ p.2 < 21 := fun p hp => by
  have := g.valid p hp
  omega
theorem ties_turn (ht : Tie C) (hd : Drw C) (hc : Core C) (hs : Shift C) (hT : Top C) {B : Int} (hB : B + 2500 < 2 ^ 40) (h : DrSt B st) {ps : Ed} (hg : Good ps) (h1 : topP ps ≤ 60) (h2 : ps.length ≤ 60) (x1 x2 x3 o5 o6 o7 o8 o9 : Option D) :
    ∃ es st' p8 p9, execs C WW b1T [some (.obj 0), x1, x2, x3, some (lP ps), o5, o6, o7, o8, o9] st = .nxt [some (.obj 0), x1, x2, x3, some (lP es), o5, o6, o7, p8, p9] st' ∧ Good es ∧ topP es ≤ topP ps + 6 ∧ es.length ≤ ps.length + 7 ∧ DrSt (B + 10) st' := by
  obtain ⟨hin, s1, ev1, hh, d1⟩ := drw_nat hd (topP ps) (by omega) h (top_pos ps) (by omega)
  have k0 : execs C WW b1T [some (.obj 0), x1, x2, x3, some (lP ps), o5, o6, o7, o8, o9] st = execs C WW (dropS 1 b1T) [some (.obj 0), x1, x2, x3, some (lP ps), o5, o6, o7, some (.int (topP ps)), some (.int hin)] s1 :=
    s_nxt (x_par (es_cons (e_top hT 4 rfl (by omega)) (es_cons (e_draw rfl (e_top hT 4 rfl (by omega)) ev1) es_nil)) rfl)
  obtain ⟨g, s2, ev2, hg3, d2⟩ := drw_nat hd 3 (by omega) d1 (by omega) (by omega)
  have cg : ev C [some (.obj 0), x1, x2, x3, some (lP ps), o5, o6, o7, some (.int (topP ps)), some (.int hin)] (retE (nthS 1 b1T)) s1 = .ok (.bl (decide ((0 : Int) < g))) s2 := e_cmp (e_draw rfl e_con ev2) e_con rfl
  obtain ⟨cs, s3, ev3, g3, t3, l3, d3⟩ := hc (B + 1 + 1) s2 (by omega) d2
  have fin : ∀ (qs : Ed) (low hinge : Nat), Good qs → topP qs = low → hinge < low → qs.length ≤ 900 → low ≤ 900 → qs.length + cs.length ≤ 1000 → execs C WW (dropS 2 b1T) [some (.obj 0), x1, x2, x3, some (lP qs), o5, o6, o7, some (.int low), some (.int hinge)] s2 = .nxt [some (.obj 0), x1, x2, x3, some (lP (qs ++ shiftP cs low hinge)), o5, o6, o7, some (.int low), some (.int hinge)] s3 := fun qs low hinge gq eq hh hl hlo hle => by
    have r1 := (e_cal (C := C) (f := 13) (n := "_law_core") (S := [some (.obj 0), x1, x2, x3, some (lP qs), o5, o6, o7, some (.int low), some (.int hinge)]) (es_cons (e_var (i := 0) rfl) es_nil)).trans ev3
    have r2 := (e_cal (C := C) (f := 14) (n := "_law_shifted") (es_cons r1 (es_cons (e_var (i := 8) rfl) (es_cons (e_var (i := 9) rfl) es_nil)))).trans (hs cs low hinge s3 (good_lt g3 t3) (by omega) hlo)
    exact (s_nxt (x_set (e_bin (e_var rfl) r2 (x_catP _ _ (by simp [shiftP]; omega))))).trans s_nil
  rw [k0]
  by_cases hg0 : 0 < g
  · obtain ⟨gj, tj⟩ := hg.join hh
    have r1 := e_bin (C := C) (op := .Add) (st := s2) (S := [some (.obj 0), x1, x2, x3, some (lP ps), o5, o6, o7, some (.int (topP ps)), some (.int hin)]) (e_var (i := 4) rfl) (e_lst (es_cons ((e_cal (f := 10) (n := "_law_tie") (es_cons (e_var (i := 9) rfl) (es_cons (e_var (i := 8) rfl) es_nil))).trans (ht hin (topP ps) s2)) es_nil) (by simp)) (x_catP ps [tieP hin (topP ps)] (by simp; omega))
    have k1 : exec C WW (nthS 1 b1T) [some (.obj 0), x1, x2, x3, some (lP ps), o5, o6, o7, some (.int (topP ps)), some (.int hin)] s1 = .nxt [some (.obj 0), x1, x2, x3, some (lP (ps ++ [tieP hin (topP ps)])), o5, o6, o7, some (.int (topP ps + 1 : Nat)), some (.int (topP ps))] s2 := by
      refine (x_iffT cg (by rw [decide_eq_true (by omega)]; rfl)).trans ((s_nxt (x_par (es_cons r1 (es_cons (e_var rfl) (es_cons (e_bin (e_var rfl) e_con (add_nn (topP ps) 1)) es_nil))) rfl)).trans s_nil)
    obtain ⟨gs, ts⟩ := gj.shift g3 (hinge := topP ps) (by omega)
    rw [tj] at gs ts
    refine ⟨_, s3, _, _, (s_nxt k1).trans (fin _ _ _ gj tj (by omega) (by simp; omega) (by omega) (by simp; omega)), gs, by omega, by simp [shiftP]; omega, d3.mono (by omega)⟩
  · have k1 : exec C WW (nthS 1 b1T) [some (.obj 0), x1, x2, x3, some (lP ps), o5, o6, o7, some (.int (topP ps)), some (.int hin)] s1 = .nxt [some (.obj 0), x1, x2, x3, some (lP ps), o5, o6, o7, some (.int (topP ps)), some (.int hin)] s2 :=
      (x_iffF cg (by rw [decide_eq_false (by omega)]; rfl)).trans s_nil
    obtain ⟨gs, ts⟩ := hg.shift g3 hh
    refine ⟨_, s3, _, _, (s_nxt k1).trans (fin _ _ _ hg rfl hh (by omega) (by omega) (by omega)), gs, by omega, by simp [shiftP]; omega, d3.mono (by omega)⟩
def Ties (C : Calls) : Prop := ∀ (B : Int) (st : Store) (c t m : Nat), c < 4 → t < 4 → m < 3 → B + 4000 < 2 ^ 40 → DrSt B st → ∃ (n : Nat) (qs : Ed) (st' : Store), C 17 [.obj 0, .int (1 + c : Nat), .int t, .int m] st = .ok (.tup [.int n, tP qs]) st' ∧ Net n qs ∧ DrSt (B + 200) st'
theorem r_ties (ht : Tie C) (hd : Drw C) (hc : Core C) (hs : Shift C) (hT : Top C) (htr : Tree C) (hn : Named C) {B : Int} {c t m : Nat} (hc4 : c < 4) (ht4 : t < 4) (hm3 : m < 3) (hB : B + 4000 < 2 ^ 40) (h : DrSt B st) : ∃ (n : Nat) (qs : Ed) (st' : Store), runF C WW f__law_ties [.obj 0, .int (1 + c : Nat), .int t, .int m] st = .ok (.tup [.int n, tP qs]) st' ∧ Net n qs ∧ DrSt (B + 200) st' := by
  obtain ⟨c0, s0, ev0, g0, t0, l0, d0⟩ := hc B st (by omega) h
  have k0 : exec C WW (nthS 0 f__law_ties.body) [some (.obj 0), some (.int (1 + c : Nat)), some (.int t), some (.int m), none, none, none, none, none, none] st = .nxt [some (.obj 0), some (.int (1 + c : Nat)), some (.int t), some (.int m), some (lP c0), none, none, none, none, none] s0 := x_set ((e_cal (es_cons (e_var rfl) es_nil)).trans ev0)
  obtain ⟨S1, s1, k1, ps, o5, o8, o9, rfl, g1, t1, l1, d1⟩ : ∃ S' st', exec C WW (nthS 1 f__law_ties.body) [some (.obj 0), some (.int (1 + c : Nat)), some (.int t), some (.int m), some (lP c0), none, none, none, none, none] s0 = .nxt S' st' ∧
      ∃ ps o5 o8 o9, S' = [some (.obj 0), some (.int (1 + c : Nat)), some (.int t), some (.int m), some (lP ps), o5, none, none, o8, o9] ∧ Good ps ∧ topP ps ≤ 5 + 6 * c ∧ ps.length ≤ 6 + 7 * c ∧ DrSt (B + 5 + 10 * c) st' := by
    have hi : itm C [some (.obj 0), some (.int (1 + c : Nat)), some (.int t), some (.int m), some (lP c0), none, none, none, none, none] (itS (nthS 1 f__law_ties.body)) s0 = .ok ((List.range c).map fun (x : Nat) => D.int x) s0 :=
      i_range (e_bin (e_var rfl) e_con (show binD .Sub (.int (1 + c : Nat)) (.int 1) = some (.int c) from by rw [sub_eq]; congr 2; omega)) (by omega)
    have z : exec C WW (nthS 1 f__law_ties.body) [some (.obj 0), some (.int (1 + c : Nat)), some (.int t), some (.int m), some (lP c0), none, none, none, none, none] s0 = _ := x_frr hi
    rw [z]
    refine for_range (fun k S' st' => ∃ ps o5 o8 o9, S' = [some (.obj 0), some (.int (1 + c : Nat)), some (.int t), some (.int m), some (lP ps), o5, none, none, o8, o9] ∧ Good ps ∧ topP ps ≤ 5 + 6 * k ∧ ps.length ≤ 6 + 7 * k ∧ DrSt (B + 5 + 10 * k) st') c ⟨c0, none, none, none, rfl, g0, by omega, by omega, d0.mono (by omega)⟩ fun k S' st' hk ⟨ps, o5, o8, o9, eS, g, t', l, d⟩ => ?_
    subst eS
    obtain ⟨es, s', p8, p9, e, ge, te, le, de⟩ := ties_turn ht hd hc hs hT (by omega) d g (by omega) (by omega) (some (.int (1 + c : Nat))) (some (.int t)) (some (.int m)) (some (.int k)) none none o8 o9
    refine ⟨_, s', ?_, es, some (.int k), p8, p9, rfl, ge, by omega, by omega, de.mono (by omega)⟩
    rw [a_nam]
    exact e
  have tp := top_pos ps
  have k2 : exec C WW (nthS 2 f__law_ties.body) [some (.obj 0), some (.int (1 + c : Nat)), some (.int t), some (.int m), some (lP ps), o5, none, none, o8, o9] s1 = .nxt [some (.obj 0), some (.int (1 + c : Nat)), some (.int t), some (.int m), some (lP ps), o5, some (.int (topP ps)), none, o8, o9] s1 := x_set (e_top hT 4 rfl (by omega))
  obtain ⟨es, s3, ev3, hl3, hg3, d3⟩ := htr (B + 5 + 10 * c) s1 (topP ps + t) (topP ps) tp (by omega) (by omega) (by omega) d1
  obtain ⟨g3, t3⟩ := hg3 ps g1 rfl
  have k3 : exec C WW (nthS 3 f__law_ties.body) [some (.obj 0), some (.int (1 + c : Nat)), some (.int t), some (.int m), some (lP ps), o5, some (.int (topP ps)), none, o8, o9] s1 = .nxt [some (.obj 0), some (.int (1 + c : Nat)), some (.int t), some (.int m), some (lP (ps ++ es)), o5, some (.int (topP ps)), none, o8, o9] s3 :=
    x_set (e_bin (e_var rfl) ((e_cal (es_cons (e_var rfl) (es_cons (e_bin (e_var rfl) (e_var rfl) (add_nn (topP ps) t)) (es_cons (e_var rfl) es_nil)))).trans ev3) (x_catP _ _ (by omega)))
  have l3 : (ps ++ es).length ≤ 40 := by rw [List.length_append]; omega
  have t3' : topP (ps ++ es) ≤ 40 := by omega
  generalize ps ++ es = rs at k3 g3 t3 l3 t3'
  obtain ⟨S4, s4, k4, qs, p5, p7, rfl, g4, t4, l4, d4⟩ : ∃ S' st', exec C WW (nthS 4 f__law_ties.body) [some (.obj 0), some (.int (1 + c : Nat)), some (.int t), some (.int m), some (lP rs), o5, some (.int (topP ps)), none, o8, o9] s3 = .nxt S' st' ∧
      ∃ qs p5 p7, S' = [some (.obj 0), some (.int (1 + c : Nat)), some (.int t), some (.int m), some (lP qs), p5, some (.int (topP ps)), p7, o8, o9] ∧ Good qs ∧ topP qs ≤ 40 ∧ qs.length ≤ 40 + m ∧ DrSt (B + 5 + 10 * c + (topP ps + t - topP ps : Nat) + 2 * m) st' := by
    have hi : itm C [some (.obj 0), some (.int (1 + c : Nat)), some (.int t), some (.int m), some (lP rs), o5, some (.int (topP ps)), none, o8, o9] (itS (nthS 4 f__law_ties.body)) s3 = .ok ((List.range m).map fun (x : Nat) => D.int x) s3 := i_range (e_var rfl) (by omega)
    have z : exec C WW (nthS 4 f__law_ties.body) [some (.obj 0), some (.int (1 + c : Nat)), some (.int t), some (.int m), some (lP rs), o5, some (.int (topP ps)), none, o8, o9] s3 = _ := x_frr hi
    rw [z]
    refine for_range (fun k S' st' => ∃ qs p5 p7, S' = [some (.obj 0), some (.int (1 + c : Nat)), some (.int t), some (.int m), some (lP qs), p5, some (.int (topP ps)), p7, o8, o9] ∧ Good qs ∧ topP qs ≤ 40 ∧ qs.length ≤ 40 + k ∧ DrSt (B + 5 + 10 * c + (topP ps + t - topP ps : Nat) + 2 * k) st') m ⟨rs, o5, none, rfl, g3, t3', by omega, d3.mono (by omega)⟩ fun k S' st' hk ⟨qs, p5, p7, eS, g, t', l, d⟩ => ?_
    subst eS
    obtain ⟨x, sa, ea, hx, da⟩ := drw_nat hd (topP qs) (by omega) d (top_pos qs) (by omega)
    obtain ⟨y, sb, eb, hy, db⟩ := drw_nat hd (topP qs) (by omega) da (top_pos qs) (by omega)
    obtain ⟨gm, tm⟩ := g.more hx hy
    refine ⟨[some (.obj 0), some (.int (1 + c : Nat)), some (.int t), some (.int m), some (lP (qs ++ [tieP x y])), some (.int k), some (.int (topP ps)), some (.int x), o8, o9], sb, ?_, qs ++ [tieP x y], _, _, rfl, gm, by omega, by simp; omega, db.mono (by omega)⟩
    rw [a_nam]
    show execs C WW b4T [some (.obj 0), some (.int (1 + c : Nat)), some (.int t), some (.int m), some (lP qs), some (.int k), some (.int (topP ps)), p7, o8, o9] st' = _
    have q1 : exec C WW (nthS 0 b4T) [some (.obj 0), some (.int (1 + c : Nat)), some (.int t), some (.int m), some (lP qs), some (.int k), some (.int (topP ps)), p7, o8, o9] st' = .nxt [some (.obj 0), some (.int (1 + c : Nat)), some (.int t), some (.int m), some (lP qs), some (.int k), some (.int (topP ps)), some (.int x), o8, o9] sa :=
      x_set (e_draw rfl (e_top hT 4 rfl (by omega)) ea)
    refine (s_nxt q1).trans ((s_nxt (x_set (e_bin (e_var rfl) (e_lst (es_cons ((e_cal (es_cons (e_var rfl) (es_cons (e_draw rfl (e_top hT 4 rfl (by omega)) eb) es_nil))).trans (ht x y sb)) es_nil) (by simp)) (x_catP qs [tieP x y] (by simp; omega))))).trans s_nil)
  obtain ⟨vs, s5, k5, g5, t5, l5, d5⟩ : ∃ vs s5, exec C WW (nthS 5 f__law_ties.body) [some (.obj 0), some (.int (1 + c : Nat)), some (.int t), some (.int m), some (lP qs), p5, some (.int (topP ps)), p7, o8, o9] s4 = .nxt [some (.obj 0), some (.int (1 + c : Nat)), some (.int t), some (.int m), some (lP vs), p5, some (.int (topP ps)), p7, o8, o9] s5 ∧ Good vs ∧ topP vs ≤ 12 ∧ vs.length ≤ 16 ∧ DrSt (B + 150) s5 := by
    have c1 : ev C [some (.obj 0), some (.int (1 + c : Nat)), some (.int t), some (.int m), some (lP qs), p5, some (.int (topP ps)), p7, o8, o9] (.cmp .Gt (.cal 15 "_law_top" (.cons (.var 4) .nil)) (.con (.int 12))) s4 = .ok (.bl (decide ((12 : Int) < topP qs))) s4 := e_cmp (e_top hT 4 rfl (by omega)) e_con rfl
    have c2 : ev C [some (.obj 0), some (.int (1 + c : Nat)), some (.int t), some (.int m), some (lP qs), p5, some (.int (topP ps)), p7, o8, o9] (.cmp .Gt (.blt .len (.cons (.var 4) .nil)) (.con (.int 16))) s4 = .ok (.bl (decide ((16 : Int) < qs.length))) s4 := e_cmp (e_blt (es_cons (e_var rfl) es_nil) (x_lenQ qs)) e_con rfl
    by_cases hbig : 12 < topP qs ∨ 16 < qs.length
    · have cT : ∃ d, ev C [some (.obj 0), some (.int (1 + c : Nat)), some (.int t), some (.int m), some (lP qs), p5, some (.int (topP ps)), p7, o8, o9] (retE (nthS 5 f__law_ties.body)) s4 = .ok d s4 ∧ truD (see s4 d) = some true := by
        by_cases h12 : 12 < topP qs
        · exact ⟨_, (e_orT c1 (by rw [decide_eq_true (by omega)]; rfl)), by rw [decide_eq_true (by omega)]; rfl⟩
        · exact ⟨_, (e_orF c1 (by rw [decide_eq_false (by omega)]; rfl)).trans c2, by rw [decide_eq_true (by omega)]; rfl⟩
      obtain ⟨d, ed, td⟩ := cT
      obtain ⟨c9, s9, ev9, g9, t9, l9, d9⟩ := hc _ s4 (by omega) d4
      exact ⟨c9, s9, (x_iffT ed td).trans ((s_nxt (x_set ((e_cal (es_cons (e_var rfl) es_nil)).trans ev9))).trans s_nil), g9, by omega, by omega, d9.mono (by omega)⟩
    · have cF : ev C [some (.obj 0), some (.int (1 + c : Nat)), some (.int t), some (.int m), some (lP qs), p5, some (.int (topP ps)), p7, o8, o9] (retE (nthS 5 f__law_ties.body)) s4 = .ok (.bl (decide ((16 : Int) < qs.length))) s4 := (e_orF c1 (by rw [decide_eq_false (by omega)]; rfl)).trans c2
      exact ⟨qs, s4, (x_iffF cF (by rw [decide_eq_false (by omega)]; rfl)).trans s_nil, g4, by omega, by omega, d4.mono (by omega)⟩
  obtain ⟨ws, s6, ev6, n6, d6⟩ := hn (B + 150) s5 (topP vs) vs (g5.net t5 l5) (by omega) d5
  refine ⟨topP vs, ws, s6, run_ret (S0 := [some (.obj 0), some (.int (1 + c : Nat)), some (.int t), some (.int m), none, none, none, none, none, none]) ((s_nxt k0).trans ((s_nxt k1).trans ((s_nxt k2).trans ((s_nxt k3).trans ((s_nxt k4).trans ((s_nxt k5).trans (s_ret (x_ret ?_)))))))) rfl, n6, d6.mono (by omega)⟩
  exact e_tup (es_cons (e_top hT 4 rfl (by omega)) (es_cons ((e_cal (es_cons (e_var rfl) (es_cons (e_top hT 4 rfl (by omega)) (es_cons (e_var rfl) es_nil)))).trans ev6) es_nil)) (by simp)
end
end DI.Law

set_option Elab.async false
set_option linter.all false
set_option maxRecDepth 100000
set_option maxHeartbeats 1000000
/-! the checks, reached_places -/
namespace DI.Law
open PySem L2 DI
section
variable {C : Calls} {st : Store}
def Below (C : Calls) : Prop := ∀ (i j : Int) (st : Store), C 1 [.int i, .int j] st = .ok (.bl (decide (0 ≤ i) && decide (i < j))) st
theorem r_is_integer (i : Int) : runF C WW f_is_integer [.int i] st = .ok (.bl true) st := by
  simp [runF, f_is_integer, outR, execs, exec, R.out, R.bind, ev, evs, see, truD, bltD, isiD, R.of]
theorem r_is_below (h0 : ∀ i st, C 0 [.int i] st = .ok (.bl true) st) (i j : Int) : runF C WW f_is_below [.int i, .int j] st = .ok (.bl (decide (0 ≤ i) && decide (i < j))) st := by
  simp [runF, f_is_below, outR, execs, exec, R.out, R.bind, ev, evs, see, truD, cmpD, ltD, R.of, h0]
  by_cases h : 0 ≤ i <;> simp [h]
theorem r_is_passage (h1 : Below C) {n : Nat} {p : Nat × Nat} (hl : p.1 ≤ p.2) (hp : p.2 < n) : runF C WW f_is_passage [pD p, .int n] st = .ok (.bl true) st := by
  have c1 : ev C [some (pD p), some (.int n), none] (.blt .isi (.cons (.var 0) (.cons (.con (.ty "tuple")) .nil))) st = .ok (.bl true) st := e_blt (es_cons (e_var rfl) (es_cons e_con es_nil)) rfl
  have c2 : ev C [some (pD p), some (.int n), none] (.cmp .NotEq (.blt .len (.cons (.var 0) .nil)) (.con (.int 2))) st = .ok (.bl false) st := e_cmp (e_blt (es_cons (e_var rfl) es_nil) (x_lenT [p.1, p.2])) e_con (by rw [show see st (D.int ([p.1, p.2].length : Nat)) = .int 2 from rfl, show see st (D.int 2) = .int 2 from rfl, ne_int]; rfl)
  have k0 : exec C WW (nthS 0 f_is_passage.body) [some (pD p), some (.int n), none] st = .nxt [some (pD p), some (.int n), none] st :=
    (x_iffF ((e_orF (e_not c1 rfl) rfl).trans c2) rfl).trans s_nil
  have one : ∀ x : Nat, x < n → trn C [some (pD p), some (.int n), none] [2] (.cal 1 "is_below" (.cons (.var 2) (.cons (.var 1) .nil))) (.nam 2) .nil (.int x) st = .ok (some (.bl true)) st := fun x hx => by
    refine t_one (S2 := [some (pD p), some (.int n), some (.int x)]) (st1 := st) rfl ((e_cal (es_cons (e_var rfl) (es_cons (e_var rfl) es_nil))).trans ((h1 _ _ _).trans ?_))
    rw [decide_eq_true (by omega), decide_eq_true (by omega)]
    rfl
  have hc : compR (trn C [some (pD p), some (.int n), none] [2] (.cal 1 "is_below" (.cons (.var 2) (.cons (.var 1) .nil))) (.nam 2) .nil) (([p.1, p.2].map fun (x : Nat) => (x : Int)).map D.int) st = .ok [.bl true, .bl true] st := by
    show compR _ [D.int p.1, D.int p.2] st = _
    simp only [compR, one p.1 (by omega), one p.2 hp, R.bind]
  have c3 : ev C [some (pD p), some (.int n), none] (.blt .all (.cons (.lcp (.cal 1 "is_below" (.cons (.var 2) (.cons (.var 1) .nil))) (.nam 2) (.val (.var 0)) .nil [2]) .nil)) st = .ok (.bl true) st :=
    e_blt (es_cons (e_lcp (i_tup (e_var rfl)) hc (by simp)) es_nil) rfl
  have c4 : ev C [some (pD p), some (.int n), none] (.cmp .LtE (.idx (.var 0) (.con (.int 0))) (.idx (.var 0) (.con (.int 1)))) st = .ok (.bl (decide ((p.1 : Int) ≤ p.2))) st := e_cmp (e_idx (e_var rfl) e_con (x_fst p)) (e_idx (e_var rfl) e_con (x_snd p)) rfl
  rw [decide_eq_true (by omega)] at c4
  exact run_ret (S0 := [some (pD p), some (.int n), none]) ((s_nxt k0).trans (s_ret (x_ret ((e_andT c3 rfl).trans c4)))) rfl
/-- what is left out -/
structure IsW (d : D) (w : List Nat) : Prop where
  s : ∀ st, see st d = d
  i : ∀ x : Nat, inD (.int x) d = some (decide (x ∈ w))
theorem isW_l (w : List Nat) : IsW (lN w) w := ⟨fun _ => rfl, fun x => in_l x w⟩
theorem isW_t (w : List Nat) : IsW (tN w) w := ⟨fun _ => rfl, fun x => in_t x w⟩
abbrev rWh : IS := nthS 1 f_reached_places.body
abbrev rPass : ISs := bodS (nthS 1 (bodS rWh))
theorem app_nat (f : List Nat) (x : Nat) : D.lst ((f.map fun (x : Nat) => (x : Int)).map D.int ++ [D.int x]) = lN (f ++ [x]) := by
  unfold lN lI
  rw [List.map_append, List.map_append]
  rfl
theorem dec_ne (a b : Prop) [Decidable a] [Decidable b] : (!decide (decide a = decide b)) = decide (¬ (a ↔ b)) := by
  by_cases h : a <;> by_cases k : b <;> simp [h, k]
theorem pass_turn {wd : D} {w : List Nat} (hw : IsW wd w) {P A x4 : Option D} {f : List Nat} (hf : f.length ≤ 900) (k : Nat) (p : Nat × Nat) : execs C WW rPass [P, A, some wd, some (lN f), x4, some (.int k), some (.int p.1), some (.int p.2)] st = .nxt [P, A, some wd, some (lN (gr1 w f k p)), x4, some (.int k), some (.int p.1), some (.int p.2)] st := by
  have i1 : ∀ (i x : Nat), [P, A, some wd, some (lN f), x4, some (.int k), some (.int p.1), some (.int p.2)][i]? = some (some (.int x)) → ev C [P, A, some wd, some (lN f), x4, some (.int k), some (.int p.1), some (.int p.2)] (.cmp .In (.var i) (.var 3)) st = .ok (.bl (decide (x ∈ f))) st := fun i x h => e_cmp (e_var h) (e_var rfl) (in_l x f)
  have c1 : ev C [P, A, some wd, some (lN f), x4, some (.int k), some (.int p.1), some (.int p.2)] (.cmp .NotIn (.var 5) (.var 2)) st = .ok (.bl (!decide (k ∈ w))) st := e_cmp (e_var rfl) (e_var rfl) (by
    rw [hw.s]
    show (inD (.int k) wd).map not = _
    rw [hw.i]
    rfl)
  have c2 : ev C [P, A, some wd, some (lN f), x4, some (.int k), some (.int p.1), some (.int p.2)] (.cmp .NotEq (.cmp .In (.var 6) (.var 3)) (.cmp .In (.var 7) (.var 3))) st = .ok (.bl (decide (¬ (p.1 ∈ f ↔ p.2 ∈ f)))) st := by
    have z := e_cmp (op := .NotEq) (i1 6 p.1 rfl) (i1 7 p.2 rfl) (ne_bl _ _)
    rw [dec_ne] at z
    exact z
  by_cases hk : k ∈ w
  · have e : gr1 w f k p = f := if_neg fun h => h.1 hk
    rw [e]
    rw [decide_eq_true hk] at c1
    exact (s_nxt ((x_iffF ((e_andF c1 rfl)) rfl).trans s_nil)).trans s_nil
  · rw [decide_eq_false hk] at c1
    have c3 := (e_andT (b := .cmp .NotEq (.cmp .In (.var 6) (.var 3)) (.cmp .In (.var 7) (.var 3))) c1 rfl).trans c2
    by_cases hd : p.1 ∈ f ↔ p.2 ∈ f
    · have e : gr1 w f k p = f := if_neg fun h => h.2 hd
      rw [e]
      exact (s_nxt ((x_iffF c3 (by rw [decide_eq_false (not_not_intro hd)]; rfl)).trans s_nil)).trans s_nil
    · have e : gr1 w f k p = f ++ [if p.1 ∈ f then p.2 else p.1] := if_pos ⟨hk, hd⟩
      rw [e]
      have c4 : ev C [P, A, some wd, some (lN f), x4, some (.int k), some (.int p.1), some (.int p.2)] (.ite (.cmp .In (.var 6) (.var 3)) (.var 7) (.var 6)) st = .ok (.int (if p.1 ∈ f then p.2 else p.1 : Nat)) st := by
        by_cases h1 : p.1 ∈ f
        · rw [e_iteT (i1 6 p.1 rfl) (by rw [decide_eq_true h1]; rfl), if_pos h1]
          exact e_var rfl
        · rw [e_iteF (i1 6 p.1 rfl) (by rw [decide_eq_false h1]; rfl), if_neg h1]
          exact e_var rfl
      have k1 := x_app (W := WW) (i := 3) (l := (f.map fun (x : Nat) => (x : Int)).map D.int) (S := [P, A, some wd, some (lN f), x4, some (.int k), some (.int p.1), some (.int p.2)]) rfl c4 (by simp; omega)
      rw [app_nat] at k1
      exact (s_nxt ((x_iffT c3 (by rw [decide_eq_true hd]; rfl)).trans ((s_nxt k1).trans s_nil))).trans s_nil
theorem map_get {ps : Ed} {k : Nat} {x : D} (h : (ps.map pD)[k]? = some x) : k < ps.length ∧ x = pD (ps.getD k (0, 0)) := by
  rw [List.getElem?_map] at h
  by_cases hk : k < ps.length
  · rw [getD_get hk] at h
    cases h
    exact ⟨hk, rfl⟩
  · rw [List.getElem?_eq_none (by omega)] at h
    cases h
theorem gro_le (ps : Ed) (w f : List Nat) : ∀ k, (gro ps w f k).length ≤ f.length + k
  | 0 => Nat.le_refl _
  | k + 1 => by
    have := gro_le ps w f k
    have : (gro ps w f (k + 1)).length ≤ (gro ps w f k).length + 1 := gr1_le _ _ _ _
    omega
theorem pass_run {wd : D} {w : List Nat} (hw : IsW wd w) {A x4 x5 x6 x7 : Option D} {ps : Ed} {f : List Nat} (hf : f.length + ps.length ≤ 900) : ∃ y5 y6 y7, exec C WW (nthS 1 (bodS rWh)) [some (tP ps), A, some wd, some (lN f), x4, x5, x6, x7] st = .nxt [some (tP ps), A, some wd, some (lN (gro ps w f ps.length)), x4, y5, y6, y7] st := by
  have z : exec C WW (nthS 1 (bodS rWh)) [some (tP ps), A, some wd, some (lN f), x4, x5, x6, x7] st = _ := x_frr (i_enmT (e_var rfl))
  rw [z]
  obtain ⟨S', st', e, ⟨y5, y6, y7, eS⟩, est⟩ := for_enum (b := fun x S st => (asg C (tgtS (nthS 1 (bodS rWh))) x S st).out fun S st => execs C WW rPass S st)
    (fun k S' st' => (∃ y5 y6 y7, S' = [some (tP ps), A, some wd, some (lN (gro ps w f k)), x4, y5, y6, y7]) ∧ st' = st) (ps.map pD) (S := [some (tP ps), A, some wd, some (lN f), x4, x5, x6, x7]) (st := st) ⟨⟨x5, x6, x7, rfl⟩, rfl⟩ fun k x S' st' hk ⟨⟨y5, y6, y7, eS⟩, est⟩ => by
      subst eS est
      obtain ⟨hkl, rfl⟩ := map_get hk
      have := gro_le ps w f k
      exact ⟨_, st', pass_turn hw (by omega) k _, ⟨_, _, _, rfl⟩, rfl⟩
  subst eS est
  rw [List.length_map] at e
  exact ⟨y5, y6, y7, e⟩
theorem rp_turns {wd : D} {w : List Nat} (hw : IsW wd w) {A : Option D} {n a : Nat} {ps : Ed} (hv : Valid n ps) (ha : a < n) (hn : n + ps.length ≤ 800) : ∀ (m fuel : Nat) (f : List Nat) (size : Nat) (x5 x6 x7 : Option D), Inv ps w a f → size ≤ f.length → (size = f.length → Closed ps w f) → n < f.length + m → m < fuel →
    ∃ f' s' y5 y6 y7, Inv ps w a f' ∧ Closed ps w f' ∧ whlR (fun S st => (ev C S (retE rWh) st).bind fun x st => .of (truD (see st x)) st) (execs C WW (bodS rWh)) fuel [some (tP ps), A, some wd, some (lN f), some (.int size), x5, x6, x7] st = .nxt [some (tP ps), A, some wd, some (lN f'), s', y5, y6, y7] st := by
  have cond : ∀ (f : List Nat) (size : Nat) (x5 x6 x7 : Option D), (fun S st => (ev C S (retE rWh) st).bind fun x st => .of (truD (see st x)) st) [some (tP ps), A, some wd, some (lN f), some (.int size), x5, x6, x7] st = R.ok (decide (size < f.length)) st := fun f size x5 x6 x7 => by
    have z : ev C [some (tP ps), A, some wd, some (lN f), some (.int size), x5, x6, x7] (retE rWh) st = .ok (.bl (decide ((size : Int) < f.length))) st := e_cmp (e_var rfl) (e_blt (es_cons (e_var rfl) es_nil) (x_lenL f)) rfl
    dsimp only
    rw [z]
    show R.ok (decide ((size : Int) < f.length)) st = _
    congr 1
    by_cases h : size < f.length
    · rw [decide_eq_true h, decide_eq_true (by omega)]
    · rw [decide_eq_false h, decide_eq_false (by omega)]
  intro m
  induction m with
  | zero =>
    intro fuel f size x5 x6 x7 hi _ _ hm _
    have := hi.len hv ha
    omega
  | succ m ih =>
    intro fuel f size x5 x6 x7 hi hs hc hm hfu
    obtain ⟨fuel, rfl⟩ : ∃ k, fuel = k + 1 := ⟨fuel - 1, by omega⟩
    have hfl := hi.len hv ha
    by_cases he : size = f.length
    · exact ⟨f, _, _, _, _, hi, hc he, whl_stop ((cond f size x5 x6 x7).trans (by rw [decide_eq_false (by omega)]))⟩
    · obtain ⟨y5, y6, y7, ep⟩ := pass_run (C := C) (st := st) hw (A := A) (x4 := some (.int f.length)) (x5 := x5) (x6 := x6) (x7 := x7) (ps := ps) (f := f) (by omega)
      have eb : execs C WW (bodS rWh) [some (tP ps), A, some wd, some (lN f), some (.int size), x5, x6, x7] st = .nxt [some (tP ps), A, some wd, some (lN (gro ps w f ps.length)), some (.int f.length), y5, y6, y7] st := by
        have k0 : exec C WW (nthS 0 (bodS rWh)) [some (tP ps), A, some wd, some (lN f), some (.int size), x5, x6, x7] st = .nxt [some (tP ps), A, some wd, some (lN f), some (.int f.length), x5, x6, x7] st := x_set (e_blt (es_cons (e_var rfl) es_nil) (x_lenL f))
        exact (s_nxt k0).trans ((s_nxt ep).trans s_nil)
      have ct := cond f size x5 x6 x7
      rw [decide_eq_true (by omega)] at ct
      rw [whl_step ct eb]
      have hgi := gro_inv hi ps.length (Nat.le_refl _)
      have hgl := gro_len ps w f ps.length
      by_cases hsame : (gro ps w f ps.length).length = f.length
      · obtain ⟨fuel, rfl⟩ : ∃ k, fuel = k + 1 := ⟨fuel - 1, by omega⟩
        obtain ⟨e1, c1⟩ := gro_closed hsame
        exact ⟨gro ps w f ps.length, _, _, _, _, hgi, by rw [e1]; exact c1, whl_stop ((cond _ f.length y5 y6 y7).trans (by rw [decide_eq_false (by omega)]))⟩
      · exact ih fuel (gro ps w f ps.length) f.length y5 y6 y7 hgi hgl (fun e => absurd e.symm hsame) (by omega) (by omega)
def Reach (C : Calls) : Prop := ∀ (n a : Nat) (ps : Ed) (wd : D) (w : List Nat) (st : Store), IsW wd w → Valid n ps → a < n → n + ps.length ≤ 800 → C 3 [tP ps, .int a, wd] st = .ok (tN (Rc n ps w a)) st
theorem r_reached {wd : D} {w : List Nat} (hw : IsW wd w) {n a : Nat} {ps : Ed} (hv : Valid n ps) (ha : a < n) (hn : n + ps.length ≤ 800) : runF C WW f_reached_places [tP ps, .int a, wd] st = .ok (tN (Rc n ps w a)) st := by
  have k0 : exec C WW (nthS 0 f_reached_places.body) [some (tP ps), some (.int a), some wd, none, none, none, none, none] st = .nxt [some (tP ps), some (.int a), some wd, some (lN [a]), some (.int (0 : Nat)), none, none, none] st :=
    x_par (es_cons (e_lst (es_cons (e_var rfl) es_nil) (by simp)) (es_cons e_con es_nil)) rfl
  obtain ⟨f', s', y5, y6, y7, hi, hc, ew⟩ := rp_turns (C := C) (st := st) hw (A := some (.int a)) hv ha hn n WW [a] 0 none none none (inv_one ps w a) (by simp) (by simp) (by simp) (by show n < 100000; omega)
  have k1 : exec C WW rWh [some (tP ps), some (.int a), some wd, some (lN [a]), some (.int (0 : Nat)), none, none, none] st = .nxt [some (tP ps), some (.int a), some wd, some (lN f'), s', y5, y6, y7] st := x_whl.trans ew
  have ks := x_sorted (found_perm hv ha hi hc) (Rc_asc n ps w a)
  refine run_ret (S0 := [some (tP ps), some (.int a), some wd, none, none, none, none, none]) ((s_nxt k0).trans ((s_nxt k1).trans (s_ret (x_ret ?_)))) rfl
  exact e_blt (es_cons (e_blt (es_cons (x := lN f') (e_var rfl) es_nil) ks) es_nil) rfl
def Passage (C : Calls) : Prop := ∀ (n : Nat) (p : Nat × Nat) (st : Store), p.1 ≤ p.2 → p.2 < n → C 2 [pD p, .int n] st = .ok (.bl true) st
theorem r_problem (h0 : ∀ i st, C 0 [.int i] st = .ok (.bl true) st) (h2 : Passage C) (h3 : Reach C) {n : Nat} {ps : Ed} (h : Net n ps) : runF C WW f_problem_of [.int n, tP ps, .int 12, .int 16] st = .ok .non st := by
  have n0 := h.n0
  have n1 := h.n1
  have m1 := h.m1
  have a1 : ev C [some (.int n), some (tP ps), some (.int 12), some (.int 16), none, none] (.cal 0 "is_integer" (.cons (.var 0) .nil)) st = .ok (.bl true) st := (e_cal (es_cons (e_var rfl) es_nil)).trans (h0 _ _)
  have a2 : ev C [some (.int n), some (tP ps), some (.int 12), some (.int 16), none, none] (.chn .LtE .LtE (.con (.int 1)) (.var 0) (.var 2)) st = .ok (.bl true) st := by
    have z := e_chnT (C := C) (S := [some (.int n), some (tP ps), some (.int 12), some (.int 16), none, none]) (st := st) (o1 := .LtE) (o2 := .LtE) (c := .var 2) (e_con (d := .int 1)) (e_var (i := 0) rfl) (show some (decide ((1 : Int) ≤ n)) = some true by rw [decide_eq_true (by omega)]) (e_var rfl) (show some (decide ((n : Int) ≤ 12)) = some true by rw [decide_eq_true (by omega)])
    exact z
  have k0 : exec C WW (nthS 0 f_problem_of.body) [some (.int n), some (tP ps), some (.int 12), some (.int 16), none, none] st = .nxt [some (.int n), some (tP ps), some (.int 12), some (.int 16), none, none] st :=
    (x_iffF ((e_orF (e_not a1 rfl) rfl).trans (e_not a2 rfl)) rfl).trans s_nil
  have a3 : ev C [some (.int n), some (tP ps), some (.int 12), some (.int 16), none, none] (.blt .isi (.cons (.var 1) (.cons (.con (.ty "tuple")) .nil))) st = .ok (.bl true) st := e_blt (es_cons (e_var rfl) (es_cons e_con es_nil)) rfl
  have a4 : ev C [some (.int n), some (tP ps), some (.int 12), some (.int 16), none, none] (.cmp .Gt (.blt .len (.cons (.var 1) .nil)) (.var 3)) st = .ok (.bl (decide ((16 : Int) < ps.length))) st := e_cmp (e_blt (es_cons (e_var rfl) es_nil) (x_lenP ps)) (e_var rfl) rfl
  have k1 : exec C WW (nthS 1 f_problem_of.body) [some (.int n), some (tP ps), some (.int 12), some (.int 16), none, none] st = .nxt [some (.int n), some (tP ps), some (.int 12), some (.int 16), none, none] st :=
    (x_iffF ((e_orF (e_not a3 rfl) rfl).trans a4) (by rw [decide_eq_false (by omega)]; rfl)).trans s_nil
  obtain ⟨y4, y5, k2⟩ : ∃ y4 y5, exec C WW (nthS 2 f_problem_of.body) [some (.int n), some (tP ps), some (.int 12), some (.int 16), none, none] st = .nxt [some (.int n), some (tP ps), some (.int 12), some (.int 16), y4, y5] st := by
    have z : exec C WW (nthS 2 f_problem_of.body) [some (.int n), some (tP ps), some (.int 12), some (.int 16), none, none] st = _ := x_frr (i_enmT (e_var rfl))
    rw [z]
    obtain ⟨S', st', e, ⟨y4, y5, eS⟩, est⟩ := for_enum (b := fun x S st => (asg C (tgtS (nthS 2 f_problem_of.body)) x S st).out fun S st => execs C WW (bodS (nthS 2 f_problem_of.body)) S st)
      (fun k S' st' => (∃ y4 y5, S' = [some (.int n), some (tP ps), some (.int 12), some (.int 16), y4, y5]) ∧ st' = st) (ps.map pD) (S := [some (.int n), some (tP ps), some (.int 12), some (.int 16), none, none]) (st := st) ⟨⟨none, none, rfl⟩, rfl⟩ fun k x S' st' hk ⟨⟨y4, y5, eS⟩, est⟩ => by
        subst eS est
        obtain ⟨hkl, rfl⟩ := map_get hk
        have hm := List.mem_of_getElem? (getD_get hkl)
        have hv := h.hv _ hm
        have hle := h.hle _ hm
        refine ⟨[some (.int n), some (tP ps), some (.int 12), some (.int 16), some (.int k), some (pD (ps.getD k (0, 0)))], st', ?_, ⟨_, _, rfl⟩, rfl⟩
        have c : ev C [some (.int n), some (tP ps), some (.int 12), some (.int 16), some (.int k), some (pD (ps.getD k (0, 0)))] (.cal 2 "is_passage" (.cons (.var 5) (.cons (.var 0) .nil))) st' = .ok (.bl true) st' := (e_cal (es_cons (e_var rfl) (es_cons (e_var rfl) es_nil))).trans (h2 n _ st' hle hv.2)
        show execs C WW (bodS (nthS 2 f_problem_of.body)) [some (.int n), some (tP ps), some (.int 12), some (.int 16), some (.int k), some (pD (ps.getD k (0, 0)))] st' = _
        exact (s_nxt ((x_iffF (e_not c rfl) rfl).trans s_nil)).trans s_nil
    subst eS est
    exact ⟨y4, y5, e⟩
  have r1 : ev C [some (.int n), some (tP ps), some (.int 12), some (.int 16), y4, y5] (.cal 3 "reached_places" (.cons (.var 1) (.cons (.con (.int 0)) (.cons (.lst .nil) .nil)))) st = .ok (tN (Rc n ps [] 0)) st :=
    (e_cal (es_cons (e_var rfl) (es_cons e_con (es_cons (e_lst es_nil (by simp)) es_nil)))).trans (h3 n 0 ps (lN []) [] st (isW_l []) h.hv (by omega) (by omega))
  have r2 : ev C [some (.int n), some (tP ps), some (.int 12), some (.int 16), y4, y5] (.cmp .Eq (.blt .len (.cons (.cal 3 "reached_places" (.cons (.var 1) (.cons (.con (.int 0)) (.cons (.lst .nil) .nil)))) .nil)) (.var 0)) st = .ok (.bl true) st := by
    have z := e_cmp (op := .Eq) (e_blt (es_cons r1 es_nil) (x_lenT _)) (e_var (i := 0) (d := .int n) rfl) (eq_int _ _)
    rw [Rc_con.mpr h.con, decide_eq_true rfl] at z
    exact z
  refine run_ret (S0 := [some (.int n), some (tP ps), some (.int 12), some (.int 16), none, none]) ((s_nxt k0).trans ((s_nxt k1).trans ((s_nxt k2).trans (s_ret (x_ret ?_))))) rfl
  exact (e_iteT r2 rfl).trans e_con
end
end DI.Law

set_option Elab.async false
set_option linter.all false
set_option maxRecDepth 100000
set_option maxHeartbeats 1000000
/-! a network is made; its properties -/
namespace DI.Law
open PySem L2 DI
section
open Classical
variable {C : Calls} {st : Store}
def netK : List Str := ["many", "joints", "weak", "pieces"]
noncomputable def netC (n : Nat) (ps : Ed) : Cell := .ins 0 netK [.int n, tP ps, tN (weak n ps), .tup ((cellsP n ps).map tN)]
theorem at_last (st : Store) (c : Cell) : (st ++ [c])[st.length]? = some c := by simp
theorem set_last (st : Store) (c d : Cell) : (st ++ [c]).set st.length d = st ++ [d] := by simp
theorem sat_last (st : Store) (c : Nat) (ks : List Str) (vs : List D) (x : Str) (d : D) (h : ks.length < 1000) : satD (st ++ [.ins c ks vs]) (.obj st.length) x d = some (st ++ [.ins c (putA ks vs x d).1 (putA ks vs x d).2]) := by
  unfold satD
  dsimp only
  rw [at_last]
  dsimp only
  rw [if_pos h, set_last]
theorem a_att {S : Env} {o : IE} {x : Str} {d z : D} {st1 st2 : Store} (h : ev C S o st = .ok z st1) (hs : satD st1 z x d = some st2) : asg C (.att o x) d S st = .ok S st2 := by
  rw [asg, h]
  show (match satD st1 z x d with | some st => R.ok S st | none => .no) = _
  rw [hs]
theorem x_sat {W : Nat} {S : Env} {o e : IE} {x : Str} {d z : D} {st1 st2 st3 : Store} (he : ev C S e st = .ok d st1) (h : ev C S o st1 = .ok z st2) (hs : satD st2 z x d = some st3) : exec C W (.sat o x e) S st = .nxt S st3 := by
  rw [exec, he]
  show R.out (ev C S o st1) _ = _
  rw [h]
  show (match satD st2 z x d with | some st => _ | none => _) = _
  rw [hs]
theorem e_att {S : Env} {a : IE} {x : Str} {v d : D} {st1 : Store} (h : ev C S a st = .ok v st1) (hd : attD (see st1 v) x = some d) : ev C S (.att a x) st = .ok d st1 := by
  rw [ev, h]
  show R.of (attD (see st1 v) x) st1 = _
  rw [hd]
  rfl
theorem e_new {S : Env} {c f : Nat} {x : Str} {es : IEs} {l : List D} {st1 st2 : Store} (h : evs C S es st = .ok l st1) (hc : C f (.obj st1.length :: l) (st1 ++ [.ins c [] []]) = .ok .non st2) : ev C S (.new c f x es) st = .ok (.obj st1.length) st2 := by
  rw [ev, h]
  show R.bind (C f (.obj st1.length :: l) (st1 ++ [.ins c [] []])) _ = _
  rw [hc]
  rfl
theorem e_prp {S : Env} {c f : Nat} {x : Str} {a : IE} {v : D} {kv : List Str × List D} {st1 : Store} (h : ev C S a st = .ok v st1) (hi : insAt st1 v c = some kv) : ev C S (.prp c f a x) st = C f [v] st1 := by
  rw [ev, h]
  show (match insAt st1 v c with | some _ => C f [v] st1 | none => .no) = _
  rw [hi]
theorem e_cst {S : Env} {c : Nat} {x y : Str} {d : D} : ev C S (.cst c x y d) st = .ok d st := by rw [ev]
theorem see_last (st : Store) (c : Nat) (ks : List Str) (vs : List D) : see (st ++ [.ins c ks vs]) (.obj st.length) = .ins c ks vs := by
  unfold see
  dsimp only
  rw [at_last]
theorem filter_succ (n : Nat) (P : Nat → Bool) : (List.range (n + 1)).filter P = (List.range n).filter P ++ if P n = true then [n] else [] := by
  rw [List.range_succ, List.filter_append]
  congr 1
  cases h : P n <;> simp [h]
theorem filter_le (n : Nat) (P : Nat → Bool) : ((List.range n).filter P).length ≤ n := by
  have := List.length_filter_le P (List.range n)
  rw [List.length_range] at this
  exact this
def Prob (C : Calls) : Prop := ∀ (n : Nat) (ps : Ed) (st : Store), Net n ps → C 4 [.int n, tP ps, .int 12, .int 16] st = .ok .non st
def New (C : Calls) : Prop := ∀ (n : Nat) (ps : Ed) (st : Store), Net n ps → C 27 [.obj st.length, .int n, tP ps] (st ++ [.ins 0 [] []]) = .ok .non (st ++ [netC n ps])
theorem r_init (h3 : Reach C) (h4 : Prob C) {n : Nat} {ps : Ed} (h : Net n ps) : runF C WW f_Network___init__ [.obj st.length, .int n, tP ps] (st ++ [.ins 0 [] []]) = .ok .non (st ++ [netC n ps]) := by
  have n0 := h.n0
  have n1 := h.n1
  have m1 := h.m1
  let S0 : Env := [some (.obj st.length), some (.int n), some (tP ps), none, none, none, none, none, none]
  have k0 : exec C WW (nthS 0 f_Network___init__.body) [some (.obj st.length), some (.int n), some (tP ps), none, none, none, none, none, none] (st ++ [.ins 0 [] []]) = .nxt [some (.obj st.length), some (.int n), some (tP ps), some .non, none, none, none, none, none] (st ++ [.ins 0 [] []]) :=
    x_set ((e_cal (es_cons (e_var rfl) (es_cons (e_var rfl) (es_cons e_cst (es_cons e_cst es_nil))))).trans (h4 n ps _ h))
  have k1 : exec C WW (nthS 1 f_Network___init__.body) [some (.obj st.length), some (.int n), some (tP ps), some .non, none, none, none, none, none] (st ++ [.ins 0 [] []]) = .nxt [some (.obj st.length), some (.int n), some (tP ps), some .non, none, none, none, none, none] (st ++ [.ins 0 [] []]) :=
    (x_iffF (e_cmp (e_var rfl) e_con rfl) rfl).trans s_nil
  have k2 : exec C WW (nthS 2 f_Network___init__.body) [some (.obj st.length), some (.int n), some (tP ps), some .non, none, none, none, none, none] (st ++ [.ins 0 [] []]) = .nxt [some (.obj st.length), some (.int n), some (tP ps), some .non, none, none, none, none, none] (st ++ [.ins 0 ["many", "joints"] [.int n, tP ps]]) :=
    x_unt (es_cons (e_var rfl) (es_cons (e_var rfl) es_nil)) (as_cons (a_att (e_var rfl) (sat_last st 0 [] [] "many" (.int n) (by decide))) (as_cons (a_att (e_var rfl) (sat_last st 0 ["many"] [.int n] "joints" (tP ps) (by decide))) as_nil))
  have k3 : exec C WW (nthS 3 f_Network___init__.body) [some (.obj st.length), some (.int n), some (tP ps), some .non, none, none, none, none, none] (st ++ [.ins 0 ["many", "joints"] [.int n, tP ps]]) = .nxt [some (.obj st.length), some (.int n), some (tP ps), some .non, none, none, some (lN []), some (.lst []), none] (st ++ [.ins 0 ["many", "joints"] [.int n, tP ps]]) :=
    x_par (es_cons (e_lst es_nil (by simp)) (es_cons (e_lst es_nil (by simp)) es_nil)) rfl
  obtain ⟨S4, s4, k4, ⟨y4, rfl⟩, rfl⟩ : ∃ S' st', exec C WW (nthS 4 f_Network___init__.body) [some (.obj st.length), some (.int n), some (tP ps), some .non, none, none, some (lN []), some (.lst []), none] (st ++ [.ins 0 ["many", "joints"] [.int n, tP ps]]) = .nxt S' st' ∧
      (∃ y4, S' = [some (.obj st.length), some (.int n), some (tP ps), some .non, y4, none, some (lN (weak n ps)), some (.lst []), none]) ∧ st' = st ++ [.ins 0 ["many", "joints"] [.int n, tP ps]] := by
    have z : exec C WW (nthS 4 f_Network___init__.body) [some (.obj st.length), some (.int n), some (tP ps), some .non, none, none, some (lN []), some (.lst []), none] (st ++ [.ins 0 ["many", "joints"] [.int n, tP ps]]) = _ := x_frr (i_range (e_blt (es_cons (e_var rfl) es_nil) (x_lenP ps)) (by omega))
    rw [z]
    refine for_range (fun k S' st' => (∃ y4, S' = [some (.obj st.length), some (.int n), some (tP ps), some .non, y4, none, some (lN ((List.range k).filter fun i => decide (¬ Con n ps [i]))), some (.lst []), none]) ∧ st' = st ++ [.ins 0 ["many", "joints"] [.int n, tP ps]]) ps.length ⟨⟨none, rfl⟩, rfl⟩ fun k S' st' hk ⟨⟨y4, eS⟩, est⟩ => ?_
    subst eS est
    generalize st ++ [.ins 0 ["many", "joints"] [.int n, tP ps]] = s
    refine ⟨[some (.obj st.length), some (.int n), some (tP ps), some .non, some (.int k), none, some (lN ((List.range (k + 1)).filter fun i => decide (¬ Con n ps [i]))), some (.lst []), none], s, ?_, ⟨_, rfl⟩, rfl⟩
    rw [a_nam]
    have hfl := filter_le k fun i => decide (¬ Con n ps [i])
    have r1 : ev C [some (.obj st.length), some (.int n), some (tP ps), some .non, some (.int k), none, some (lN ((List.range k).filter fun i => decide (¬ Con n ps [i]))), some (.lst []), none] (.cal 3 "reached_places" (.cons (.var 2) (.cons (.con (.int 0)) (.cons (.lst (.cons (.var 4) .nil)) .nil)))) s = .ok (tN (Rc n ps [k] 0)) s :=
      (e_cal (es_cons (e_var rfl) (es_cons e_con (es_cons (e_lst (es_cons (e_var rfl) es_nil) (by simp)) es_nil)))).trans (h3 n 0 ps (lN [k]) [k] s (isW_l [k]) h.hv (by omega) (by omega))
    have r2 : ev C [some (.obj st.length), some (.int n), some (tP ps), some .non, some (.int k), none, some (lN ((List.range k).filter fun i => decide (¬ Con n ps [i]))), some (.lst []), none] (retE (nthS 0 (bodS (nthS 4 f_Network___init__.body)))) s = .ok (.bl (decide (((Rc n ps [k] 0).length : Int) < n))) s :=
      e_cmp (e_blt (es_cons r1 es_nil) (x_lenT _)) (e_var rfl) rfl
    have hle := Rc_le (n := n) (ps := ps) (w := [k]) (a := 0)
    have hiff := Rc_con (n := n) (ps := ps) (w := [k])
    rw [filter_succ]
    by_cases hc : Con n ps [k]
    · rw [decide_eq_false (by have := hiff.mpr hc; omega)] at r2
      rw [if_neg (by simp [hc]), List.append_nil]
      exact (s_nxt ((x_iffF r2 rfl).trans s_nil)).trans s_nil
    · have hne : (Rc n ps [k] 0).length ≠ n := fun e => hc (hiff.mp e)
      rw [decide_eq_true (by omega)] at r2
      rw [if_pos (by simp [hc])]
      generalize (List.range k).filter (fun i => decide (¬ Con n ps [i])) = fl at *
      have k1 := x_app (C := C) (st := s) (W := WW) (i := 6) (l := (fl.map fun (x : Nat) => (x : Int)).map D.int) (S := [some (.obj st.length), some (.int n), some (tP ps), some .non, some (.int k), none, some (lN fl), some (.lst []), none]) rfl (e_var (i := 4) (d := .int k) rfl) (by simp; omega)
      rw [app_nat] at k1
      exact (s_nxt ((x_iffT r2 rfl).trans ((s_nxt k1).trans s_nil))).trans s_nil
  have k5 : exec C WW (nthS 5 f_Network___init__.body) [some (.obj st.length), some (.int n), some (tP ps), some .non, y4, none, some (lN (weak n ps)), some (.lst []), none] (st ++ [.ins 0 ["many", "joints"] [.int n, tP ps]]) = .nxt [some (.obj st.length), some (.int n), some (tP ps), some .non, y4, none, some (lN (weak n ps)), some (.lst []), none] (st ++ [.ins 0 ["many", "joints", "weak"] [.int n, tP ps, tN (weak n ps)]]) :=
    x_sat (e_blt (es_cons (e_var rfl) es_nil) rfl) (e_var rfl) (sat_last st 0 ["many", "joints"] [.int n, tP ps] "weak" (tN (weak n ps)) (by decide))
  obtain ⟨S6, s6, k6, ⟨y5, y8, rfl⟩, rfl⟩ : ∃ S' st', exec C WW (nthS 6 f_Network___init__.body) [some (.obj st.length), some (.int n), some (tP ps), some .non, y4, none, some (lN (weak n ps)), some (.lst []), none] (st ++ [.ins 0 ["many", "joints", "weak"] [.int n, tP ps, tN (weak n ps)]]) = .nxt S' st' ∧
      (∃ y5 y8, S' = [some (.obj st.length), some (.int n), some (tP ps), some .non, y4, y5, some (lN (weak n ps)), some (.lst ((cellsP n ps).map tN)), y8]) ∧ st' = st ++ [.ins 0 ["many", "joints", "weak"] [.int n, tP ps, tN (weak n ps)]] := by
    have z : exec C WW (nthS 6 f_Network___init__.body) [some (.obj st.length), some (.int n), some (tP ps), some .non, y4, none, some (lN (weak n ps)), some (.lst []), none] (st ++ [.ins 0 ["many", "joints", "weak"] [.int n, tP ps, tN (weak n ps)]]) = _ := x_frr (i_range (e_var rfl) (by omega))
    rw [z]
    refine for_range (fun k S' st' => (∃ y5 y8, S' = [some (.obj st.length), some (.int n), some (tP ps), some .non, y4, y5, some (lN (weak n ps)), some (.lst ((((List.range k).filter fun a => decide (Root (adj ps (weak n ps)) a)).map (Rc n ps (weak n ps))).map tN)), y8]) ∧ st' = st ++ [.ins 0 ["many", "joints", "weak"] [.int n, tP ps, tN (weak n ps)]]) n ⟨⟨none, none, rfl⟩, rfl⟩ fun k S' st' hk ⟨⟨y5, y8, eS⟩, est⟩ => ?_
    subst eS est
    have hsee := see_last st 0 ["many", "joints", "weak"] [.int n, tP ps, tN (weak n ps)]
    generalize st ++ [.ins 0 ["many", "joints", "weak"] [.int n, tP ps, tN (weak n ps)]] = s at *
    refine ⟨[some (.obj st.length), some (.int n), some (tP ps), some .non, y4, some (.int k), some (lN (weak n ps)), some (.lst ((((List.range (k + 1)).filter fun a => decide (Root (adj ps (weak n ps)) a)).map (Rc n ps (weak n ps))).map tN)), some (tN (Rc n ps (weak n ps) k))], s, ?_, ⟨_, _, rfl⟩, rfl⟩
    rw [a_nam]
    have hfl := filter_le k fun a => decide (Root (adj ps (weak n ps)) a)
    have q0 : ∀ cs : List (List Nat), ev C [some (.obj st.length), some (.int n), some (tP ps), some .non, y4, some (.int k), some (lN (weak n ps)), some (.lst (cs.map tN)), y8] (.cal 3 "reached_places" (.cons (.var 2) (.cons (.var 5) (.cons (.att (.var 0) "weak") .nil)))) s = .ok (tN (Rc n ps (weak n ps) k)) s := fun cs =>
      (e_cal (es_cons (e_var rfl) (es_cons (e_var rfl) (es_cons (e_att (d := tN (weak n ps)) (e_var rfl) (by rw [hsee]; rfl)) es_nil)))).trans (h3 n k ps (tN (weak n ps)) (weak n ps) s (isW_t _) h.hv hk (by omega))
    have q1 : ∀ cs : List (List Nat), exec C WW (nthS 0 (bodS (nthS 6 f_Network___init__.body))) [some (.obj st.length), some (.int n), some (tP ps), some .non, y4, some (.int k), some (lN (weak n ps)), some (.lst (cs.map tN)), y8] s = .nxt [some (.obj st.length), some (.int n), some (tP ps), some .non, y4, some (.int k), some (lN (weak n ps)), some (.lst (cs.map tN)), some (tN (Rc n ps (weak n ps) k))] s := fun cs => x_set (q0 cs)
    obtain ⟨hd, r, e, hle, hroot, _⟩ := Rc_head (ps := ps) (w := weak n ps) hk
    have hidx : idxD (tN (Rc n ps (weak n ps) k)) (.int 0) = some (.int hd) := by rw [e]; exact x_idx (p := hd :: r) (x := 0) (by simp)
    have q2 : ∀ cs : List (List Nat), ev C [some (.obj st.length), some (.int n), some (tP ps), some .non, y4, some (.int k), some (lN (weak n ps)), some (.lst (cs.map tN)), some (tN (Rc n ps (weak n ps) k))] (retE (nthS 1 (bodS (nthS 6 f_Network___init__.body)))) s = .ok (.bl (decide ((hd : Int) = k))) s := fun cs =>
      e_cmp (e_idx (e_var rfl) e_con hidx) (e_var rfl) (eq_int _ _)
    rw [filter_succ]
    generalize hq : (List.range k).filter (fun a => decide (Root (adj ps (weak n ps)) a)) = fl at *
    by_cases hr : Root (adj ps (weak n ps)) k
    · have := hroot.mpr hr
      rw [if_pos (by simp [hr])]
      have q3 := q2 (fl.map (Rc n ps (weak n ps)))
      rw [decide_eq_true (by omega)] at q3
      have k1 := x_app (C := C) (st := s) (W := WW) (i := 7) (l := (fl.map (Rc n ps (weak n ps))).map tN) (S := [some (.obj st.length), some (.int n), some (tP ps), some .non, y4, some (.int k), some (lN (weak n ps)), some (.lst ((fl.map (Rc n ps (weak n ps))).map tN)), some (tN (Rc n ps (weak n ps) k))]) rfl (e_var (i := 8) (d := tN (Rc n ps (weak n ps) k)) rfl) (by simp; omega)
      rw [List.map_append, List.map_append]
      exact (s_nxt (q1 _)).trans ((s_nxt ((x_iffT q3 rfl).trans ((s_nxt k1).trans s_nil))).trans s_nil)
    · have : hd ≠ k := fun e => hr (hroot.mp e)
      rw [if_neg (by simp [hr]), List.append_nil]
      have q3 := q2 (fl.map (Rc n ps (weak n ps)))
      rw [decide_eq_false (by omega)] at q3
      exact (s_nxt (q1 _)).trans ((s_nxt ((x_iffF q3 rfl).trans s_nil)).trans s_nil)
  have k7 : exec C WW (nthS 7 f_Network___init__.body) [some (.obj st.length), some (.int n), some (tP ps), some .non, y4, y5, some (lN (weak n ps)), some (.lst ((cellsP n ps).map tN)), y8] (st ++ [.ins 0 ["many", "joints", "weak"] [.int n, tP ps, tN (weak n ps)]]) = .nxt [some (.obj st.length), some (.int n), some (tP ps), some .non, y4, y5, some (lN (weak n ps)), some (.lst ((cellsP n ps).map tN)), y8] (st ++ [netC n ps]) :=
    x_sat (e_blt (es_cons (e_var rfl) es_nil) rfl) (e_var rfl) (sat_last st 0 ["many", "joints", "weak"] [.int n, tP ps, tN (weak n ps)] "pieces" (.tup ((cellsP n ps).map tN)) (by decide))
  exact run_nxt (S0 := [some (.obj st.length), some (.int n), some (tP ps), none, none, none, none, none, none]) ((s_nxt k0).trans ((s_nxt k1).trans ((s_nxt k2).trans ((s_nxt k3).trans ((s_nxt k4).trans ((s_nxt k5).trans ((s_nxt k6).trans ((s_nxt k7).trans s_nil)))))))) rfl
/-- a network at a place of the store -/
def NetAt (st : Store) (i : Nat) (n : Nat) (ps : Ed) : Prop := st[i]? = some (netC n ps)
theorem NetAt.app {st : Store} {i n : Nat} {ps : Ed} (h : NetAt st i n ps) (ext : Store) : NetAt (st ++ ext) i n ps := by
  unfold NetAt at h ⊢
  rw [List.getElem?_append_left (List.getElem?_eq_some_iff.mp h).1]
  exact h
theorem NetAt.see {st : Store} {i n : Nat} {ps : Ed} (h : NetAt st i n ps) : see st (.obj i) = .ins 0 netK [.int n, tP ps, tN (weak n ps), .tup ((cellsP n ps).map tN)] := by
  have e : DI.see st (.obj i) = (match st[i]? with
    | some (.lst l) => .lst l
    | some (.dic t ks vs) => .dic t ks vs
    | some (.ins c ks vs) => .ins c ks vs
    | _ => .obj i) := rfl
  rw [e, h]
  rfl
theorem NetAt.ins {st : Store} {i n : Nat} {ps : Ed} (h : NetAt st i n ps) : ∃ kv, insAt st (.obj i) 0 = some kv := by
  have e : insAt st (.obj i) 0 = (match st[i]? with
    | some (.ins c' ks vs) => if c' = 0 then some (ks, vs) else none
    | _ => none) := rfl
  rw [e, h]
  exact ⟨_, if_pos rfl⟩
theorem r_places {i n : Nat} {ps : Ed} (h : NetAt st i n ps) : runF C WW f_Network_places [.obj i] st = .ok (.int n) st :=
  run_ret (S0 := [some (.obj i)]) (s_ret (x_ret (e_att (e_var rfl) (by rw [h.see]; rfl)))) rfl
theorem r_passages {i n : Nat} {ps : Ed} (h : NetAt st i n ps) : runF C WW f_Network_passages [.obj i] st = .ok (tP ps) st :=
  run_ret (S0 := [some (.obj i)]) (s_ret (x_ret (e_att (e_var rfl) (by rw [h.see]; rfl)))) rfl
theorem r_len {i n : Nat} {ps : Ed} (h : NetAt st i n ps) : runF C WW f_Network___len__ [.obj i] st = .ok (.int ps.length) st :=
  run_ret (S0 := [some (.obj i)]) (s_ret (x_ret (e_blt (es_cons (e_att (d := tP ps) (e_var rfl) (by rw [h.see]; rfl)) es_nil) (x_lenP ps)))) rfl
structure Props (C : Calls) : Prop where
  new : New C
  len : ∀ (i n : Nat) (ps : Ed) (st : Store), NetAt st i n ps → C 38 [.obj i] st = .ok (.int ps.length) st
  pla : ∀ (i n : Nat) (ps : Ed) (st : Store), NetAt st i n ps → C 40 [.obj i] st = .ok (.int n) st
  pas : ∀ (i n : Nat) (ps : Ed) (st : Store), NetAt st i n ps → C 41 [.obj i] st = .ok (tP ps) st
theorem Props.make (P : Props C) {S : Env} {a b : IE} {n : Nat} {ps : Ed} {st1 st2 : Store} (ha : ev C S a st = .ok (.int n) st1) (hb : ev C S b st1 = .ok (tP ps) st2) (h : Net n ps) : ev C S (.new 0 27 "Network" (.cons a (.cons b .nil))) st = .ok (.obj st2.length) (st2 ++ [netC n ps]) ∧ NetAt (st2 ++ [netC n ps]) st2.length n ps :=
  ⟨e_new (es_cons ha (es_cons hb es_nil)) (P.new n ps st2 h), at_last _ _⟩
theorem Props.epl (P : Props C) {S : Env} {a : IE} {i n : Nat} {ps : Ed} (h : NetAt st i n ps) (ha : ev C S a st = .ok (.obj i) st) : ev C S (.prp 0 40 a "places") st = .ok (.int n) st := by
  obtain ⟨kv, e⟩ := h.ins
  exact (e_prp ha e).trans (P.pla i n ps st h)
theorem Props.epa (P : Props C) {S : Env} {a : IE} {i n : Nat} {ps : Ed} (h : NetAt st i n ps) (ha : ev C S a st = .ok (.obj i) st) : ev C S (.prp 0 41 a "passages") st = .ok (tP ps) st := by
  obtain ⟨kv, e⟩ := h.ins
  exact (e_prp ha e).trans (P.pas i n ps st h)
end
end DI.Law

set_option Elab.async false
set_option linter.all false
set_option maxRecDepth 100000
set_option maxHeartbeats 1000000
/-! places found by a stack: plain facts -/
namespace DI.Law
def doorsP (ps : Ed) (x : Nat) : List Nat := (List.range ps.length).filter fun i => decide (x = (ps.getD i (0, 0)).1 ∨ x = (ps.getD i (0, 0)).2)
def farP (ps : Ed) (x k : Nat) : Nat := (ps.getD k (0, 0)).1 + (ps.getD k (0, 0)).2 - x
def dfs1 (ps : Ed) (i x : Nat) (s : List Nat × List Nat) (k : Nat) : List Nat × List Nat := if k ≠ i ∧ farP ps x k ∉ s.1 then (s.1 ++ [farP ps x k], s.2 ++ [farP ps x k]) else s
def dfsN (ps : Ed) (i x : Nat) (s : List Nat × List Nat) (k : Nat) : List Nat × List Nat := ((doorsP ps x).take k).foldl (dfs1 ps i x) s
def dfsW (ps : Ed) (i : Nat) : Nat → List Nat → List Nat → List Nat
  | 0, f, _ => f
  | m + 1, f, fr => match fr with
    | [] => f
    | y :: r => let x := (y :: r).getLast (by simp)
      let s := dfsN ps i x (f, (y :: r).dropLast) (doorsP ps x).length
      dfsW ps i m s.1 s.2
theorem mem_doors {ps : Ed} {x k : Nat} : k ∈ doorsP ps x ↔ k < ps.length ∧ (x = (ps.getD k (0, 0)).1 ∨ x = (ps.getD k (0, 0)).2) := by
  unfold doorsP
  rw [List.mem_filter, List.mem_range, decide_eq_true_iff]
theorem dfsN_succ {ps : Ed} {i x : Nat} {s : List Nat × List Nat} {k d : Nat} (h : (doorsP ps x)[k]? = some d) : dfsN ps i x s (k + 1) = dfs1 ps i x (dfsN ps i x s k) d := by
  unfold dfsN
  rw [List.take_add_one, h, List.foldl_append]
  rfl
theorem far_adj {ps : Ed} {i x k : Nat} (h : k ∈ doorsP ps x) (hi : k ≠ i) : adj ps [i] x (farP ps x k) := by
  obtain ⟨hk, h⟩ := mem_doors.mp h
  have g := getD_get hk
  refine ⟨k, by simp [hi], ?_⟩
  unfold farP
  generalize ps.getD k (0, 0) = p at g h
  obtain ⟨u, v⟩ := p
  dsimp only at h ⊢
  rcases h with rfl | rfl
  · left; rw [g]; congr 2; omega
  · right; rw [g]; congr 2; omega
structure Turn (ps : Ed) (i a x : Nat) (f fr0 : List Nat) (k : Nat) (s : List Nat × List Nat) : Prop where
  inv : Inv ps [i] a s.1
  sub : ∀ y ∈ s.2, y ∈ s.1
  old : ∀ y ∈ f, y ∈ s.1
  nw : ∀ y ∈ s.1, y ∈ f ∨ y ∈ s.2
  fr : ∀ y ∈ fr0, y ∈ s.2
  len : s.1.length + fr0.length = f.length + s.2.length
  don : ∀ j d, j < k → (doorsP ps x)[j]? = some d → d ≠ i → farP ps x d ∈ s.1
theorem turn_all {ps : Ed} {i a x : Nat} {f fr0 : List Nat} (hi : Inv ps [i] a f) (hx : x ∈ f) (hs : ∀ y ∈ fr0, y ∈ f) : ∀ k, k ≤ (doorsP ps x).length → Turn ps i a x f fr0 k (dfsN ps i x (f, fr0) k)
  | 0, _ => ⟨hi, hs, fun y h => h, fun y h => .inl h, fun y h => h, rfl, fun j d h => absurd h (by omega)⟩
  | k + 1, hk => by
    have ih := turn_all hi hx hs k (by omega)
    have hd : (doorsP ps x)[k]? = some (doorsP ps x)[k] := List.getElem?_eq_getElem hk
    have hm := List.mem_of_getElem? hd
    rw [dfsN_succ hd]
    generalize (doorsP ps x)[k] = d at hd hm
    generalize dfsN ps i x (f, fr0) k = s at ih
    unfold dfs1
    by_cases hc : d ≠ i ∧ farP ps x d ∉ s.1
    · rw [if_pos hc]
      refine ⟨ih.inv.push (ih.old x hx) (far_adj hm hc.1) hc.2, fun y hy => ?_, fun y hy => List.mem_append_left _ (ih.old y hy), fun y hy => ?_, fun y hy => List.mem_append_left _ (ih.fr y hy), ?_, fun j e hj he hei => ?_⟩
      · rcases List.mem_append.mp hy with hy | hy
        · exact List.mem_append_left _ (ih.sub y hy)
        · exact List.mem_append_right _ hy
      · rcases List.mem_append.mp hy with hy | hy
        · exact (ih.nw y hy).imp id (List.mem_append_left _)
        · exact .inr (List.mem_append_right _ hy)
      · have := ih.len
        simp
        omega
      · by_cases hjk : j = k
        · subst hjk
          rw [hd] at he
          cases he
          exact List.mem_append_right _ (List.mem_singleton_self _)
        · exact List.mem_append_left _ (ih.don j e (by omega) he hei)
    · rw [if_neg hc]
      refine ⟨ih.inv, ih.sub, ih.old, ih.nw, ih.fr, ih.len, fun j e hj he hei => ?_⟩
      by_cases hjk : j = k
      · subst hjk
        rw [hd] at he
        cases he
        exact Classical.byContradiction fun g => hc ⟨hei, g⟩
      · exact ih.don j e (by omega) he hei
structure Stk (ps : Ed) (i a : Nat) (f fr : List Nat) : Prop where
  inv : Inv ps [i] a f
  sub : ∀ y ∈ fr, y ∈ f
  don : ∀ x ∈ f, x ∈ fr ∨ ∀ y, adj ps [i] x y → y ∈ f
theorem stk_next {ps : Ed} {i a x : Nat} {f fr0 : List Nat} (h : Stk ps i a f (fr0 ++ [x])) : Stk ps i a (dfsN ps i x (f, fr0) (doorsP ps x).length).1 (dfsN ps i x (f, fr0) (doorsP ps x).length).2 ∧ (dfsN ps i x (f, fr0) (doorsP ps x).length).1.length + fr0.length = f.length + (dfsN ps i x (f, fr0) (doorsP ps x).length).2.length := by
  have hx : x ∈ f := h.sub x (by simp)
  have t := turn_all h.inv hx (fun y hy => h.sub y (List.mem_append_left _ hy)) _ (Nat.le_refl _)
  generalize dfsN ps i x (f, fr0) (doorsP ps x).length = s at t
  refine ⟨⟨t.inv, t.sub, fun z hz => ?_⟩, t.len⟩
  rcases t.nw z hz with hz | hz
  · rcases h.don z hz with hz | hz
    · rcases List.mem_append.mp hz with hz | hz
      · exact .inl (t.fr z hz)
      · rw [List.mem_singleton.mp hz]
        refine .inr fun y ⟨k, hk, e⟩ => ?_
        have hl : k < ps.length := by rcases e with e | e <;> exact (List.getElem?_eq_some_iff.mp e).1
        have g := getD_get hl
        have hm : k ∈ doorsP ps x := mem_doors.mpr ⟨hl, by
          rw [g] at e
          rcases e with e | e <;> injection e with e <;> rw [e] <;> simp⟩
        obtain ⟨j, hj⟩ := List.getElem?_of_mem hm
        have z := t.don j k (List.getElem?_eq_some_iff.mp hj).1 hj (by simpa using hk)
        have e2 : farP ps x k = y := by
          rw [g] at e
          unfold farP
          rcases e with e | e <;> injection e with e <;> rw [e] <;> dsimp only <;> omega
        rw [e2] at z
        exact z
    · exact .inr fun y e => t.old y (hz y e)
  · exact .inl hz
theorem last_split {A : Type} (y : A) (r : List A) : (y :: r).dropLast ++ [(y :: r).getLast (by simp)] = y :: r := List.dropLast_concat_getLast _
theorem dfs_done {n : Nat} {ps : Ed} {i a : Nat} (hv : Valid n ps) (ha : a < n) : ∀ (m : Nat) (f fr : List Nat), Stk ps i a f fr → n + fr.length < f.length + m → Inv ps [i] a (dfsW ps i m f fr) ∧ Closed ps [i] (dfsW ps i m f fr)
  | 0, f, fr, h, hm => by
    have := h.inv.len hv ha
    omega
  | m + 1, f, [], h, hm => ⟨h.inv, fun k p hk hp => by
    have e : dfsW ps i (m + 1) f [] = f := rfl
    rw [e]
    constructor
    · intro h1
      rcases h.don _ h1 with z | z
      · cases z
      · exact z _ ⟨k, hk, .inl hp⟩
    · intro h1
      rcases h.don _ h1 with z | z
      · cases z
      · exact z _ ⟨k, hk, .inr hp⟩⟩
  | m + 1, f, y :: r, h, hm => by
    have h2 := h
    rw [← last_split y r] at h2
    obtain ⟨s1, s2⟩ := stk_next h2
    have e : dfsW ps i (m + 1) f (y :: r) = dfsW ps i m (dfsN ps i ((y :: r).getLast (by simp)) (f, (y :: r).dropLast) (doorsP ps ((y :: r).getLast (by simp))).length).1 (dfsN ps i ((y :: r).getLast (by simp)) (f, (y :: r).dropLast) (doorsP ps ((y :: r).getLast (by simp))).length).2 := rfl
    rw [e]
    have hl : (y :: r).dropLast.length = r.length := by simp
    rw [hl] at s2
    rw [List.length_cons] at hm
    exact dfs_done hv ha m _ _ s1 (by omega)
def foundP (ps : Ed) (i a : Nat) : List Nat := dfsW ps i 1000 [a] [a]
theorem foundP_perm {n : Nat} {ps : Ed} {i a : Nat} (hv : Valid n ps) (ha : a < n) (hn : n ≤ 900) : (foundP ps i a).Perm (Rc n ps [i] a) := by
  obtain ⟨h1, h2⟩ := dfs_done (i := i) hv ha 1000 [a] [a] ⟨inv_one ps [i] a, fun y h => h, fun x h => .inl h⟩ (by simp; omega)
  exact found_perm hv ha h1 h2
end DI.Law

set_option Elab.async false
set_option linter.all false
set_option maxRecDepth 100000
set_option maxHeartbeats 1000000
/-! the law's own search -/
namespace DI.Law
open PySem L2 DI
section
variable {C : Calls} {st : Store}
theorem t_ifp {t : IT} {own : List Nat} {S S2 : Env} {x y d : D} {e c : IE} {q : Bool} (ha : asg C t x (wipeE S own) st = .ok S2 st) (hq : ev C S2 c st = .ok y st) (hz : truD (see st y) = some q) (h : q = true → ev C S2 e st = .ok d st) :
    trn C S own e t (.cons c .nil) x st = .ok (if q = true then some d else none) st := by
  rw [t_if ha hq hz h]
  cases q <;> rfl
/-- a comprehension by the number of its turn, with a test -/
theorem comp_idx {f : D → Store → R (Option D)} {g : Nat → Option D} : ∀ (l : List D) (k0 : Nat), (∀ k x, l[k]? = some x → f x st = .ok (g (k0 + k)) st) → compR f l st = .ok ((List.range' k0 l.length).filterMap g) st
  | [], _, _ => rfl
  | x :: l, k0, h => by
    have h0 := h 0 x rfl
    rw [compR, h0]
    show R.bind (compR f l st) _ = _
    rw [comp_idx l (k0 + 1) fun k y hk => by
      have := h (k + 1) y hk
      rw [show k0 + 1 + k = k0 + (k + 1) by omega]
      exact this]
    rw [List.length_cons, List.range'_succ, List.filterMap_cons, Nat.add_zero]
    cases g k0 <;> rfl
theorem comp_enum {f : D → Store → R (Option D)} {l : List D} {q : Nat → Bool} {d : Nat → D} (h : ∀ (k : Nat) (x : D), l[k]? = some x → f (.tup [.int k, x]) st = .ok (if q k = true then some (d k) else none) st) : compR f (enumD l) st = .ok (((List.range l.length).filter q).map d) st := by
  have z := comp_idx (f := f) (st := st) (g := fun k => if q k = true then some (d k) else none) (enumD l) 0 fun k x hk => by
    obtain ⟨y, hy, rfl⟩ := enumD_get hk
    rw [Nat.zero_add]
    exact h k y hy
  rw [z, enumD_len, ← List.range_eq_range', filterMap_if]
theorem comp_range {f : D → Store → R (Option D)} {n : Nat} {q : Nat → Bool} {d : Nat → D} (h : ∀ k, k < n → f (.int k) st = .ok (if q k = true then some (d k) else none) st) : compR f ((List.range n).map fun (x : Nat) => D.int x) st = .ok (((List.range n).filter q).map d) st := by
  have z := comp_idx (f := f) (st := st) (g := fun k => if q k = true then some (d k) else none) ((List.range n).map fun (x : Nat) => D.int x) 0 fun k x hk => by
    rw [List.getElem?_map] at hk
    by_cases hkn : k < n
    · rw [List.getElem?_range hkn] at hk
      cases hk
      rw [Nat.zero_add]
      exact h k hkn
    · rw [List.getElem?_eq_none (by rw [List.length_range]; omega)] at hk
      cases hk
  rw [z, List.length_map, List.length_range, ← List.range_eq_range', filterMap_if]
theorem comp_rangeA {f : D → Store → R (Option D)} {n : Nat} {d : Nat → D} (h : ∀ k, k < n → f (.int k) st = .ok (some (d k)) st) : compR f ((List.range n).map fun (x : Nat) => D.int x) st = .ok ((List.range n).map d) st := by
  have z := comp_range (f := f) (st := st) (n := n) (q := fun _ => true) (d := d) fun k hk => by rw [h k hk, if_pos rfl]
  rw [z, List.filter_eq_self.mpr fun _ _ => rfl]
theorem lN_eq (l : List Nat) : D.lst (l.map fun (x : Nat) => D.int x) = lN l := by
  unfold lN lI
  rw [List.map_map]
  rfl
def Doors (C : Calls) : Prop := ∀ (ps : Ed) (x : Nat) (st : Store), ps.length ≤ 900 → C 18 [tP ps, .int x] st = .ok (lN (doorsP ps x)) st
theorem r_doors {ps : Ed} {x : Nat} (hl : ps.length ≤ 900) : runF C WW f__law_doors [tP ps, .int x] st = .ok (lN (doorsP ps x)) st := by
  have hc : compR (trn C [some (tP ps), some (.int x), none, none] [2, 3] (.var 2) (.tup (.cons (.nam 2) (.cons (.nam 3) .nil))) (.cons (.cmp .In (.var 1) (.var 3)) .nil)) (enumD (ps.map pD)) st = .ok ((doorsP ps x).map fun (x : Nat) => D.int x) st := by
    have z := comp_enum (st := st) (f := trn C [some (tP ps), some (.int x), none, none] [2, 3] (.var 2) (.tup (.cons (.nam 2) (.cons (.nam 3) .nil))) (.cons (.cmp .In (.var 1) (.var 3)) .nil)) (l := ps.map pD) (q := fun i => decide (x = (ps.getD i (0, 0)).1 ∨ x = (ps.getD i (0, 0)).2)) (d := fun (x : Nat) => D.int x) fun k y hk => by
      obtain ⟨hkl, rfl⟩ := map_get hk
      refine t_ifp (S2 := [some (tP ps), some (.int x), some (.int k), some (pD (ps.getD k (0, 0)))]) (y := .bl (decide (x = (ps.getD k (0, 0)).1 ∨ x = (ps.getD k (0, 0)).2))) rfl (e_cmp (e_var rfl) (e_var rfl) ?_) rfl fun _ => e_var rfl
      have e := in_t x [(ps.getD k (0, 0)).1, (ps.getD k (0, 0)).2]
      refine Eq.trans e ?_
      simp
    rw [z, List.length_map]
    rfl
  have hdl : (doorsP ps x).length ≤ 900 := by
    have := filter_le ps.length fun i => decide (x = (ps.getD i (0, 0)).1 ∨ x = (ps.getD i (0, 0)).2)
    unfold doorsP
    omega
  refine run_ret (S0 := [some (tP ps), some (.int x), none, none]) (s_ret (x_ret ?_)) rfl
  rw [← lN_eq]
  exact e_lcp (i_enmT (e_var rfl)) hc (by simp; omega)
end
end DI.Law

set_option linter.all false
/-! words whose equal neighbours go away -/
namespace FR
variable {A : Type} [DecidableEq A]
/-- no two equal neighbours -/
def Nb : List A → Prop
  | x :: y :: r => x ≠ y ∧ Nb (y :: r)
  | _ => True
inductive Rd : List A → List A → Prop
  | refl {l} : Rd l l
  | step {a b m} (x : A) : Rd (a ++ b) m → Rd (a ++ x :: x :: b) m
theorem Rd.trans {l m n : List A} (h : Rd l m) (k : Rd m n) : Rd l n := by
  induction h with
  | refl => exact k
  | step x _ ih => exact .step x (ih k)
theorem Rd.app {l m : List A} (p q : List A) (h : Rd l m) : Rd (p ++ l ++ q) (p ++ m ++ q) := by
  induction h with
  | refl => exact .refl
  | @step a b m x _ ih =>
    have e1 : p ++ (a ++ x :: x :: b) ++ q = (p ++ a) ++ x :: x :: (b ++ q) := by simp
    have e2 : p ++ (a ++ b) ++ q = (p ++ a) ++ (b ++ q) := by simp
    rw [e1]
    rw [e2] at ih
    exact .step x ih
theorem Rd.rev {l m : List A} (h : Rd l m) : Rd l.reverse m.reverse := by
  induction h with
  | refl => exact .refl
  | @step a b m x _ ih =>
    have e1 : (a ++ x :: x :: b).reverse = b.reverse ++ x :: x :: a.reverse := by simp
    have e2 : (a ++ b).reverse = b.reverse ++ a.reverse := by simp
    rw [e1]
    rw [e2] at ih
    exact .step x ih
theorem Rd.even {l m : List A} (h : Rd l m) : ∃ k, l.length = m.length + 2 * k := by
  induction h with
  | refl => exact ⟨0, rfl⟩
  | step x _ ih =>
    obtain ⟨k, e⟩ := ih
    refine ⟨k + 1, ?_⟩
    simp at e ⊢
    omega
/-- the stack, its top first -/
def push (s : List A) (x : A) : List A := match s with
  | y :: t => if y = x then t else x :: y :: t
  | [] => [x]
theorem Nb.tail {x : A} : ∀ {l : List A}, Nb (x :: l) → Nb l
  | [], _ => trivial
  | _ :: _, h => h.2
theorem push_nb {s : List A} {x : A} (h : Nb s) : Nb (push s x) := by
  cases s with
  | nil => exact trivial
  | cons y t =>
    unfold push
    dsimp only
    by_cases e : y = x
    · rw [if_pos e]; exact h.tail
    · rw [if_neg e]; exact ⟨fun z => e z.symm, h⟩
theorem push_push {s : List A} {x : A} (h : Nb s) : push (push s x) x = s := by
  cases s with
  | nil => simp [push]
  | cons y t =>
    by_cases e : y = x
    · subst e
      have e1 : push (y :: t) y = t := if_pos rfl
      rw [e1]
      cases t with
      | nil => rfl
      | cons z t => exact if_neg fun q => h.1 q.symm
    · have e1 : push (y :: t) x = x :: y :: t := if_neg e
      rw [e1]
      exact if_pos rfl
theorem fold_nb {s : List A} (h : Nb s) : ∀ l : List A, Nb (l.foldl push s) := by
  intro l
  induction l generalizing s with
  | nil => exact h
  | cons x l ih => exact ih (push_nb h)
theorem Rd.fold {l m : List A} (h : Rd l m) : ∀ {s : List A}, Nb s → l.foldl push s = m.foldl push s := by
  induction h with
  | refl => intro s _; rfl
  | @step a b m x _ ih =>
    intro s hs
    rw [← ih hs, List.foldl_append, List.foldl_append, List.foldl_cons, List.foldl_cons, push_push (fold_nb hs a)]
theorem nb_rev_push : ∀ (l : List A) (s : List A), Nb l → (∀ x y, l.head? = some x → s.head? = some y → x ≠ y) → l.foldl push s = l.reverse ++ s
  | [], s, _, _ => rfl
  | x :: l, s, h, k => by
    rw [List.foldl_cons]
    have e : push s x = x :: s := by
      cases s with
      | nil => rfl
      | cons y t => exact if_neg fun q => k x y rfl rfl q.symm
    rw [e, nb_rev_push l (x :: s) h.tail fun a b ha hb => by
      cases hb
      cases l with
      | nil => cases ha
      | cons c l => cases ha; exact fun q => h.1 q.symm]
    simp
/-- what is left -/
def red (l : List A) : List A := (l.foldl push []).reverse
theorem red_nb {l : List A} (h : Nb l) : red l = l := by
  unfold red
  rw [nb_rev_push l [] h fun _ _ _ z => by cases z]
  simp
theorem Rd.red {l m : List A} (h : Rd l m) : red l = red m := by
  unfold FR.red
  rw [h.fold (s := []) trivial]
/-- a pair goes, or there is none -/
theorem nb_or (l : List A) : Nb l ∨ ∃ a b x, l = a ++ x :: x :: b := by
  induction l with
  | nil => exact .inl trivial
  | cons y l ih =>
    cases l with
    | nil => exact .inl trivial
    | cons z l =>
      by_cases e : y = z
      · subst e; exact .inr ⟨[], l, y, rfl⟩
      · rcases ih with h | ⟨a, b, x, h⟩
        · exact .inl ⟨e, h⟩
        · exact .inr ⟨y :: a, b, x, by rw [h]; rfl⟩
theorem to_nb : ∀ (n : Nat) (l : List A), l.length ≤ n → ∃ m, Rd l m ∧ Nb m
  | 0, l, h => ⟨l, .refl, by cases l with
    | nil => trivial
    | cons _ _ => simp at h⟩
  | n + 1, l, h => by
    rcases nb_or l with q | ⟨a, b, x, rfl⟩
    · exact ⟨l, .refl, q⟩
    · obtain ⟨m, h1, h2⟩ := to_nb n (a ++ b) (by simp at h ⊢; omega)
      exact ⟨m, .step x h1, h2⟩
theorem red_of {l m : List A} (h : Rd l m) (k : Nb m) : red l = m := by rw [h.red, red_nb k]
theorem red_rd (l : List A) : Rd l (red l) ∧ Nb (red l) := by
  obtain ⟨m, h1, h2⟩ := to_nb l.length l (Nat.le_refl _)
  rw [red_of h1 h2]
  exact ⟨h1, h2⟩
theorem red_red (l : List A) : red (red l) = red l := red_nb (red_rd l).2
theorem nb_last : ∀ (l : List A) (y : A), Nb (l ++ [y]) ↔ Nb l ∧ ∀ x, l.getLast? = some x → x ≠ y
  | [], y => by simp [Nb]
  | [a], y => by simp [Nb]
  | a :: b :: l, y => by
    have ih := nb_last (b :: l) y
    show (a ≠ b ∧ Nb ((b :: l) ++ [y])) ↔ _
    rw [ih]
    simp [Nb, and_assoc]
theorem nb_rev : ∀ (l : List A), Nb l → Nb l.reverse
  | [], _ => trivial
  | x :: l, h => by
    rw [List.reverse_cons, nb_last]
    refine ⟨nb_rev l h.tail, fun y hy => ?_⟩
    rw [List.getLast?_reverse] at hy
    cases l with
    | nil => cases hy
    | cons z l => cases hy; exact fun q => h.1 q.symm
theorem red_rev (l : List A) : red l.reverse = (red l).reverse := red_of (red_rd l).1.rev (nb_rev _ (red_rd l).2)
theorem rd_back : ∀ l : List A, Rd (l ++ l.reverse) []
  | [] => .refl
  | x :: l => by
    have h := (rd_back l).app [x] [x]
    have e : (x :: l) ++ (x :: l).reverse = [x] ++ (l ++ l.reverse) ++ [x] := by simp
    rw [e]
    exact h.trans (.step (a := []) (b := []) x .refl)
theorem red_back (l : List A) : red (l ++ l.reverse) = [] := red_of (rd_back l) trivial
/-- the places of equal neighbours -/
def eqs (l : List A) : List Nat := (List.range (l.length - 1)).filter fun i => decide (l[i]? = l[i + 1]?)
theorem eqs_nil {l : List A} (h : eqs l = []) : Nb l := by
  rcases nb_or l with q | ⟨a, b, x, rfl⟩
  · exact q
  · exfalso
    have : a.length ∈ eqs (a ++ x :: x :: b) := by
      unfold eqs
      rw [List.mem_filter, List.mem_range]
      refine ⟨by simp, ?_⟩
      rw [List.getElem?_append_right (Nat.le_refl _), List.getElem?_append_right (by omega)]
      simp
    rw [h] at this
    cases this
theorem eqs_rd {l : List A} {i : Nat} (h : i ∈ eqs l) : i + 1 < l.length ∧ Rd l (l.take i ++ l.drop (i + 2)) := by
  unfold eqs at h
  rw [List.mem_filter, List.mem_range] at h
  have h1 : i + 1 < l.length := by omega
  refine ⟨h1, ?_⟩
  have h2 := of_decide_eq_true h.2
  rw [List.getElem?_eq_getElem (by omega), List.getElem?_eq_getElem h1] at h2
  have h3 : l[i] = l[i + 1] := Option.some.inj h2
  have e : l = l.take i ++ l[i] :: l[i] :: l.drop (i + 2) := by
    conv => lhs; rw [← List.take_append_drop i l]
    rw [List.drop_eq_getElem_cons (by omega), List.drop_eq_getElem_cons (i := i + 1) h1, ← h3]
  conv => lhs; rw [e]
  exact .step _ .refl
theorem nb_eqs {l : List A} (h : Nb l) : eqs l = [] := by
  cases q : eqs l with
  | nil => rfl
  | cons i r =>
    exfalso
    obtain ⟨h1, h2⟩ := eqs_rd (l := l) (i := i) (by rw [q]; exact List.mem_cons_self ..)
    have e := h2.red
    rw [red_nb h] at e
    obtain ⟨k, hk⟩ := (red_rd (l.take i ++ l.drop (i + 2))).1.even
    rw [← e] at hk
    simp at hk
    omega
/-- a turn of the law's own way -/
def bare1 (l : List A) : List A := match (eqs l).getLast? with
  | some i => l.take i ++ l.drop (i + 2)
  | none => l
def bareN : Nat → List A → List A
  | 0, l => l
  | n + 1, l => bare1 (bareN n l)
theorem bare1_rd (l : List A) : Rd l (bare1 l) ∧ (Nb (bare1 l) ∨ (bare1 l).length + 2 = l.length) := by
  unfold bare1
  cases q : (eqs l).getLast? with
  | none => exact ⟨.refl, .inl (eqs_nil (List.getLast?_eq_none_iff.mp q))⟩
  | some i =>
    obtain ⟨h1, h2⟩ := eqs_rd (l := l) (i := i) (List.mem_of_getLast? q)
    refine ⟨h2, .inr ?_⟩
    simp
    omega
theorem bare1_nb {l : List A} (h : Nb l) : bare1 l = l := by
  unfold bare1
  rw [nb_eqs h]
  rfl
theorem bareN_rd (l : List A) : ∀ n, Rd l (bareN n l) ∧ (Nb (bareN n l) ∨ (bareN n l).length + 2 * n = l.length)
  | 0 => ⟨.refl, .inr (by simp [bareN])⟩
  | n + 1 => by
    obtain ⟨h1, h2⟩ := bareN_rd l n
    obtain ⟨k1, k2⟩ := bare1_rd (bareN n l)
    refine ⟨h1.trans k1, ?_⟩
    show Nb (bare1 (bareN n l)) ∨ (bare1 (bareN n l)).length + _ = _
    rcases h2 with h2 | h2
    · exact .inl (by rw [bare1_nb h2]; exact h2)
    · rcases k2 with k2 | k2
      · exact .inl k2
      · exact .inr (by omega)
theorem bare_red (l : List A) : bareN l.length l = red l := by
  obtain ⟨h1, h2⟩ := bareN_rd l l.length
  refine (red_of h1 ?_).symm
  rcases h2 with h2 | h2
  · exact h2
  · have : bareN l.length l = [] := List.eq_nil_of_length_eq_zero (by omega)
    rw [this]
    exact trivial
/-- the program's own stack, its top last -/
def pushR (s : List A) (x : A) : List A := if s.getLast? = some x then s.dropLast else s ++ [x]
theorem pushR_eq (s : List A) (x : A) : pushR s.reverse x = (push s x).reverse := by
  unfold pushR push
  rw [List.getLast?_reverse]
  cases s with
  | nil => rfl
  | cons y t =>
    by_cases e : y = x
    · subst e; simp
    · simp [e]
theorem foldR_eq (l : List A) : ∀ s : List A, l.foldl pushR s.reverse = (l.foldl push s).reverse := by
  induction l with
  | nil => intro s; rfl
  | cons x l ih => intro s; rw [List.foldl_cons, List.foldl_cons, pushR_eq, ih]
theorem foldR_red (l : List A) : l.foldl pushR [] = red l := foldR_eq l []
theorem foldR_le (l : List A) : ∀ s : List A, (l.foldl pushR s).length ≤ s.length + l.length := by
  induction l with
  | nil => intro s; simp
  | cons x l ih =>
    intro s
    have h := ih (pushR s x)
    have : (pushR s x).length ≤ s.length + 1 := by
      unfold pushR
      split <;> simp
      omega
    rw [List.foldl_cons, List.length_cons]
    omega
end FR

set_option Elab.async false
set_option linter.all false
set_option maxRecDepth 100000
set_option maxHeartbeats 1000000
/-! back, reduced -/
namespace DI.Law
open PySem L2 DI FR
section
variable {C : Calls} {st : Store}
theorem e_revL {S : Env} {a : IE} {l : List D} {st1 : Store} (h : ev C S a st = .ok (.lst l) st1) : ev C S (.rev a) st = .ok (.lst l.reverse) st1 := by rw [ev, h]; rfl
theorem e_revT {S : Env} {a : IE} {l : List D} {st1 : Store} (h : ev C S a st = .ok (.tup l) st1) : ev C S (.rev a) st = .ok (.tup l.reverse) st1 := by rw [ev, h]; rfl
theorem rev_t (l : List Int) : D.tup ((l.map D.int).reverse) = tI' l.reverse := by rw [← List.map_reverse]
theorem rev_l (l : List Int) : D.lst ((l.map D.int).reverse) = lI l.reverse := by rw [← List.map_reverse]
theorem x_pop {W j : Nat} {S : Env} {l : List D} {d : D} (hj : S[j]? = some (some (.lst l))) (hd : l[l.length - 1]? = some d) : exec C W (.pop j) S st = .nxt (S.set j (some (.lst l.dropLast))) st := by
  rw [exec, hj]
  show (match l[l.length - 1]? with | some _ => _ | none => _) = _
  rw [hd]
theorem ne_l (l m : List Int) : cmpD .NotEq (lI l) (lI m) = some (!decide (l = m)) := by
  show (eqD (lI l) (lI m)).map not = _
  rw [eqD_l]
  rfl
theorem ne_t (l m : List Int) : cmpD .NotEq (tI' l) (tI' m) = some (!decide (l = m)) := by
  show (eqD (tI' l) (tI' m)).map not = _
  rw [eqD_t]
  rfl
theorem eq_t (l m : List Int) : cmpD .Eq (tI' l) (tI' m) = some (decide (l = m)) := eqD_t l m
theorem last_idx {l : List Int} {x : Int} (h : l.getLast? = some x) : idxD (lI l) (.int (-1)) = some (.int x) := by
  have hn : l ≠ [] := fun e => by rw [e] at h; cases h
  have hl : 0 < l.length := by cases l with
    | nil => exact absurd rfl hn
    | cons _ _ => simp
  have e : idxD (lI l) (.int (-1)) = atI (l.map D.int) (-1) := rfl
  have e2 : ixN l.length (-1) = some (l.length - 1) := by
    unfold ixN
    rw [if_neg (by omega), if_pos (by omega)]
    congr 1
    omega
  rw [e]
  unfold atI
  rw [List.length_map, e2]
  show (l.map D.int)[l.length - 1]? = _
  rw [List.getElem?_map, ← List.getLast?_eq_getElem?, h]
  rfl
def Back (C : Calls) : Prop := ∀ (l : List Int) (st : Store), l.length ≤ 1000 → C 24 (l.map D.int) st = .ok (tI' l.reverse) st
theorem r_back (l : List Int) : runF C WW f_back [tI' l] st = .ok (tI' l.reverse) st := by
  rw [← rev_t]
  exact run_ret (S0 := [some (tI' l)]) (s_ret (x_ret (e_revT (e_var rfl)))) rfl
def Redu (C : Calls) : Prop := ∀ (l : List Int) (st : Store), l.length ≤ 1000 → C 25 (l.map D.int) st = .ok (tI' (red l)) st
abbrev rFor : IS := nthS 1 f_reduced.body
theorem redu_turn (l s : List Int) (x : Int) (hs : s.length < 16777216) : execs C WW (bodS rFor) [some (tI' l), some (lI s), some (.int x)] st = .nxt [some (tI' l), some (lI (pushR s x)), some (.int x)] st := by
  have c1 : ev C [some (tI' l), some (lI s), some (.int x)] (.cmp .NotEq (.var 1) (.lst .nil)) st = .ok (.bl (!decide (s = []))) st := e_cmp (e_var rfl) (e_lst es_nil (by simp)) (ne_l s [])
  cases hq : s.getLast? with
  | none =>
    have hn : s = [] := List.getLast?_eq_none_iff.mp hq
    subst hn
    have e : pushR ([] : List Int) x = [x] := rfl
    rw [e]
    have k := x_app (C := C) (st := st) (W := WW) (i := 1) (l := []) (S := [some (tI' l), some (lI []), some (.int x)]) rfl (e_var (i := 2) (d := .int x) rfl) (by simp)
    exact (s_nxt ((x_iffF (e_andF c1 rfl) rfl).trans ((s_nxt k).trans s_nil))).trans s_nil
  | some y =>
    have hn : s ≠ [] := fun e => by rw [e] at hq; cases hq
    rw [decide_eq_false hn] at c1
    have c2 : ev C [some (tI' l), some (lI s), some (.int x)] (.cmp .Eq (.idx (.var 1) (.neg (.con (.int 1)))) (.var 2)) st = .ok (.bl (decide (y = x))) st :=
      e_cmp (e_idx (x := lI s) (y := .int (-1)) (e_var rfl) (e_neg e_con) (last_idx hq)) (e_var rfl) (eq_int y x)
    have c3 := (e_andT (b := .cmp .Eq (.idx (.var 1) (.neg (.con (.int 1)))) (.var 2)) c1 rfl).trans c2
    unfold pushR
    rw [hq]
    by_cases e : y = x
    · subst e
      rw [if_pos rfl]
      have hd : (s.map D.int)[(s.map D.int).length - 1]? = some (.int y) := by
        rw [List.length_map, List.getElem?_map, ← List.getLast?_eq_getElem?, hq]; rfl
      have k := x_pop (C := C) (st := st) (W := WW) (j := 1) (l := s.map D.int) (S := [some (tI' l), some (lI s), some (.int y)]) rfl hd
      rw [← List.map_dropLast] at k
      exact (s_nxt ((x_iffT c3 (by rw [decide_eq_true rfl]; rfl)).trans ((s_nxt k).trans s_nil))).trans s_nil
    · rw [if_neg (fun q => e (Option.some.inj q))]
      have k := x_app (C := C) (st := st) (W := WW) (i := 1) (l := s.map D.int) (S := [some (tI' l), some (lI s), some (.int x)]) rfl (e_var (i := 2) (d := .int x) rfl) (by rw [List.length_map]; exact hs)
      have ea : s.map D.int ++ [D.int x] = (s ++ [x]).map D.int := by simp
      rw [ea] at k
      exact (s_nxt ((x_iffF c3 (by rw [decide_eq_false e]; rfl)).trans ((s_nxt k).trans s_nil))).trans s_nil
theorem r_redu {l : List Int} (hl : l.length ≤ 1000) : runF C WW f_reduced [tI' l] st = .ok (tI' (red l)) st := by
  have k0 : exec C WW (nthS 0 f_reduced.body) [some (tI' l), none, none] st = .nxt [some (tI' l), some (lI []), none] st := x_seto (e_lst es_nil (by simp)) rfl
  have z : exec C WW rFor [some (tI' l), some (lI []), none] st = _ := x_frr (i_tup (e_var rfl))
  obtain ⟨S', st', e, ⟨y2, eS⟩, est⟩ := for_list (b := fun x S st => (asg C (tgtS rFor) x S st).out fun S st => execs C WW (bodS rFor) S st)
    (fun k S' st' => (∃ y2, S' = [some (tI' l), some (lI ((l.take k).foldl pushR [])), y2]) ∧ st' = st) (l.map D.int) (S := [some (tI' l), some (lI []), none]) (st := st) ⟨⟨none, rfl⟩, rfl⟩ fun k y S' st' hk ⟨⟨y2, eS⟩, est⟩ => by
      subst eS est
      rw [List.getElem?_map] at hk
      cases hx : l[k]? with
      | none => rw [hx] at hk; cases hk
      | some x =>
        rw [hx] at hk
        cases hk
        have hkl := (List.getElem?_eq_some_iff.mp hx).1
        have et : l.take (k + 1) = l.take k ++ [x] := by rw [List.take_succ, hx]; rfl
        have hle := foldR_le (l.take k) []
        have hle2 : (l.take k).length ≤ 1000 := by rw [List.length_take]; omega
        refine ⟨[some (tI' l), some (lI ((l.take (k + 1)).foldl pushR [])), some (.int x)], st', ?_, ⟨_, rfl⟩, rfl⟩
        have a0 : asg C (tgtS rFor) (.int x) [some (tI' l), some (lI ((l.take k).foldl pushR [])), y2] st' = .ok [some (tI' l), some (lI ((l.take k).foldl pushR [])), some (.int x)] st' := a_nam
        rw [a0, out_ok, redu_turn l _ x (by simp at hle; omega), et, List.foldl_append]
        rfl
  subst eS est
  rw [List.length_map, List.take_length, foldR_red] at e
  exact run_ret (S0 := [some (tI' l), none, none]) ((s_nxt k0).trans ((s_nxt (z.trans e)).trans (s_ret (x_ret (e_blt (es_cons (e_var rfl) es_nil) rfl))))) rfl
end
end DI.Law

set_option Elab.async false
set_option linter.all false
set_option maxRecDepth 100000
set_option maxHeartbeats 1000000
/-! backed, cut -/
namespace DI.Law
open PySem L2 DI FR
abbrev pickB (f : Nat) (x : Str) : ISs := (.cons (.iff (.cmp .Lt (.blt .len (.cons (.var 0) .nil)) (.con (.int 2))) (.cons (.ret (.ite (.cmp .Eq (.blt .len (.cons (.var 0) .nil)) (.con (.int 0))) (.cal f x .nil) (.cal f x (.cons (.idx (.var 0) (.con (.int 0))) .nil)))) .nil) .nil) (.cons (.iff (.cmp .Lt (.blt .len (.cons (.var 0) .nil)) (.con (.int 4))) (.cons (.ret (.ite (.cmp .Eq (.blt .len (.cons (.var 0) .nil)) (.con (.int 2))) (.cal f x (.cons (.idx (.var 0) (.con (.int 0))) (.cons (.idx (.var 0) (.con (.int 1))) .nil))) (.cal f x (.cons (.idx (.var 0) (.con (.int 0))) (.cons (.idx (.var 0) (.con (.int 1))) (.cons (.idx (.var 0) (.con (.int 2))) .nil)))))) .nil) .nil) (.cons (.iff (.cmp .Eq (.blt .len (.cons (.var 0) .nil)) (.con (.int 4))) (.cons (.ret (.cal f x (.cons (.idx (.var 0) (.con (.int 0))) (.cons (.idx (.var 0) (.con (.int 1))) (.cons (.idx (.var 0) (.con (.int 2))) (.cons (.idx (.var 0) (.con (.int 3))) .nil)))))) .nil) .nil) (.cons (.iff (.cmp .Eq (.blt .len (.cons (.var 0) .nil)) (.con (.int 5))) (.cons (.ret (.cal f x (.cons (.idx (.var 0) (.con (.int 0))) (.cons (.idx (.var 0) (.con (.int 1))) (.cons (.idx (.var 0) (.con (.int 2))) (.cons (.idx (.var 0) (.con (.int 3))) (.cons (.idx (.var 0) (.con (.int 4))) .nil))))))) .nil) .nil) (.cons (.ret (.cal f x (.cons (.idx (.var 0) (.con (.int 0))) (.cons (.idx (.var 0) (.con (.int 1))) (.cons (.idx (.var 0) (.con (.int 2))) (.cons (.idx (.var 0) (.con (.int 3))) (.cons (.idx (.var 0) (.con (.int 4))) (.cons (.idx (.var 0) (.con (.int 5))) .nil)))))))) .nil)))))
section
variable {C : Calls} {st : Store}
theorem lt_nat (a b : Nat) : cmpD .Lt (.int a) (.int b) = some (decide ((a : Int) < b)) := rfl
theorem pk_len (l : List Int) : ev C [some (lI l)] (.blt .len (.cons (.var 0) .nil)) st = .ok (.int (l.length : Nat)) st := e_blt (es_cons (e_var rfl) es_nil) (by rw [show [lI l].map (see st) = [D.lst (l.map D.int)] from rfl, len_lst, List.length_map])
theorem pk_ix {l : List Int} {a : Int} (k : Nat) (h : l[k]? = some a) : ev C [some (lI l)] (.idx (.var 0) (.con (.int k))) st = .ok (.int a) st := e_idx (x := lI l) (y := .int k) (e_var rfl) e_con (by
  show atI (l.map D.int) (k : Int) = _
  rw [atI_nat, List.getElem?_map, h]
  rfl)
theorem pk_lt (l : List Int) (n : Nat) : ev C [some (lI l)] (.cmp .Lt (.blt .len (.cons (.var 0) .nil)) (.con (.int n))) st = .ok (.bl (decide (((l.length : Nat) : Int) < n))) st := e_cmp (pk_len l) e_con rfl
theorem pk_eq (l : List Int) (n : Nat) : ev C [some (lI l)] (.cmp .Eq (.blt .len (.cons (.var 0) .nil)) (.con (.int n))) st = .ok (.bl (decide (((l.length : Nat) : Int) = n))) st := e_cmp (pk_len l) e_con (eq_int _ _)
theorem pk_ok {f : Nat} {x : Str} {g : List Int → D} (h : ∀ (l : List Int) (st : Store), l.length ≤ 1000 → C f (l.map D.int) st = .ok (g l) st) : ∀ l : List Int, l.length ≤ 6 → execs C WW (pickB f x) [some (lI l)] st = .ret (g l) st
  | [], _ => s_ret ((x_iffT (pk_lt [] 2) rfl).trans (s_ret (x_ret ((e_iteT (pk_eq [] 0) rfl).trans ((e_cal es_nil).trans (h [] st (by simp)))))))
  | [a], _ => s_ret ((x_iffT (pk_lt [a] 2) rfl).trans (s_ret (x_ret ((e_iteF (pk_eq [a] 0) rfl).trans ((e_cal (es_cons (pk_ix 0 rfl) es_nil)).trans (h [a] st (by simp)))))))
  | [a, b], _ => (s_nxt ((x_iffF (pk_lt [a, b] 2) rfl).trans s_nil)).trans (s_ret ((x_iffT (pk_lt [a, b] 4) rfl).trans (s_ret (x_ret ((e_iteT (pk_eq [a, b] 2) rfl).trans ((e_cal (es_cons (pk_ix 0 rfl) (es_cons (pk_ix 1 rfl) es_nil))).trans (h [a, b] st (by simp))))))))
  | [a, b, c], _ => (s_nxt ((x_iffF (pk_lt [a, b, c] 2) rfl).trans s_nil)).trans (s_ret ((x_iffT (pk_lt [a, b, c] 4) rfl).trans (s_ret (x_ret ((e_iteF (pk_eq [a, b, c] 2) rfl).trans ((e_cal (es_cons (pk_ix 0 rfl) (es_cons (pk_ix 1 rfl) (es_cons (pk_ix 2 rfl) es_nil)))).trans (h [a, b, c] st (by simp))))))))
  | [a, b, c, d], _ => (s_nxt ((x_iffF (pk_lt [a, b, c, d] 2) rfl).trans s_nil)).trans ((s_nxt ((x_iffF (pk_lt [a, b, c, d] 4) rfl).trans s_nil)).trans (s_ret ((x_iffT (pk_eq [a, b, c, d] 4) rfl).trans (s_ret (x_ret ((e_cal (es_cons (pk_ix 0 rfl) (es_cons (pk_ix 1 rfl) (es_cons (pk_ix 2 rfl) (es_cons (pk_ix 3 rfl) es_nil))))).trans (h [a, b, c, d] st (by simp))))))))
  | [a, b, c, d, e], _ => (s_nxt ((x_iffF (pk_lt [a, b, c, d, e] 2) rfl).trans s_nil)).trans ((s_nxt ((x_iffF (pk_lt [a, b, c, d, e] 4) rfl).trans s_nil)).trans ((s_nxt ((x_iffF (pk_eq [a, b, c, d, e] 4) rfl).trans s_nil)).trans (s_ret ((x_iffT (pk_eq [a, b, c, d, e] 5) rfl).trans (s_ret (x_ret ((e_cal (es_cons (pk_ix 0 rfl) (es_cons (pk_ix 1 rfl) (es_cons (pk_ix 2 rfl) (es_cons (pk_ix 3 rfl) (es_cons (pk_ix 4 rfl) es_nil)))))).trans (h [a, b, c, d, e] st (by simp)))))))))
  | [a, b, c, d, e, f], _ => (s_nxt ((x_iffF (pk_lt [a, b, c, d, e, f] 2) rfl).trans s_nil)).trans ((s_nxt ((x_iffF (pk_lt [a, b, c, d, e, f] 4) rfl).trans s_nil)).trans ((s_nxt ((x_iffF (pk_eq [a, b, c, d, e, f] 4) rfl).trans s_nil)).trans ((s_nxt ((x_iffF (pk_eq [a, b, c, d, e, f] 5) rfl).trans s_nil)).trans (s_ret (x_ret ((e_cal (es_cons (pk_ix 0 rfl) (es_cons (pk_ix 1 rfl) (es_cons (pk_ix 2 rfl) (es_cons (pk_ix 3 rfl) (es_cons (pk_ix 4 rfl) (es_cons (pk_ix 5 rfl) es_nil))))))).trans (h [a, b, c, d, e, f] st (by simp))))))))
  | _ :: _ :: _ :: _ :: _ :: _ :: _ :: _, hl => by simp at hl
def Backed (C : Calls) : Prop := ∀ (l : List Int) (st : Store), l.length ≤ 6 → C 32 [lI l] st = .ok (tI' l.reverse) st
theorem r_backed (h : Back C) {l : List Int} (hl : l.length ≤ 6) : runF C WW f__law_backed [lI l] st = .ok (tI' l.reverse) st :=
  run_ret (S0 := [some (lI l)]) (pk_ok (f := 24) (x := "back") (g := fun l => tI' l.reverse) h l hl) rfl
def Cut (C : Calls) : Prop := ∀ (l : List Int) (st : Store), l.length ≤ 6 → C 33 [lI l] st = .ok (tI' (red l)) st
theorem r_cut (h : Redu C) {l : List Int} (hl : l.length ≤ 6) : runF C WW f__law_cut [lI l] st = .ok (tI' (red l)) st :=
  run_ret (S0 := [some (lI l)]) (pk_ok (f := 25) (x := "reduced") (g := fun l => tI' (red l)) h l hl) rfl
end
end DI.Law

set_option Elab.async false
set_option linter.all false
set_option maxRecDepth 100000
set_option maxHeartbeats 1000000
/-! bare -/
namespace DI.Law
open PySem L2 DI FR
section
variable {C : Calls} {st : Store}
theorem rng_pred {n : Nat} (h : n ≤ 1000) : rngD [.int ((n : Int) - 1)] = some ((List.range (n - 1)).map fun (x : Nat) => D.int x) := by
  cases n with
  | zero =>
    rw [rng1_eq, if_pos (by omega)]
    rfl
  | succ n =>
    have e : ((n + 1 : Nat) : Int) - 1 = (n : Int) := by omega
    rw [e, rng1_of n (by omega), rangeD_l]
    rfl
theorem eqs_len (r : List Int) : (eqs r).length ≤ r.length := by
  have := List.length_filter_le (fun i => decide (r[i]? = r[i + 1]?)) (List.range (r.length - 1))
  rw [List.length_range] at this
  unfold eqs
  omega
theorem eqs_l {r : List Int} (hr : r.length ≤ 1000) (x0 x2 x3 x4 : Option D) : ev C [x0, some (lI r), x2, x3, x4] (.lcp (.var 4) (.nam 4) (.rng (.cons (.bin .Sub (.blt .len (.cons (.var 1) .nil)) (.con (.int 1))) .nil)) (.cons (.cmp .Eq (.idx (.var 1) (.var 4)) (.idx (.var 1) (.bin .Add (.var 4) (.con (.int 1))))) .nil) [4]) st = .ok (lN (eqs r)) st := by
  have hi : itm C [x0, some (lI r), x2, x3, x4] (.rng (.cons (.bin .Sub (.blt .len (.cons (.var 1) .nil)) (.con (.int 1))) .nil)) st = .ok ((List.range (r.length - 1)).map fun (x : Nat) => D.int x) st := by
    refine i_rng (es_cons (e_bin (e_blt (z := .int (r.length : Nat)) (es_cons (e_var rfl) es_nil) ?_) e_con (sub_eq _ _)) es_nil) (rng_pred hr)
    show bltD .len [lI r] = _
    rw [len_lst, List.length_map]
  have hc : compR (trn C [x0, some (lI r), x2, x3, x4] [4] (.var 4) (.nam 4) (.cons (.cmp .Eq (.idx (.var 1) (.var 4)) (.idx (.var 1) (.bin .Add (.var 4) (.con (.int 1))))) .nil)) ((List.range (r.length - 1)).map fun (x : Nat) => D.int x) st = .ok ((eqs r).map fun (x : Nat) => D.int x) st := by
    refine comp_range (q := fun i => decide (r[i]? = r[i + 1]?)) (d := fun (x : Nat) => D.int x) fun k hk => ?_
    have h1 : k < r.length := by omega
    have h2 : k + 1 < r.length := by omega
    refine t_ifp (S2 := [x0, some (lI r), x2, x3, some (.int (k : Nat))]) (y := .bl (decide (r[k]? = r[k + 1]?))) a_nam ?_ rfl fun _ => e_var rfl
    have g1 : idxD (lI r) (.int (k : Nat)) = some (.int r[k]) := by
      show atI (r.map D.int) (k : Int) = _
      rw [atI_nat, List.getElem?_map, List.getElem?_eq_getElem h1]; rfl
    have g2 : idxD (lI r) (.int ((k + 1 : Nat) : Int)) = some (.int r[k + 1]) := by
      show atI (r.map D.int) ((k + 1 : Nat) : Int) = _
      rw [atI_nat, List.getElem?_map, List.getElem?_eq_getElem h2]; rfl
    have ek : decide (r[k]? = r[k + 1]?) = decide (r[k] = r[k + 1]) := by
      rw [List.getElem?_eq_getElem h1, List.getElem?_eq_getElem h2]
      congr 1
      exact propext ⟨fun e => Option.some.inj e, fun e => by rw [e]⟩
    rw [ek]
    exact e_cmp (e_idx (x := lI r) (y := .int (k : Nat)) (e_var rfl) (e_var rfl) g1) (e_idx (x := lI r) (y := .int ((k + 1 : Nat) : Int)) (e_var rfl) (e_bin (e_var rfl) e_con (add_nn k 1)) g2) (eq_int _ _)
  rw [← lN_eq]
  exact e_lcp hi hc (by have := eqs_len r; simp; omega)
theorem eqs_t {r : List Int} (hr : r.length ≤ 1000) (x0 x1 x2 x4 : Option D) : ev C [x0, x1, x2, some (tI' r), x4] (.lcp (.var 4) (.nam 4) (.rng (.cons (.bin .Sub (.blt .len (.cons (.var 3) .nil)) (.con (.int 1))) .nil)) (.cons (.cmp .Eq (.idx (.var 3) (.var 4)) (.idx (.var 3) (.bin .Add (.var 4) (.con (.int 1))))) .nil) [4]) st = .ok (lN (eqs r)) st := by
  have hi : itm C [x0, x1, x2, some (tI' r), x4] (.rng (.cons (.bin .Sub (.blt .len (.cons (.var 3) .nil)) (.con (.int 1))) .nil)) st = .ok ((List.range (r.length - 1)).map fun (x : Nat) => D.int x) st := by
    refine i_rng (es_cons (e_bin (e_blt (z := .int (r.length : Nat)) (es_cons (e_var rfl) es_nil) ?_) e_con (sub_eq _ _)) es_nil) (rng_pred hr)
    show bltD .len [tI' r] = _
    rw [len_tup, List.length_map]
  have hc : compR (trn C [x0, x1, x2, some (tI' r), x4] [4] (.var 4) (.nam 4) (.cons (.cmp .Eq (.idx (.var 3) (.var 4)) (.idx (.var 3) (.bin .Add (.var 4) (.con (.int 1))))) .nil)) ((List.range (r.length - 1)).map fun (x : Nat) => D.int x) st = .ok ((eqs r).map fun (x : Nat) => D.int x) st := by
    refine comp_range (q := fun i => decide (r[i]? = r[i + 1]?)) (d := fun (x : Nat) => D.int x) fun k hk => ?_
    have h1 : k < r.length := by omega
    have h2 : k + 1 < r.length := by omega
    refine t_ifp (S2 := [x0, x1, x2, some (tI' r), some (.int (k : Nat))]) (y := .bl (decide (r[k]? = r[k + 1]?))) a_nam ?_ rfl fun _ => e_var rfl
    have g1 : idxD (tI' r) (.int (k : Nat)) = some (.int r[k]) := by
      show atI (r.map D.int) (k : Int) = _
      rw [atI_nat, List.getElem?_map, List.getElem?_eq_getElem h1]; rfl
    have g2 : idxD (tI' r) (.int ((k + 1 : Nat) : Int)) = some (.int r[k + 1]) := by
      show atI (r.map D.int) ((k + 1 : Nat) : Int) = _
      rw [atI_nat, List.getElem?_map, List.getElem?_eq_getElem h2]; rfl
    have ek : decide (r[k]? = r[k + 1]?) = decide (r[k] = r[k + 1]) := by
      rw [List.getElem?_eq_getElem h1, List.getElem?_eq_getElem h2]
      congr 1
      exact propext ⟨fun e => Option.some.inj e, fun e => by rw [e]⟩
    rw [ek]
    exact e_cmp (e_idx (x := tI' r) (y := .int (k : Nat)) (e_var rfl) (e_var rfl) g1) (e_idx (x := tI' r) (y := .int ((k + 1 : Nat) : Int)) (e_var rfl) (e_bin (e_var rfl) e_con (add_nn k 1)) g2) (eq_int _ _)
  rw [← lN_eq]
  exact e_lcp hi hc (by have := eqs_len r; simp; omega)
theorem cut_from (l : List D) (t : Nat) : cutD l (some (t : Int)) none = l.drop t := by
  unfold cutD
  rw [HT.sIx_nat, HT.sIx_none]
  by_cases h : t ≤ l.length
  · rw [Nat.min_eq_left h, List.take_of_length_le (by simp)]
  · rw [Nat.min_eq_right (by omega), List.drop_of_length_le (by omega : l.length ≤ t)]; simp
theorem isW_nil (l : List Nat) : ((l.map fun (x : Nat) => (x : Int)) = []) ↔ l = [] := by cases l <;> simp
def Bare (C : Calls) : Prop := ∀ (l : List Int) (st : Store), l.length ≤ 100 → C 34 [lI l] st = .ok (tI' (red l)) st
abbrev bareF : IS := nthS 1 f__law_bare.body
theorem bare_turn {l r : List Int} (hr : r.length ≤ 1000) (k : Nat) (x3 x4 : Option D) : ∃ y3, execs C WW (bodS bareF) [some (lI l), some (lI r), some (.int k), x3, x4] st = .nxt [some (lI l), some (lI (bare1 r)), some (.int k), y3, x4] st := by
  have k0 : exec C WW (nthS 0 (bodS bareF)) [some (lI l), some (lI r), some (.int k), x3, x4] st = .nxt [some (lI l), some (lI r), some (.int k), some (lN (eqs r)), x4] st := x_set (eqs_l hr _ _ _ _)
  have c1 : ev C [some (lI l), some (lI r), some (.int k), some (lN (eqs r)), x4] (.cmp .NotEq (.var 3) (.lst .nil)) st = .ok (.bl (!decide (((eqs r).map fun (x : Nat) => (x : Int)) = []))) st := e_cmp (e_var rfl) (e_lst es_nil (by simp)) (ne_l _ [])
  refine ⟨some (lN (eqs r)), (s_nxt k0).trans ?_⟩
  unfold bare1
  cases q : (eqs r).getLast? with
  | none =>
    rw [decide_eq_true ((isW_nil _).mpr (List.getLast?_eq_none_iff.mp q))] at c1
    exact (s_nxt ((x_iffF c1 rfl).trans s_nil)).trans s_nil
  | some i =>
    have hn : eqs r ≠ [] := fun e => by rw [e] at q; cases q
    rw [decide_eq_false fun e => hn ((isW_nil _).mp e)] at c1
    obtain ⟨hi, _⟩ := eqs_rd (l := r) (i := i) (List.mem_of_getLast? q)
    have e1 : ev C [some (lI l), some (lI r), some (.int k), some (lN (eqs r)), x4] (.idx (.var 3) (.neg (.con (.int 1)))) st = .ok (.int (i : Nat)) st :=
      e_idx (x := lN (eqs r)) (y := .int (-1)) (e_var rfl) (e_neg e_con) (last_idx (by rw [List.getLast?_map, q]; rfl))
    have s1 : ev C [some (lI l), some (lI r), some (.int k), some (lN (eqs r)), x4] (.slc (.var 1) .gap (.idx (.var 3) (.neg (.con (.int 1))))) st = .ok (lI (r.take i)) st := by
      refine e_slc (x := lI r) (l := none) (h := some (i : Int)) (e_var rfl) rfl ?_ ?_
      · show (ev C _ (.idx (.var 3) (.neg (.con (.int 1)))) st).bind intR = _
        rw [e1]
        rfl
      · show some (D.lst (cutD (r.map D.int) none (some (i : Int)))) = _
        rw [cut_to, ← List.map_take]
    have s2 : ev C [some (lI l), some (lI r), some (.int k), some (lN (eqs r)), x4] (.slc (.var 1) (.bin .Add (.idx (.var 3) (.neg (.con (.int 1)))) (.con (.int 2))) .gap) st = .ok (lI (r.drop (i + 2))) st := by
      refine e_slc (x := lI r) (l := some ((i + 2 : Nat) : Int)) (h := none) (e_var rfl) ?_ rfl ?_
      · show (ev C _ (.bin .Add (.idx (.var 3) (.neg (.con (.int 1)))) (.con (.int 2))) st).bind intR = _
        rw [e_bin e1 e_con (add_nn i 2)]
        rfl
      · show some (D.lst (cutD (r.map D.int) (some ((i + 2 : Nat) : Int)) none)) = _
        rw [cut_from, ← List.map_drop]
    have s3 : ev C [some (lI l), some (lI r), some (.int k), some (lN (eqs r)), x4] (.bin .Add (.slc (.var 1) .gap (.idx (.var 3) (.neg (.con (.int 1))))) (.slc (.var 1) (.bin .Add (.idx (.var 3) (.neg (.con (.int 1)))) (.con (.int 2))) .gap)) st = .ok (lI (r.take i ++ r.drop (i + 2))) st := by
      refine e_bin s1 s2 ?_
      show binD .Add (D.lst ((r.take i).map D.int)) (D.lst ((r.drop (i + 2)).map D.int)) = _
      rw [cat_eq, if_pos (by simp; omega), ← List.map_append]
    exact (s_nxt ((x_iffT c1 rfl).trans ((s_nxt (x_set s3)).trans s_nil))).trans s_nil
theorem bareN_le (l : List Int) (n : Nat) : (bareN n l).length ≤ l.length := by
  obtain ⟨k, hk⟩ := (bareN_rd l n).1.even
  omega
theorem r_bare {l : List Int} (hl : l.length ≤ 100) : runF C WW f__law_bare [lI l] st = .ok (tI' (red l)) st := by
  have k0 : exec C WW (nthS 0 f__law_bare.body) [some (lI l), none, none, none, none] st = .nxt [some (lI l), some (lI l), none, none, none] st := x_set (e_blt (es_cons (e_var rfl) es_nil) rfl)
  have z : exec C WW bareF [some (lI l), some (lI l), none, none, none] st = _ := x_frr (i_range (n := l.length) (e_blt (es_cons (e_var rfl) es_nil) (by rw [show [lI l].map (see st) = [D.lst (l.map D.int)] from rfl, len_lst, List.length_map])) (by omega))
  obtain ⟨S', st', e, ⟨y2, y3, eS⟩, est⟩ := for_range (b := fun x S st => (asg C (tgtS bareF) x S st).out fun S st => execs C WW (bodS bareF) S st)
    (fun k S' st' => (∃ y2 y3, S' = [some (lI l), some (lI (bareN k l)), y2, y3, none]) ∧ st' = st) l.length (S := [some (lI l), some (lI l), none, none, none]) (st := st) ⟨⟨none, none, rfl⟩, rfl⟩ fun k S' st' hk ⟨⟨y2, y3, eS⟩, est⟩ => by
      subst eS est
      have hle := bareN_le l k
      obtain ⟨y3', e⟩ := bare_turn (C := C) (st := st') (l := l) (r := bareN k l) (by omega) k y3 none
      refine ⟨_, st', ?_, ⟨some (.int k), y3', rfl⟩, rfl⟩
      have a0 : asg C (tgtS bareF) (.int k) [some (lI l), some (lI (bareN k l)), y2, y3, none] st' = .ok [some (lI l), some (lI (bareN k l)), some (.int k), y3, none] st' := a_nam
      rw [a0, out_ok]
      exact e
  subst eS est
  rw [bare_red] at e
  exact run_ret (S0 := [some (lI l), none, none, none, none]) ((s_nxt k0).trans ((s_nxt (z.trans e)).trans (s_ret (x_ret (e_blt (es_cons (e_var rfl) es_nil) rfl))))) rfl
end
end DI.Law

set_option Elab.async false
set_option linter.all false
set_option maxRecDepth 100000
set_option maxHeartbeats 1000000
/-! texts of rows -/
namespace DI.Law
open PySem L2 DI FR
section
variable {C : Calls} {st : Store}
/-- the numbers of the law's rows -/
def vals : List Int := (10 ^ 30 : Int) :: (-1) :: (List.range 16).map fun (x : Nat) => (x : Int)
def Val (l : List Int) : Prop := ∀ x ∈ l, x ∈ vals
theorem short_val : ∀ x ∈ vals, (PyData.shown (.int x)).length ≤ 40 := by decide +kernel
theorem log_val : ∀ x ∈ vals, x.natAbs.log2 < 1920 := by decide +kernel
theorem leaves_val : ∀ l : List Int, Val l → PyData.leavesShortAll 40 (l.map PyData.int) = true
  | [], _ => rfl
  | x :: l, h => by
    rw [List.map_cons, PyData.leavesShortAll, leaves_val l fun y hy => h y (List.mem_cons_of_mem _ hy), PyData.leavesShort, decide_eq_true (short_val x (h x List.mem_cons_self))]
    rfl
theorem show_val : ∀ l : List Int, Val l → PyData.showableAll (l.map PyData.int) = true
  | [], _ => rfl
  | x :: l, h => by
    rw [List.map_cons, PyData.showableAll, show_val l fun y hy => h y (List.mem_cons_of_mem _ hy), PyData.showable, decide_eq_true (log_val x (h x List.mem_cons_self))]
    rfl
theorem bulk_val : ∀ l : List Int, PyData.bulkAll (l.map PyData.int) = l.length
  | [] => rfl
  | x :: l => by
    rw [List.map_cons, PyData.bulkAll, bulk_val l, PyData.bulk, List.length_cons]
    omega
abbrev pT (l : List (List Int)) : List PyData := l.map fun ns => PyData.tuple (ns.map .int)
theorem leaves_vals : ∀ l : List (List Int), (∀ c ∈ l, Val c) → PyData.leavesShortAll 40 (pT l) = true
  | [], _ => rfl
  | c :: l, h => by
    show PyData.leavesShortAll 40 (PyData.tuple (c.map .int) :: pT l) = true
    rw [PyData.leavesShortAll, leaves_vals l fun y hy => h y (List.mem_cons_of_mem _ hy), PyData.leavesShort, leaves_val c (h c List.mem_cons_self)]
    rfl
theorem show_vals : ∀ l : List (List Int), (∀ c ∈ l, Val c) → PyData.showableAll (pT l) = true
  | [], _ => rfl
  | c :: l, h => by
    show PyData.showableAll (PyData.tuple (c.map .int) :: pT l) = true
    rw [PyData.showableAll, show_vals l fun y hy => h y (List.mem_cons_of_mem _ hy), PyData.showable, show_val c (h c List.mem_cons_self)]
    rfl
theorem bulk_vals : ∀ l : List (List Int), (∀ c ∈ l, c.length ≤ 1000) → PyData.bulkAll (pT l) ≤ 1001 * l.length
  | [], _ => Nat.le_refl _
  | c :: l, h => by
    show PyData.bulkAll (PyData.tuple (c.map .int) :: pT l) ≤ _
    rw [PyData.bulkAll, PyData.bulk, bulk_val, List.length_cons]
    have := bulk_vals l fun y hy => h y (List.mem_cons_of_mem _ hy)
    have := h c List.mem_cons_self
    omega
theorem reprT_eq (l : List D) : bltD .repr [.tup l] = if (D.tup l).py.showable && SeqAt.shaped (D.tup l).py && !(D.tup l).py.hasDict && decide ((D.tup l).py.shown.length ≤ 16777216) then some (.str (D.tup l).py.shown) else none := rfl
theorem reprL_eq (l : List D) : bltD .repr [.lst l] = if (D.lst l).py.showable && SeqAt.shaped (D.lst l).py && !(D.lst l).py.hasDict && decide ((D.lst l).py.shown.length ≤ 16777216) then some (.str (D.lst l).py.shown) else none := rfl
theorem fits {d : PyData} (hl : d.leavesShort 40 = true) (hw : d.bulk ≤ 100000) : d.shown.length ≤ 16777216 := by
  have h := PyData.shown_le_bulk 40 (by decide) d hl
  omega
theorem reprT_of {l : List D} (h1 : (D.tup l).py.showable = true) (h2 : SeqAt.shaped (D.tup l).py = true) (h3 : (D.tup l).py.canLay0 = true) (h4 : (D.tup l).py.leavesShort 40 = true) (h5 : (D.tup l).py.bulk ≤ 100000) : bltD .repr [.tup l] = some (.str (D.tup l).py.shown) := by
  have h7 := PyData.hasDict_of_canLay _ h3
  rw [reprT_eq, h1, h2, h7, decide_eq_true (fits h4 h5)]
  rfl
theorem reprL_of {l : List D} (h1 : (D.lst l).py.showable = true) (h2 : SeqAt.shaped (D.lst l).py = true) (h3 : (D.lst l).py.canLay0 = true) (h4 : (D.lst l).py.leavesShort 40 = true) (h5 : (D.lst l).py.bulk ≤ 100000) : bltD .repr [.lst l] = some (.str (D.lst l).py.shown) := by
  have h7 := PyData.hasDict_of_canLay _ h3
  rw [reprL_eq, h1, h2, h7, decide_eq_true (fits h4 h5)]
  rfl
/-- a text whose signs are signs -/
def Sgn (s : Str) : Prop := ∀ c ∈ s.cps.toList, c < 0x110000
theorem Sgn.app {a b : Str} (ha : Sgn a) (hb : Sgn b) : Sgn (a ++ b) := fun c hc => by
  rw [PySem.Str.cps_append, Array.toList_append, List.mem_append] at hc
  exact hc.elim (ha c) (hb c)
theorem sgn_join : ∀ ts : List Str, (∀ t ∈ ts, Sgn t) → Sgn (Str.join ", " ts)
  | [], _ => fun c hc => absurd hc (by decide +revert)
  | [x], h => h x List.mem_cons_self
  | x :: y :: r, h => by
    show Sgn (x ++ ", " ++ Str.join ", " (y :: r))
    exact ((h x List.mem_cons_self).app (fun c hc => by revert c; decide)).app (sgn_join (y :: r) fun t ht => h t (List.mem_cons_of_mem _ ht))
theorem sgn_tuple {ts : List Str} (h : ∀ t ∈ ts, Sgn t) : Sgn (tupleText ts) := by
  unfold tupleText
  have h0 : Sgn ("(" : Str) := fun c hc => by revert c; decide
  refine (h0.app (sgn_join ts h)).app ?_
  split
  · intro c hc; revert c; decide
  · intro c hc; revert c; decide
theorem sgn_from : ∀ (ts : List Str) (k : Nat) (acc : Str), Sgn acc → (∀ t ∈ ts, Sgn t) → Sgn (textFrom k acc ts)
  | [], _, acc, h, _ => h
  | t :: ts, k, acc, h, ht => by
    show Sgn (textFrom (k + 1) (acc ++ (if k > 0 then ", " else "" : String) ++ t) ts)
    refine sgn_from ts (k + 1) _ ((h.app ?_).app (ht t List.mem_cons_self)) fun u hu => ht u (List.mem_cons_of_mem _ hu)
    split
    · intro c hc; revert c; decide
    · intro c hc; revert c; decide
theorem sgn_list {ts : List Str} (h : ∀ t ∈ ts, Sgn t) : Sgn (listText ts) := by
  unfold listText
  exact (sgn_from ts 0 _ (fun c hc => by revert c; decide) h).app (fun c hc => by revert c; decide)
theorem sgn_val : ∀ x ∈ vals, Sgn (PyData.shown (.int x)) := by
  have z : ∀ x ∈ vals, ((PyData.shown (.int x)).cps.toList.all fun c => decide (c < 0x110000)) = true := by decide +kernel
  exact fun x hx c hc => of_decide_eq_true (List.all_eq_true.mp (z x hx) c hc)
theorem sgn_row : ∀ l : List Int, Val l → ∀ t ∈ PyData.shownAll (l.map PyData.int), Sgn t
  | [], _, t, ht => by
    rw [List.map_nil, PyData.shownAll] at ht
    cases ht
  | x :: l, h, t, ht => by
    rw [List.map_cons, PyData.shownAll] at ht
    rcases List.mem_cons.mp ht with rfl | ht
    · exact sgn_val x (h x List.mem_cons_self)
    · exact sgn_row l (fun y hy => h y (List.mem_cons_of_mem _ hy)) t ht
theorem sgn_rows : ∀ l : List (List Int), (∀ c ∈ l, Val c) → ∀ t ∈ PyData.shownAll (pT l), Sgn t
  | [], _, t, ht => by
    have ht : t ∈ PyData.shownAll [] := ht
    rw [PyData.shownAll] at ht
    cases ht
  | x :: l, h, t, ht => by
    have ht : t ∈ PyData.shownAll (PyData.tuple (x.map .int) :: pT l) := ht
    rw [PyData.shownAll] at ht
    rcases List.mem_cons.mp ht with rfl | ht
    · rw [PyData.shown]
      exact sgn_tuple (sgn_row x (h x List.mem_cons_self))
    · exact sgn_rows l (fun y hy => h y (List.mem_cons_of_mem _ hy)) t ht
theorem sgn_ok {s : Str} (h : Sgn s) : PyData.strOk s = true := by
  unfold PyData.strOk
  rw [← Array.all_toList, List.all_eq_true]
  exact fun c hc => decide_eq_true (h c hc)
theorem repr_t {l : List Int} (h : Val l) (hl : l.length ≤ 1000) : ∃ s, bltD .repr [tI' l] = some (.str s) ∧ PyData.strOk s = true := by
  have e : (tI' l).py = .tuple (l.map PyData.int) := by rw [D.py, pys_int]
  have hs : PyData.strOk (tI' l).py.shown = true := by
    rw [e, PyData.shown]
    exact sgn_ok (sgn_tuple (sgn_row l h))
  refine ⟨_, reprT_of (l := l.map D.int) ?_ (shape_t _) ?_ ?_ ?_, hs⟩ <;> rw [show (D.tup (l.map D.int)).py = _ from e]
  · rw [PyData.showable]; exact show_val l h
  · rw [PyData.canLay0, lay_int]
  · rw [PyData.leavesShort]; exact leaves_val l h
  · rw [PyData.bulk, bulk_val]; omega
theorem repr_l {l : List Int} (h : Val l) (hl : l.length ≤ 1000) : ∃ s, bltD .repr [lI l] = some (.str s) ∧ PyData.strOk s = true := by
  have e : (lI l).py = .list (l.map PyData.int) := by rw [D.py, pys_int]
  have hs : PyData.strOk (lI l).py.shown = true := by
    rw [e, PyData.shown]
    exact sgn_ok (sgn_list (sgn_row l h))
  refine ⟨_, reprL_of (l := l.map D.int) ?_ (shape_l _) ?_ ?_ ?_, hs⟩ <;> rw [show (D.lst (l.map D.int)).py = _ from e]
  · rw [PyData.showable]; exact show_val l h
  · rw [PyData.canLay0, lay_int]
  · rw [PyData.leavesShort]; exact leaves_val l h
  · rw [PyData.bulk, bulk_val]; omega
theorem shape_lt (l : List (List Int)) : SeqAt.shaped (D.lst (l.map tI')).py = true := by
  unfold SeqAt.shaped
  rw [D.py, pys_tups, PyData.canLay0, lay_tups, PyData.depth]
  have := depth_tups l
  simp only [Bool.true_and, decide_eq_true_eq]
  omega
theorem repr_lt {l : List (List Int)} (h : ∀ c ∈ l, Val c) (hc : ∀ c ∈ l, c.length ≤ 1000) (hl : l.length ≤ 10) : ∃ s, bltD .repr [.lst (l.map tI')] = some (.str s) ∧ PyData.strOk s = true := by
  have e : (D.lst (l.map tI')).py = .list (pT l) := by rw [D.py, pys_tups]
  have hs : PyData.strOk (D.lst (l.map tI')).py.shown = true := by
    rw [e, PyData.shown]
    exact sgn_ok (sgn_list (sgn_rows l h))
  refine ⟨_, reprL_of (l := l.map tI') ?_ (shape_lt l) ?_ ?_ ?_, hs⟩ <;> rw [e]
  · rw [PyData.showable]; exact show_vals l h
  · rw [PyData.canLay0]; exact lay_tups l
  · rw [PyData.leavesShort]; exact leaves_vals l h
  · have := bulk_vals l hc
    rw [PyData.bulk]
    omega
theorem eqD_str (s : Str) (hs : PyData.strOk s = true) : eqD (.str s) (.str s) = some true := by
  have e2 : eqD (.str s) (.str s) = some (s == s) := by
    unfold eqD
    rw [if_pos (by simp [SeqAt.shaped, D.py, PyData.canLay0, PyData.depth, hs])]
    rfl
  rw [e2, beq_self_eq_true]
theorem ne_str (s : Str) (hs : PyData.strOk s = true) : cmpD .NotEq (.str s) (.str s) = some false := by
  have e : cmpD .NotEq (.str s) (.str s) = (eqD (.str s) (.str s)).map not := rfl
  rw [e, eqD_str s hs]
  rfl
theorem eq_str (s : Str) (hs : PyData.strOk s = true) : cmpD .Eq (.str s) (.str s) = some true := eqD_str s hs
theorem Val.sub {l m : List Int} (h : Val l) (k : ∀ x ∈ m, x ∈ l) : Val m := fun x hx => h x (k x hx)
theorem rd_sub {A : Type} [DecidableEq A] {l m : List A} (h : FR.Rd l m) : ∀ x ∈ m, x ∈ l := by
  induction h with
  | refl => exact fun x hx => hx
  | @step a b m y _ ih =>
    intro x hx
    have := ih x hx
    simp only [List.mem_append, List.mem_cons] at this ⊢
    rcases this with q | q
    · exact .inl q
    · exact .inr (.inr (.inr q))
theorem Val.red {l : List Int} (h : Val l) : Val (FR.red l) := h.sub (rd_sub (red_rd l).1)
theorem Val.rev {l : List Int} (h : Val l) : Val l.reverse := h.sub fun x hx => List.mem_reverse.mp hx
end
end DI.Law

set_option Elab.async false
set_option linter.all false
set_option maxRecDepth 100000
set_option maxHeartbeats 1000000
/-! the check of a row -/
namespace DI.Law
open PySem L2 DI FR
section
variable {C : Calls} {st : Store}
theorem rd_le {A : Type} [DecidableEq A] (l : List A) : (FR.red l).length ≤ l.length := by
  obtain ⟨k, hk⟩ := (red_rd l).1.even
  omega
theorem len_l (l : List Int) : bltD .len [lI l] = some (.int (l.length : Nat)) := by rw [len_lst, List.length_map]
theorem len_t (l : List Int) : bltD .len [tI' l] = some (.int (l.length : Nat)) := by rw [len_tup, List.length_map]
def Right (C : Calls) : Prop := ∀ (l : List Int) (st : Store), Val l → l.length ≤ 6 → C 36 [lI l] st = .ok (.bl true) st
theorem r_right (hB : Backed C) (hC : Cut C) (hR : Bare C) {l : List Int} (hv : Val l) (hl : l.length ≤ 6) : runF C WW f__law_right [lI l] st = .ok (.bl true) st := by
  have hle := rd_le l
  obtain ⟨s, es, os⟩ := repr_l hv (by omega)
  obtain ⟨s2, es2, os2⟩ := repr_lt (l := [l.reverse, red l]) (fun c hc => by
    rcases List.mem_cons.mp hc with rfl | hc
    · exact hv.rev
    · rw [List.mem_singleton.mp hc]; exact hv.red) (fun c hc => by
    rcases List.mem_cons.mp hc with rfl | hc
    · simp; omega
    · rw [List.mem_singleton.mp hc]; omega) (by simp)
  have bk : ∀ (e : IE) (S : Env) (r : List Int), r.length ≤ 6 → ev C S e st = .ok (lI r) st → ev C S (.cal 32 "_law_backed" (.cons e .nil)) st = .ok (tI' r.reverse) st := fun e S r hr h => (e_cal (es_cons h es_nil)).trans (hB r st hr)
  have ct : ∀ (e : IE) (S : Env) (r : List Int), r.length ≤ 6 → ev C S e st = .ok (lI r) st → ev C S (.cal 33 "_law_cut" (.cons e .nil)) st = .ok (tI' (red r)) st := fun e S r hr h => (e_cal (es_cons h es_nil)).trans (hC r st hr)
  have tol : ∀ (e : IE) (S : Env) (r : List Int), ev C S e st = .ok (tI' r) st → ev C S (.blt .list (.cons e .nil)) st = .ok (lI r) st := fun e S r h => e_blt (es_cons h es_nil) rfl
  have k0 : exec C WW (nthS 0 f__law_right.body) [some (lI l), none, none, none, none] st = .nxt [some (lI l), none, some (.str s), some (tI' (red l)), none] st :=
    x_unt (es_cons (e_blt (es_cons (e_var rfl) es_nil) es) (es_cons ((e_cal (es_cons (e_var rfl) es_nil)).trans (hR l st (by omega))) es_nil)) (as_cons a_nam (as_cons a_nam as_nil))
  have c1 : ev C [some (lI l), none, some (.str s), some (tI' (red l)), none] (retE (nthS 1 f__law_right.body)) st = .ok (.bl false) st := by
    refine e_cmp (x := .str s2) (y := .str s2) (e_blt (es_cons (e_lst (es_cons (bk _ _ l hl (e_var rfl)) (es_cons (ct _ _ l hl (e_var rfl)) es_nil)) (by simp)) es_nil) es2) (e_blt (es_cons (e_lst (es_cons (e_blt (z := tI' l.reverse) (es_cons (e_revL (e_var rfl)) es_nil) ?_) (es_cons (e_var rfl) es_nil)) (by simp)) es_nil) es2) (ne_str s2 os2)
    rw [List.map_cons, rev_l]
    rfl
  have k1 : exec C WW (nthS 1 f__law_right.body) [some (lI l), none, some (.str s), some (tI' (red l)), none] st = .nxt [some (lI l), none, some (.str s), some (tI' (red l)), none] st := (x_iffF c1 rfl).trans s_nil
  have c2 : ev C [some (lI l), none, some (.str s), some (tI' (red l)), none] (retE (nthS 2 f__law_right.body)) st = .ok (.bl false) st := by
    have a := e_cmp (op := .NotEq) (ct _ [some (lI l), none, some (.str s), some (tI' (red l)), none] (red l) (by omega) (tol (.var 3) _ (red l) (e_var rfl))) (e_var (i := 3) (d := tI' (red l)) rfl) (ne_t _ _)
    rw [red_red, decide_eq_true rfl] at a
    refine (e_orF a rfl).trans ?_
    obtain ⟨k, hk⟩ := (red_rd l).1.even
    have b := e_bin (op := .Sub) (e_blt (C := C) (st := st) (S := [some (lI l), none, some (.str s), some (tI' (red l)), none]) (es_cons (e_var (i := 0) (d := lI l) rfl) es_nil) (len_l l)) (e_blt (es_cons (e_var (i := 3) (d := tI' (red l)) rfl) es_nil) (len_t (red l))) (sub_eq _ _)
    have c := e_bin (op := .Mod) b (e_con (d := .int 2)) (mod_eq _ (by decide))
    refine e_cmp c (e_con (d := .int 0)) ?_
    show cmpD .NotEq (.int _) (.int 0) = _
    rw [ne_int, show ((l.length : Nat) : Int) - ((red l).length : Nat) = 2 * (k : Int) by omega, decide_eq_true (by rw [Int.fmod_eq_emod_of_nonneg _ (by decide)]; omega)]
    rfl
  have k2 : exec C WW (nthS 2 f__law_right.body) [some (lI l), none, some (.str s), some (tI' (red l)), none] st = .nxt [some (lI l), none, some (.str s), some (tI' (red l)), none] st := (x_iffF c2 rfl).trans s_nil
  have c3 : ev C [some (lI l), none, some (.str s), some (tI' (red l)), none] (retE (nthS 3 f__law_right.body)) st = .ok (.bl false) st := by
    have a := e_cmp (op := .NotEq) (eqs_t (C := C) (st := st) (r := red l) (by omega) (some (lI l)) none (some (.str s)) none) (e_lst es_nil (by simp)) (ne_l ((eqs (red l)).map fun (x : Nat) => (x : Int)) [])
    rw [nb_eqs (red_rd l).2] at a
    exact a
  have k3 : exec C WW (nthS 3 f__law_right.body) [some (lI l), none, some (.str s), some (tI' (red l)), none] st = .nxt [some (lI l), none, some (.str s), some (tI' (red l)), none] st := (x_iffF c3 rfl).trans s_nil
  have c4 : ev C [some (lI l), none, some (.str s), some (tI' (red l)), none] (retE (nthS 4 f__law_right.body)) st = .ok (.bl false) st := by
    have a := ct _ [some (lI l), none, some (.str s), some (tI' (red l)), none] l.reverse (by simp; omega) (tol _ _ l.reverse (bk (.var 0) _ l hl (e_var rfl)))
    have b := e_revT (C := C) (st := st) (S := [some (lI l), none, some (.str s), some (tI' (red l)), none]) (a := .var 3) (e_var rfl)
    rw [rev_t, ← red_rev] at b
    have c := e_cmp (op := .NotEq) a b (ne_t _ _)
    rw [decide_eq_true rfl] at c
    exact c
  have k4 : exec C WW (nthS 4 f__law_right.body) [some (lI l), none, some (.str s), some (tI' (red l)), none] st = .nxt [some (lI l), none, some (.str s), some (tI' (red l)), none] st := (x_iffF c4 rfl).trans s_nil
  have s3 : ev C [some (lI l), none, some (.str s), some (tI' (red l)), none] (.slc (.var 0) .gap (.con (.int 3))) st = .ok (lI (l.take 3)) st := by
    refine e_slc (x := lI l) (l := none) (h := some 3) (e_var rfl) rfl ?_ ?_
    · show (ev C [some (lI l), none, some (.str s), some (tI' (red l)), none] (.con (.int 3)) st).bind intR = _
      rw [e_con]
      rfl
    · show some (D.lst (cutD (l.map D.int) none (some ((3 : Nat) : Int)))) = _
      rw [cut_to, ← List.map_take]
  have e5 : ev C [some (lI l), none, some (.str s), some (tI' (red l)), none] (retE (nthS 5 f__law_right.body)) st = .ok (lI (l.take 3 ++ (l.take 3).reverse)) st := by
    have b := e_revL s3
    rw [rev_l] at b
    refine e_bin s3 b ?_
    show binD .Add (D.lst ((l.take 3).map D.int)) (D.lst ((l.take 3).reverse.map D.int)) = _
    rw [cat_eq, if_pos (by simp; omega), ← List.map_append]
  have k5 : exec C WW (nthS 5 f__law_right.body) [some (lI l), none, some (.str s), some (tI' (red l)), none] st = .nxt [some (lI l), some (lI (l.take 3 ++ (l.take 3).reverse)), some (.str s), some (tI' (red l)), none] st := x_set e5
  have e6 : ev C [some (lI l), some (lI (l.take 3 ++ (l.take 3).reverse)), some (.str s), some (tI' (red l)), none] (retE (nthS 6 f__law_right.body)) st = .ok (.bl true) st := by
    have a := e_cmp (op := .Eq) (ct _ [some (lI l), some (lI (l.take 3 ++ (l.take 3).reverse)), some (.str s), some (tI' (red l)), none] (l.take 3 ++ (l.take 3).reverse) (by simp; omega) (e_var (i := 1) rfl)) (e_tup es_nil (by simp)) (eq_t _ [])
    rw [red_back, decide_eq_true rfl] at a
    refine (e_andT a rfl).trans ?_
    have b := e_cmp (op := .Eq) (bk _ [some (lI l), some (lI (l.take 3 ++ (l.take 3).reverse)), some (.str s), some (tI' (red l)), none] l.reverse (by simp; omega) (tol _ _ l.reverse (bk (.var 0) _ l hl (e_var rfl)))) (e_blt (bi := .tuple) (z := tI' l) (es_cons (e_var (i := 0) (d := lI l) rfl) es_nil) rfl) (eq_t _ _)
    rw [List.reverse_reverse, decide_eq_true rfl] at b
    refine (e_andT b rfl).trans ?_
    exact e_cmp (x := .str s) (y := .str s) (e_blt (es_cons (e_var rfl) es_nil) es) (e_var rfl) (eq_str s os)
  exact run_ret (S0 := [some (lI l), none, none, none, none]) ((s_nxt k0).trans ((s_nxt k1).trans ((s_nxt k2).trans ((s_nxt k3).trans ((s_nxt k4).trans ((s_nxt k5).trans (s_ret (x_ret e6)))))))) rfl
end
end DI.Law

set_option Elab.async false
set_option linter.all false
set_option maxRecDepth 100000
set_option maxHeartbeats 1000000
/-! rows that are drawn -/
namespace DI.Law
open PySem L2 DI FR
section
variable {C : Calls} {st : Store}
abbrev rowF : IS := nthS 1 f__law_row.body
theorem cut_int (f : List Int) (lo hi : Option Int) : ∃ t : List Int, cutD (f.map D.int) lo hi = t.map D.int ∧ (∀ x ∈ t, x ∈ f) ∧ t.length ≤ f.length := by
  refine ⟨(f.drop (HT.sIx (f.map D.int).length 0 lo)).take (HT.sIx (f.map D.int).length (f.map D.int).length hi - HT.sIx (f.map D.int).length 0 lo), ?_, fun x hx => List.mem_of_mem_drop (List.mem_of_mem_take hx), ?_⟩
  · rw [List.map_take, List.map_drop]
    rfl
  · simp
    omega
theorem idx_val {l : List Int} {k : Nat} (h : k < l.length) : ∃ x ∈ l, idxD (lI l) (.int k) = some (.int x) := by
  refine ⟨l[k], List.getElem_mem h, ?_⟩
  show atI (l.map D.int) (k : Int) = _
  rw [atI_nat, List.getElem?_map, List.getElem?_eq_getElem h]
  rfl
theorem val_small {x : Nat} (h : x < 16) : (x : Int) ∈ vals := List.mem_cons_of_mem _ (List.mem_cons_of_mem _ (List.mem_map.mpr ⟨x, List.mem_range.mpr h, rfl⟩))
theorem row_turn (hd : Drw C) {B : Int} (hB : B + 100 < 2 ^ 40) (h : DrSt B st) {f : List Int} (hf : Val f) (hl : f.length ≤ 100) (k : Nat) (x3 : Option D) :
    ∃ x y st', execs C WW (bodS rowF) [some (.obj 0), some (lI f), some (.int k), x3] st = .nxt [some (.obj 0), some (lI (f ++ [x])), some (.int k), some (.int y)] st' ∧ x ∈ vals ∧ DrSt (B + 4) st' := by
  obtain ⟨v1, s1, d1, h1, g1⟩ := drw_nat hd 3 (by omega) h (by decide) (by decide)
  obtain ⟨v2, s2, d2, h2, g2⟩ := drw_nat hd 16 (by omega) g1 (by decide) (by decide)
  obtain ⟨v3, s3, d3, h3, g3⟩ := drw_nat hd 4 (by omega) g2 (by decide) (by decide)
  obtain ⟨t, ht, hts, htl⟩ := cut_int f (some (-2)) none
  obtain ⟨v4, s4, d4, h4, g4⟩ := drw_nat hd (2 + t.length) (by omega) g3 (by omega) (by omega)
  let S0 : Env := [some (.obj 0), some (lI f), some (.int k), x3]
  have e1 : ev C S0 (.cal 7 "_law_draw" (.cons (.var 0) (.cons (.con (.int 3)) .nil))) st = .ok (.int v1) s1 := e_draw rfl e_con d1
  have e2 : ev C S0 (.cal 7 "_law_draw" (.cons (.var 0) (.cons (.con (.int 16)) .nil))) s1 = .ok (.int v2) s2 := e_draw rfl e_con d2
  have e3 : ev C S0 (.cal 7 "_law_draw" (.cons (.var 0) (.cons (.con (.int 4)) .nil))) s2 = .ok (.int v3) s3 := e_draw rfl e_con d3
  have pw : ev C S0 (.bin .Pow (.con (.int 10)) (.con (.int 30))) s1 = .ok (.int (10 ^ 30)) s1 := e_bin e_con e_con (by
    show binD .Pow (.int 10) (.int 30) = _
    rw [pow_eq, if_pos (by decide)]
    rfl)
  have el : ev C S0 (.lst (.cons (.cal 7 "_law_draw" (.cons (.var 0) (.cons (.con (.int 3)) .nil))) (.cons (.bin .Sub (.con (.int 0)) (.con (.int 1))) (.cons (.bin .Pow (.con (.int 10)) (.con (.int 30))) (.cons (.cal 7 "_law_draw" (.cons (.var 0) (.cons (.con (.int 16)) .nil))) .nil))))) st = .ok (lI [(v1 : Int), -1, 10 ^ 30, (v2 : Int)]) s2 :=
    e_lst (es_cons e1 (es_cons (e_bin e_con e_con (sub_eq _ _)) (es_cons pw (es_cons e2 es_nil)))) (by simp)
  obtain ⟨y, hy, iy⟩ := idx_val (l := [(v1 : Int), -1, 10 ^ 30, (v2 : Int)]) (k := v3) (by simpa using h3)
  have vy : y ∈ vals := by
    simp only [List.mem_cons, List.not_mem_nil, or_false] at hy
    rcases hy with rfl | rfl | rfl | rfl
    · exact val_small (by omega)
    · exact List.mem_cons_of_mem _ List.mem_cons_self
    · exact List.mem_cons_self
    · exact val_small h2
  have k0 : exec C WW (nthS 0 (bodS rowF)) S0 st = .nxt [some (.obj 0), some (lI f), some (.int k), some (.int y)] s3 := x_set (e_idx (x := lI [(v1 : Int), -1, 10 ^ 30, (v2 : Int)]) (y := .int v3) el e3 iy)
  let S1 : Env := [some (.obj 0), some (lI f), some (.int k), some (.int y)]
  have sl : ev C S1 (.slc (.var 1) (.neg (.con (.int 2))) .gap) s3 = .ok (lI t) s3 := by
    refine e_slc (x := lI f) (l := some (-2)) (h := none) (e_var rfl) ?_ rfl ?_
    · show (ev C S1 (.neg (.con (.int 2))) s3).bind intR = _
      rw [e_neg (n := 2) e_con]
      rfl
    · show some (D.lst (cutD (f.map D.int) (some (-2)) none)) = _
      rw [ht]
  have ea : ev C S1 (.bin .Add (.lst (.cons (.var 3) (.cons (.var 3) .nil))) (.slc (.var 1) (.neg (.con (.int 2))) .gap)) s3 = .ok (lI ([y, y] ++ t)) s3 := by
    refine e_bin (e_lst (es_cons (e_var rfl) (es_cons (e_var rfl) es_nil)) (by simp)) sl ?_
    show binD .Add (D.lst ([y, y].map D.int)) (D.lst (t.map D.int)) = _
    rw [cat_eq, if_pos (by simp; omega), ← List.map_append]
  have et : ev C S1 (.bin .Add (.con (.int 2)) (.blt .len (.cons (.slc (.var 1) (.neg (.con (.int 2))) .gap) .nil))) s3 = .ok (.int (2 + t.length : Nat)) s3 := e_bin (x := .int (2 : Nat)) e_con (e_blt (es_cons sl es_nil) (len_l t)) (add_nn 2 t.length)
  obtain ⟨x, hx, ix⟩ := idx_val (l := [y, y] ++ t) (k := v4) (by simp; omega)
  have vx : x ∈ vals := by
    rcases List.mem_append.mp hx with q | q
    · simp only [List.mem_cons, List.not_mem_nil, or_false, or_self] at q
      rw [q]; exact vy
    · exact hf x (hts x q)
  have k1 := x_app (C := C) (st := s3) (W := WW) (i := 1) (l := f.map D.int) (S := S1) rfl (e_idx (x := lI ([y, y] ++ t)) (y := .int v4) ea (e_draw rfl et d4) ix) (by rw [List.length_map]; omega)
  have ec : f.map D.int ++ [D.int x] = (f ++ [x]).map D.int := by simp
  rw [ec] at k1
  refine ⟨x, y, s4, (s_nxt k0).trans ((s_nxt k1).trans s_nil), vx, ?_⟩
  have e : B + 1 + 1 + 1 + 1 = B + 4 := by omega
  rw [← e]
  exact g4
def Row (C : Calls) : Prop := ∀ (B : Int) (st : Store), B + 1000 < 2 ^ 40 → DrSt B st → ∃ l st', C 35 [.obj 0] st = .ok (lI l) st' ∧ Val l ∧ l.length ≤ 6 ∧ DrSt (B + 50) st'
theorem r_row (hd : Drw C) {B : Int} (hB : B + 1000 < 2 ^ 40) (h : DrSt B st) : ∃ l st', runF C WW f__law_row [.obj 0] st = .ok (lI l) st' ∧ Val l ∧ l.length ≤ 6 ∧ DrSt (B + 50) st' := by
  obtain ⟨v, s1, d1, h1, g1⟩ := drw_nat hd 7 (by omega) h (by decide) (by decide)
  have k0 : exec C WW (nthS 0 f__law_row.body) [some (.obj 0), none, none, none] st = .nxt [some (.obj 0), some (lI []), none, none] st := x_seto (e_lst es_nil (by simp)) rfl
  have z : exec C WW rowF [some (.obj 0), some (lI []), none, none] st = _ := x_frr (i_range (n := v) (e_draw rfl e_con d1) (by omega))
  obtain ⟨S', st', e, f, y2, y3, eS, vf, lf, gf⟩ := for_range (b := fun x S st => (asg C (tgtS rowF) x S st).out fun S st => execs C WW (bodS rowF) S st)
    (fun k S' st' => ∃ f y2 y3, S' = [some (.obj 0), some (lI f), y2, y3] ∧ Val f ∧ f.length = k ∧ DrSt (B + 1 + 4 * (k : Int)) st') v (S := [some (.obj 0), some (lI []), none, none]) (st := s1) ⟨[], none, none, rfl, fun x hx => (by cases hx), rfl, by simpa using g1⟩ fun k S' st' hk ⟨f, y2, y3, eS, vf, lf, gf⟩ => by
      subst eS
      obtain ⟨x, y, s', e, vx, g⟩ := row_turn (C := C) hd (by omega) gf vf (by omega) k y3
      refine ⟨_, s', ?_, f ++ [x], some (.int k), some (.int y), rfl, fun z hz => ?_, by simp [lf], ?_⟩
      · have a0 : asg C (tgtS rowF) (.int k) [some (.obj 0), some (lI f), y2, y3] st' = .ok [some (.obj 0), some (lI f), some (.int k), y3] st' := a_nam
        rw [a0, out_ok]
        exact e
      · rcases List.mem_append.mp hz with q | q
        · exact vf z q
        · rw [List.mem_singleton.mp q]; exact vx
      · exact g.mono (by omega)
  subst eS
  exact ⟨f, st', run_ret (S0 := [some (.obj 0), none, none, none]) ((s_nxt k0).trans ((s_nxt (z.trans e)).trans (s_frz.trans (s_ret (x_ret (e_var rfl)))))) rfl, vf, by omega, gf.mono (by omega)⟩
end
end DI.Law

set_option Elab.async false
set_option linter.all false
set_option maxRecDepth 100000
set_option maxHeartbeats 1000000
/-! draws leave the rest of the store -/
namespace DI.Law
open PySem L2 DI FR
structure DrR (R : Store) (B : Int) (st : Store) : Prop where
  ex : ∃ (cells great : List Int) (spot : Int), st = .dic false mK [lI cells, .obj 1, .int spot] :: .lst (great.map .int) :: R ∧ cells.length = 64 ∧ (∀ x ∈ cells, 0 ≤ x ∧ x < 2 ^ 32) ∧ 0 ≤ spot ∧ spot ≤ B
theorem DrSt.rest {B : Int} {st : Store} (h : DrSt B st) : ∃ R, DrR R B st := by
  obtain ⟨c, g, s, r, e1, e2, e3, e4, e5⟩ := h.ex
  exact ⟨r, c, g, s, e1, e2, e3, e4, e5⟩
theorem DrR.st {R : Store} {B : Int} {st : Store} (h : DrR R B st) : DrSt B st := by
  obtain ⟨c, g, s, e1, e2, e3, e4, e5⟩ := h.ex
  exact ⟨c, g, s, R, e1, e2, e3, e4, e5⟩
theorem DrR.mono {R : Store} {B B' : Int} {st : Store} (h : DrR R B st) (hb : B ≤ B') : DrR R B' st := by
  obtain ⟨c, g, s, e1, e2, e3, e4, e5⟩ := h.ex
  exact ⟨c, g, s, e1, e2, e3, e4, by omega⟩
theorem DrR.app {R : Store} {B : Int} {st : Store} (h : DrR R B st) (ext : Store) : DrR (R ++ ext) B (st ++ ext) := by
  obtain ⟨c, g, s, rfl, e2, e3, e4, e5⟩ := h.ex
  exact ⟨c, g, s, rfl, e2, e3, e4, e5⟩
theorem DrR.len {R : Store} {B : Int} {st : Store} (h : DrR R B st) : st.length = R.length + 2 := by
  obtain ⟨c, g, s, rfl, e2, e3, e4, e5⟩ := h.ex
  rfl
theorem DrR.net {R : Store} {B B' : Int} {st st' : Store} {i n : Nat} {ps : Ed} (h : DrR R B st) (h' : DrR R B' st') (hi : 2 ≤ i) (q : NetAt st i n ps) : NetAt st' i n ps := by
  obtain ⟨c, g, s, rfl, _⟩ := h.ex
  obtain ⟨c', g', s', rfl, _⟩ := h'.ex
  obtain ⟨j, rfl⟩ : ∃ j, i = j + 2 := ⟨i - 2, by omega⟩
  unfold NetAt at *
  exact q
def DrwR (C : Calls) : Prop := ∀ (R : Store) (B : Int) (st : Store) (top : Int), B < 2 ^ 40 → DrR R B st → 0 < top → top ≤ 1000 → ∃ (v : Int) (st' : Store), C 7 [.obj 0, .int top] st = .ok (.int v) st' ∧ 0 ≤ v ∧ v < top ∧ DrR R (B + 1) st'
def MixR (C : Calls) : Prop := ∀ (R : Store) (B : Int) (st : Store) (things : List D), things.length ≤ 900 → B + 2000 < 2 ^ 40 → DrR R B st → ∃ q st', C 9 [.obj 0, .lst things] st = .ok (.lst q) st' ∧ q.Perm things ∧ DrR R (B + things.length) st'
section
variable {C : Calls} {st : Store}
theorem drw_natR (hd : DrwR C) {B : Int} {R st : Store} (top : Nat) (hB : B < 2 ^ 40) (h : DrR R B st) (h0 : 0 < top) (h1 : top ≤ 1000) : ∃ (v : Nat) (st' : Store), C 7 [.obj 0, .int top] st = .ok (.int v) st' ∧ v < top ∧ DrR R (B + 1) st' := by
  obtain ⟨v, st', e, v0, v1, d⟩ := hd R B st top hB h (by omega) (by omega)
  obtain ⟨u, rfl⟩ : ∃ u : Nat, v = u := ⟨v.toNat, by omega⟩
  exact ⟨u, st', e, by omega, d⟩
theorem r_drawR (hm : ∀ c n : Int, 0 ≤ c ∧ c < 2 ^ 60 → 0 ≤ n ∧ n < 2 ^ 50 → ∃ v : Int, 0 ≤ v ∧ v < 2 ^ 32 ∧ ∀ st, C 5 [.int c, .int n] st = .ok (.int v) st) {B : Int} (hB : B < 2 ^ 40) {R : Store} (h : DrR R B st) {top : Int} (ht : 0 < top) (ht2 : top ≤ 1000) :
    ∃ (v : Int) (st' : Store), runF C WW f__law_draw [.obj 0, .int top] st = .ok (.int v) st' ∧ 0 ≤ v ∧ v < top ∧ DrR R (B + 1) st' := by
  obtain ⟨cells, great, spot, rfl, hc64, hcr, hs0, hsB⟩ := h.ex
  let st1 : Store := .dic false mK [lI cells, .obj 1, .int (spot + 1)] :: .lst (great.map .int) :: R
  show ∃ (v : Int) (st' : Store), outR (execs C WW f__law_draw.body [some (.obj 0), some (.int top), none, none, none] _) = .ok (.int v) st' ∧ _
  have e1 : exec C WW (.set 2 (.idx (.var 0) (.con (.str "spot")))) [some (.obj 0), some (.int top), none, none, none] (.dic false mK [lI cells, .obj 1, .int spot] :: .lst (great.map .int) :: R) = .nxt [some (.obj 0), some (.int top), some (.int spot), none, none] (.dic false mK [lI cells, .obj 1, .int spot] :: .lst (great.map .int) :: R) :=
    x_set (e_idx (e_var rfl) e_con rfl)
  have e2 : exec C WW (.sto (.var 0) (.con (.str "spot")) (.bin .Add (.var 2) (.con (.int 1)))) [some (.obj 0), some (.int top), some (.int spot), none, none] (.dic false mK [lI cells, .obj 1, .int spot] :: .lst (great.map .int) :: R) = .nxt [some (.obj 0), some (.int top), some (.int spot), none, none] st1 :=
    x_sto (n := 0) (y := .dic false mK [lI cells, .obj 1, .int (spot + 1)]) (cl := .dic false mK [lI cells, .obj 1, .int (spot + 1)]) (e_bin (e_var rfl) e_con (add_eq _ _)) (e_var rfl) e_con rfl rfl
  have dr1 : DrR R (B + 1) st1 := ⟨cells, great, spot + 1, rfl, hc64, hcr, by omega, by omega⟩
  -- the last row
  obtain ⟨c0, hc0, ec0⟩ := atI_in (l := cells) (i := spot.fmod 64) (fmod_in spot (by decide)).1 (by have := (fmod_in spot (j := 64) (by decide)).2; omega)
  have hd := fdiv_in (i := spot) (j := 64) hs0 (by decide)
  have hc0' := hcr c0 hc0
  obtain ⟨v1, v1a, v1b, v1e⟩ := hm (c0 + 31 * spot.fdiv 64) spot (by omega) (by omega)
  obtain ⟨v2, v2a, v2b, v2e⟩ := hm v1 (spot + 7) (by omega) (by omega)
  have last : ∀ o3 o4 : Option D, exec C WW (.ret (.bin .Mod (.cal 5 "_law_mixed" (.cons (.cal 5 "_law_mixed" (.cons (.bin .Add (.idx (.idx (.var 0) (.con (.str "cells"))) (.bin .Mod (.var 2) (.con (.int 64)))) (.bin .Mult (.con (.int 31)) (.bin .FloorDiv (.var 2) (.con (.int 64))))) (.cons (.var 2) .nil))) (.cons (.bin .Add (.var 2) (.con (.int 7))) .nil))) (.var 1)))
      [some (.obj 0), some (.int top), some (.int spot), o3, o4] st1 = .ret (.int (v2.fmod top)) st1 := by
    intro o3 o4
    have q1 : ev C [some (.obj 0), some (.int top), some (.int spot), o3, o4] (.idx (.idx (.var 0) (.con (.str "cells"))) (.bin .Mod (.var 2) (.con (.int 64)))) st1 = .ok (.int c0) st1 := e_idx (x := lI cells) (e_idx (e_var rfl) e_con rfl) (e_bin (e_var rfl) e_con (mod_eq _ (by decide))) ec0
    have q2 : ev C [some (.obj 0), some (.int top), some (.int spot), o3, o4] (.bin .Mult (.con (.int 31)) (.bin .FloorDiv (.var 2) (.con (.int 64)))) st1 = .ok (.int (31 * spot.fdiv 64)) st1 := e_bin e_con (e_bin (e_var rfl) e_con (div_eq _ (by decide))) (mul_l _ (by omega))
    have q3 : ev C [some (.obj 0), some (.int top), some (.int spot), o3, o4] (.cal 5 "_law_mixed" (.cons (.bin .Add (.idx (.idx (.var 0) (.con (.str "cells"))) (.bin .Mod (.var 2) (.con (.int 64)))) (.bin .Mult (.con (.int 31)) (.bin .FloorDiv (.var 2) (.con (.int 64))))) (.cons (.var 2) .nil))) st1 = .ok (.int v1) st1 :=
      (e_cal (es_cons (e_bin q1 q2 (add_eq _ _)) (es_cons (e_var rfl) es_nil))).trans (v1e st1)
    have q4 : ev C [some (.obj 0), some (.int top), some (.int spot), o3, o4] (.cal 5 "_law_mixed" (.cons (.cal 5 "_law_mixed" (.cons (.bin .Add (.idx (.idx (.var 0) (.con (.str "cells"))) (.bin .Mod (.var 2) (.con (.int 64)))) (.bin .Mult (.con (.int 31)) (.bin .FloorDiv (.var 2) (.con (.int 64))))) (.cons (.var 2) .nil))) (.cons (.bin .Add (.var 2) (.con (.int 7))) .nil))) st1 = .ok (.int v2) st1 :=
      (e_cal (es_cons q3 (es_cons (e_bin (e_var rfl) e_con (add_eq _ _)) es_nil))).trans (v2e st1)
    exact x_ret (e_bin q4 (e_var rfl) (mod_eq _ (by omega)))
  have fin := fmod_in v2 ht
  have ecg : ev C [some (.obj 0), some (.int top), some (.int spot), none, none] (.cmp .NotEq (.idx (.var 0) (.con (.str "great"))) (.lst .nil)) st1 = .ok (.bl (!decide (great = []))) st1 := by
    refine e_cmp (x := .obj 1) (e_idx (e_var rfl) e_con rfl) (e_lst es_nil (by decide)) ?_
    show (eqD (lI great) (lI [])).map not = _
    rw [eqD_l]
    rfl
  by_cases hg : great = []
  · have e3 := x_iffF (W := WW) (p := .cons (.set 3 (.bin .Mod (.var 2) (.blt .len (.cons (.idx (.var 0) (.con (.str "great"))) .nil)))) (.cons (.set 4 (.idx (.idx (.var 0) (.con (.str "great"))) (.var 3))) (.cons (.iff (.cmp .Gt (.var 4) (.con (.int 0))) (.cons (.sto (.idx (.var 0) (.con (.str "great"))) (.var 3) (.bin .FloorDiv (.var 4) (.var 1))) (.cons (.ret (.bin .Mod (.var 4) (.var 1))) .nil)) .nil) .nil))) (q := .nil) ecg (by rw [decide_eq_true hg]; rfl)
    refine ⟨v2.fmod top, st1, ?_, fin.1, fin.2, dr1⟩
    have z := (s_nxt (r := _) e1).trans ((s_nxt (r := _) e2).trans ((s_nxt (r := _) (e3.trans s_nil)).trans (s_ret (r := .nil) (last none none))))
    rw [show execs C WW f__law_draw.body _ _ = _ from z]
    rfl
  · have hgl : 0 < (great.length : Int) := by
      cases great with
      | nil => exact absurd rfl hg
      | cons _ _ => simp
    obtain ⟨g, hgm, eg⟩ := atI_in (l := great) (i := spot.fmod great.length) (fmod_in spot hgl).1 (fmod_in spot hgl).2
    have e3 := x_iffT (W := WW) (p := .cons (.set 3 (.bin .Mod (.var 2) (.blt .len (.cons (.idx (.var 0) (.con (.str "great"))) .nil)))) (.cons (.set 4 (.idx (.idx (.var 0) (.con (.str "great"))) (.var 3))) (.cons (.iff (.cmp .Gt (.var 4) (.con (.int 0))) (.cons (.sto (.idx (.var 0) (.con (.str "great"))) (.var 3) (.bin .FloorDiv (.var 4) (.var 1))) (.cons (.ret (.bin .Mod (.var 4) (.var 1))) .nil)) .nil) .nil))) (q := .nil) ecg (by rw [decide_eq_false hg]; rfl)
    have el : bltD .len [lI great] = some (.int great.length) := by simp [bltD]
    have e4 : exec C WW (.set 3 (.bin .Mod (.var 2) (.blt .len (.cons (.idx (.var 0) (.con (.str "great"))) .nil)))) [some (.obj 0), some (.int top), some (.int spot), none, none] st1 = .nxt [some (.obj 0), some (.int top), some (.int spot), some (.int (spot.fmod great.length)), none] st1 :=
      x_set (e_bin (e_var rfl) (e_blt (es_cons (x := .obj 1) (e_idx (e_var rfl) e_con rfl) es_nil) el) (mod_eq _ (by omega)))
    have e5 : exec C WW (.set 4 (.idx (.idx (.var 0) (.con (.str "great"))) (.var 3))) [some (.obj 0), some (.int top), some (.int spot), some (.int (spot.fmod great.length)), none] st1 = .nxt [some (.obj 0), some (.int top), some (.int spot), some (.int (spot.fmod great.length)), some (.int g)] st1 :=
      x_set (e_idx (x := .obj 1) (e_idx (e_var rfl) e_con rfl) (e_var rfl) eg)
    have ec2 : ev C [some (.obj 0), some (.int top), some (.int spot), some (.int (spot.fmod great.length)), some (.int g)] (.cmp .Gt (.var 4) (.con (.int 0))) st1 = .ok (.bl (decide (0 < g))) st1 := e_cmp (e_var rfl) e_con rfl
    by_cases hg0 : 0 < g
    · let st2 : Store := .dic false mK [lI cells, .obj 1, .int (spot + 1)] :: .lst ((great.set (spot.fmod great.length).toNat (g.fdiv top)).map .int) :: R
      have hi := fmod_in spot hgl
      have ep : putD (lI great) (.int (spot.fmod great.length)) (.int (g.fdiv top)) = some (lI (great.set (spot.fmod great.length).toNat (g.fdiv top))) := by
        rw [put_eq]
        have q : ixN (great.map D.int).length (spot.fmod great.length) = some (spot.fmod great.length).toNat := by
          unfold ixN
          rw [if_pos hi.1, if_pos (by simpa using hi.2)]
        rw [q]
        show some (D.lst _) = some (D.lst _)
        rw [List.map_set]
      have e6 : exec C WW (.sto (.idx (.var 0) (.con (.str "great"))) (.var 3) (.bin .FloorDiv (.var 4) (.var 1))) [some (.obj 0), some (.int top), some (.int spot), some (.int (spot.fmod great.length)), some (.int g)] st1 = .nxt [some (.obj 0), some (.int top), some (.int spot), some (.int (spot.fmod great.length)), some (.int g)] st2 :=
        x_sto (n := 1) (cl := .lst ((great.set (spot.fmod great.length).toNat (g.fdiv top)).map .int)) (e_bin (e_var rfl) (e_var rfl) (div_eq _ (by omega))) (e_idx (e_var rfl) e_con rfl) (e_var rfl) ep rfl
      have e7 : exec C WW (.ret (.bin .Mod (.var 4) (.var 1))) [some (.obj 0), some (.int top), some (.int spot), some (.int (spot.fmod great.length)), some (.int g)] st2 = .ret (.int (g.fmod top)) st2 := x_ret (e_bin (e_var rfl) (e_var rfl) (mod_eq _ (by omega)))
      have e8 := x_iffT (W := WW) (p := .cons (.sto (.idx (.var 0) (.con (.str "great"))) (.var 3) (.bin .FloorDiv (.var 4) (.var 1))) (.cons (.ret (.bin .Mod (.var 4) (.var 1))) .nil)) (q := .nil) ec2 (by rw [decide_eq_true hg0]; rfl)
      have e9 := e8.trans ((s_nxt (r := .cons (.ret (.bin .Mod (.var 4) (.var 1))) .nil) e6).trans (s_ret (r := .nil) e7))
      have e10 := e3.trans ((s_nxt (r := _) e4).trans ((s_nxt (r := _) e5).trans (s_ret (r := .nil) e9)))
      have ff := fmod_in g ht
      refine ⟨g.fmod top, st2, ?_, ff.1, ff.2, ⟨cells, _, spot + 1, rfl, hc64, hcr, by omega, by omega⟩⟩
      have z : execs C WW f__law_draw.body [some (.obj 0), some (.int top), none, none, none] (.dic false mK [lI cells, .obj 1, .int spot] :: .lst (great.map .int) :: R) = .ret (.int (g.fmod top)) st2 := (s_nxt e1).trans ((s_nxt e2).trans (s_ret e10))
      rw [z]
      rfl
    · have e8 := x_iffF (W := WW) (p := .cons (.sto (.idx (.var 0) (.con (.str "great"))) (.var 3) (.bin .FloorDiv (.var 4) (.var 1))) (.cons (.ret (.bin .Mod (.var 4) (.var 1))) .nil)) (q := .nil) ec2 (by rw [decide_eq_false hg0]; rfl)
      have e10 := e3.trans ((s_nxt (r := _) e4).trans ((s_nxt (r := _) e5).trans ((s_nxt (r := .nil) (e8.trans s_nil)).trans s_nil)))
      refine ⟨v2.fmod top, st1, ?_, fin.1, fin.2, dr1⟩
      have z := (s_nxt (r := _) e1).trans ((s_nxt (r := _) e2).trans ((s_nxt (r := _) e10).trans (s_ret (r := .nil) (last _ _))))
      rw [show execs C WW f__law_draw.body _ _ = _ from z]
      rfl
theorem r_mixed_upR (hd : DrwR C) {B : Int} {things : List D} (hl : things.length ≤ 900) (hB : B + 2000 < 2 ^ 40) {R : Store} (h : DrR R B st) :
    ∃ q st', runF C WW f__law_mixed_up [.obj 0, .lst things] st = .ok (.lst q) st' ∧ q.Perm things ∧ DrR R (B + things.length) st' := by
  show ∃ q st', outR (execs C WW f__law_mixed_up.body [some (.obj 0), some (.lst things), none, none, none] st) = .ok (.lst q) st' ∧ _
  have e1 : exec C WW (.par [(3, true), (4, true)] (.cons (.blt .list (.cons (.var 1) .nil)) (.cons (.lst .nil) .nil))) [some (.obj 0), some (.lst things), none, none, none] st = .nxt [some (.obj 0), some (.lst things), none, some (.lst things), some (.lst [])] st :=
    x_par (es_cons (e_blt (es_cons (e_var rfl) es_nil) (x_listD things)) (es_cons (e_lst es_nil (by decide)) es_nil)) rfl
  obtain ⟨S2, st2, e2, o2, stock, found, rfl, hp, hlen, hdr⟩ : ∃ S' st', exec C WW (.frr (.nam 2) (.rng (.cons (.blt .len (.cons (.var 3) .nil)) .nil)) mBody []) [some (.obj 0), some (.lst things), none, some (.lst things), some (.lst [])] st = .nxt S' st' ∧
      ∃ o2 stock found, S' = [some (.obj 0), some (.lst things), o2, some (.lst stock), some (.lst found)] ∧ (found ++ stock).Perm things ∧ stock.length + things.length = things.length ∧ DrR R (B + things.length) st' := by
    rw [x_frr (i_range (e_blt (es_cons (e_var rfl) es_nil) (len_lst things)) (by omega))]
    refine for_range (fun k S' st' => ∃ o2 stock found, S' = [some (.obj 0), some (.lst things), o2, some (.lst stock), some (.lst found)] ∧ (found ++ stock).Perm things ∧ stock.length + k = things.length ∧ DrR R (B + k) st') things.length
      ⟨none, things, [], rfl, by simp, by simp, by simpa using h⟩ fun k S' st' hk ⟨o2, stock, found, eS, hperm, hsl, hdr⟩ => by
        subst eS
        have hs0 : 0 < stock.length := by omega
        obtain ⟨v, st1, ev1, v0, v1, dr1⟩ := hd R (B + k) st' stock.length (by omega) hdr (by omega) (by omega)
        have hvn : v.toNat < stock.length := by omega
        have hfl : found.length ≤ 900 := by
          have := hperm.length_eq
          simp at this
          omega
        refine ⟨[some (.obj 0), some (.lst things), some (.int k), some (.lst (stock.eraseIdx v.toNat)), some (.lst (found ++ [stock[v.toNat]]))], st1, ?_, _, stock.eraseIdx v.toNat, found ++ [stock[v.toNat]], rfl, ?_, ?_, ?_⟩
        · rw [a_nam]
          show execs C WW mBody [some (.obj 0), some (.lst things), some (.int k), some (.lst stock), some (.lst found)] st' = _
          have k1 : exec C WW (.apo 4 3 (.cal 7 "_law_draw" (.cons (.var 0) (.cons (.blt .len (.cons (.var 3) .nil)) .nil)))) [some (.obj 0), some (.lst things), some (.int k), some (.lst stock), some (.lst found)] st' = _ :=
            x_apo (W := WW) rfl rfl ((e_cal (es_cons (e_var rfl) (es_cons (e_blt (es_cons (e_var rfl) es_nil) (len_lst stock)) es_nil))).trans ev1) ⟨by omega, by omega, by omega, by decide⟩ (seqIndex_of v0 v1) (List.getElem?_eq_getElem hvn)
          rw [s_nxt k1, s_nil]
          rfl
        · rw [List.append_assoc]
          exact ((erase_perm stock v.toNat hvn).append_left found).trans hperm
        · rw [List.length_eraseIdx_of_lt hvn]
          omega
        · have e : B + ((k + 1 : Nat) : Int) = B + (k : Int) + 1 := by omega
          rw [e]
          exact dr1
  have hst : stock = [] := List.eq_nil_of_length_eq_zero (by omega)
  subst hst
  rw [List.append_nil] at hp
  have z : execs C WW f__law_mixed_up.body [some (.obj 0), some (.lst things), none, none, none] st = .ret (.lst found) st2 := (s_nxt e1).trans ((s_nxt e2).trans (s_frz.trans (s_ret (x_ret (e_var rfl)))))
  refine ⟨found, st2, ?_, hp, hdr⟩
  rw [z]
  rfl
theorem mix_natR (hm : MixR C) {B : Int} {R : Store} {l : List Nat} (hl : l.length ≤ 900) (hB : B + 2000 < 2 ^ 40) (h : DrR R B st) : ∃ q st', C 9 [.obj 0, lN l] st = .ok (lN q) st' ∧ q.Perm l ∧ DrR R (B + l.length) st' := by
  obtain ⟨q, st', e, hp, hd⟩ := hm R B st (l.map fun (x : Nat) => D.int x) (by simpa using hl) hB h
  obtain ⟨p, rfl, hp2⟩ := perm_map_inv hp l rfl
  rw [List.length_map] at hd
  exact ⟨p, st', by rw [← lN_eq, ← lN_eq]; exact e, hp2, hd⟩
end
end DI.Law

set_option linter.all false
/-! walks, and the way back -/
namespace DI.Law
open FR
def At (ps : Ed) (h a : Nat) : Prop := a < ps.length ∧ (h = (ps.getD a (0, 0)).1 ∨ h = (ps.getD a (0, 0)).2)
def OkR (ps : Ed) : Nat → List Nat → Prop
  | _, [] => True
  | h, a :: r => At ps h a ∧ OkR ps (farP ps h a) r
def far' (ps : Ed) (h : Nat) (r : List Nat) : Nat := r.foldl (farP ps) h
def swp (t : List Nat) (a : Nat) : List Nat := (t.set a (t.getD (t.length - 1) 0)).set (t.length - 1) (t.getD a 0)
abbrev Stt := Nat × List Nat
def mv (ps : Ed) (s : Stt) (a : Nat) : Stt := (farP ps s.1 a, swp s.2 a)
def walk (ps : Ed) (s : Stt) (r : List Nat) : Stt := r.foldl (mv ps) s
theorem far_at {ps : Ed} {h a : Nat} (k : At ps h a) : At ps (farP ps h a) a ∧ farP ps (farP ps h a) a = h := by
  obtain ⟨k1, k2⟩ := k
  unfold At farP
  refine ⟨⟨k1, ?_⟩, ?_⟩ <;> rcases k2 with e | e <;> omega
theorem swp_len (t : List Nat) (a : Nat) : (swp t a).length = t.length := by simp [swp]
theorem swp_get (t : List Nat) (a i : Nat) (ha : a + 1 < t.length) (hi : i < t.length) : (swp t a).getD i 0 = if i = t.length - 1 then t.getD a 0 else if i = a then t.getD (t.length - 1) 0 else t.getD i 0 := by
  unfold swp
  simp only [List.getD_eq_getElem?_getD, List.getElem?_set, List.length_set]
  by_cases h1 : i = t.length - 1
  · subst h1; rw [if_pos rfl, if_pos (show t.length - 1 < t.length by omega), if_pos rfl]; rfl
  · rw [if_neg h1, if_neg (fun e => h1 e.symm)]
    by_cases h2 : i = a
    · subst h2; rw [if_pos rfl, if_pos hi, if_pos rfl]; rfl
    · rw [if_neg h2, if_neg (fun e => h2 e.symm)]
theorem ext_getD {l m : List Nat} (h : l.length = m.length) (k : ∀ i, i < l.length → l.getD i 0 = m.getD i 0) : l = m := by
  apply List.ext_getElem h
  intro i h1 h2
  have := k i h1
  rw [List.getD_eq_getElem?_getD, List.getD_eq_getElem?_getD, List.getElem?_eq_getElem h1, List.getElem?_eq_getElem h2] at this
  exact this
theorem swp_swp {t : List Nat} {a : Nat} (ha : a + 1 < t.length) : swp (swp t a) a = t := by
  have hl := swp_len t a
  refine ext_getD (by rw [swp_len, swp_len]) fun i hi => ?_
  rw [swp_len, swp_len] at hi
  rw [swp_get (swp t a) a i (by omega) (by omega), hl]
  by_cases h1 : i = t.length - 1
  · rw [if_pos h1, swp_get t a a ha (by omega), if_neg (by omega), if_pos rfl, h1]
  · rw [if_neg h1]
    by_cases h2 : i = a
    · rw [if_pos h2, swp_get t a (t.length - 1) ha (by omega), if_pos rfl, h2]
    · rw [if_neg h2, swp_get t a i ha hi, if_neg h1, if_neg h2]
theorem mv_mv {ps : Ed} {s : Stt} {a : Nat} (h : At ps s.1 a) (hl : s.2.length = ps.length + 1) : mv ps (mv ps s a) a = s := by
  unfold mv
  exact Prod.ext (far_at h).2 (swp_swp (by have := h.1; omega))
theorem walk_len (ps : Ed) : ∀ (r : List Nat) (s : Stt), (walk ps s r).2.length = s.2.length
  | [], s => rfl
  | a :: r, s => by
    show (walk ps (mv ps s a) r).2.length = _
    rw [walk_len ps r]
    exact swp_len s.2 a
theorem walk_app (ps : Ed) (s : Stt) (r q : List Nat) : walk ps s (r ++ q) = walk ps (walk ps s r) q := List.foldl_append
theorem ok_app {ps : Ed} {q : List Nat} : ∀ {r : List Nat} {h : Nat}, OkR ps h (r ++ q) ↔ OkR ps h r ∧ OkR ps (far' ps h r) q
  | [], h => ⟨fun k => ⟨trivial, k⟩, fun k => k.2⟩
  | a :: r, h => by
    show (At ps h a ∧ OkR ps (farP ps h a) (r ++ q)) ↔ (At ps h a ∧ OkR ps (farP ps h a) r) ∧ OkR ps (far' ps (farP ps h a) r) q
    rw [ok_app, and_assoc]
theorem walk_fst (ps : Ed) : ∀ (r : List Nat) (s : Stt), (walk ps s r).1 = far' ps s.1 r
  | [], _ => rfl
  | a :: r, s => walk_fst ps r (mv ps s a)
/-- a pair of equal steps may go -/
theorem rd_walk {ps : Ed} {l m : List Nat} (h : Rd l m) : ∀ {s : Stt}, s.2.length = ps.length + 1 → OkR ps s.1 l → OkR ps s.1 m ∧ walk ps s l = walk ps s m := by
  induction h with
  | refl => exact fun _ k => ⟨k, rfl⟩
  | @step a b m x _ ih =>
    intro s hs k
    obtain ⟨k1, k2⟩ := ok_app.mp k
    obtain ⟨k3, _, k5⟩ := k2
    rw [(far_at k3).2] at k5
    have e : walk ps s (a ++ x :: x :: b) = walk ps s (a ++ b) := by
      rw [walk_app, walk_app]
      show walk ps (mv ps (mv ps (walk ps s a) x) x) b = _
      rw [mv_mv (by rw [walk_fst]; exact k3) (by rw [walk_len]; exact hs)]
    obtain ⟨i1, i2⟩ := ih hs (ok_app.mpr ⟨k1, k5⟩)
    exact ⟨i1, e.trans i2⟩
/-- the way back -/
theorem walk_back {ps : Ed} : ∀ {r : List Nat} {s : Stt}, s.2.length = ps.length + 1 → OkR ps s.1 r → OkR ps (walk ps s r).1 r.reverse ∧ walk ps (walk ps s r) r.reverse = s
  | [], s, _, _ => ⟨trivial, rfl⟩
  | a :: r, s, hs, k => by
    obtain ⟨k1, k2⟩ := k
    have hs' : (mv ps s a).2.length = ps.length + 1 := by
      rw [← hs]; exact swp_len s.2 a
    obtain ⟨i1, i2⟩ := walk_back (s := mv ps s a) (r := r) hs' k2
    have e : walk ps s (a :: r) = walk ps (mv ps s a) r := rfl
    rw [e, List.reverse_cons]
    refine ⟨ok_app.mpr ⟨i1, ?_⟩, ?_⟩
    · rw [← walk_fst, i2]
      exact ⟨(far_at k1).1, trivial⟩
    · rw [walk_app, i2]
      exact mv_mv k1 hs
theorem ok_take {ps : Ed} {h : Nat} {r : List Nat} (k : OkR ps h r) (n : Nat) : OkR ps h (r.take n) := by
  rw [← List.take_append_drop n r] at k
  exact (ok_app.mp k).1
/-- a walk may turn round and go on -/
theorem ok_turn {ps : Ed} {h a b : Nat} {r : List Nat} (k : OkR ps h (a :: b :: r)) : OkR ps h (a :: b :: b :: b :: r) := by
  obtain ⟨k1, k2, k3⟩ := k
  exact ⟨k1, k2, (far_at k2).1, by rw [(far_at k2).2]; exact ⟨k2, k3⟩⟩
theorem far_lt {n : Nat} {ps : Ed} (hv : Valid n ps) {h a : Nat} (k : At ps h a) : farP ps h a < n := by
  have hm := hv (ps.getD a (0, 0)) (by
    rw [List.getD_eq_getElem?_getD, List.getElem?_eq_getElem k.1]
    exact List.getElem_mem k.1)
  have := k.2
  unfold farP
  rcases this with e | e <;> omega
theorem walk_lt {n : Nat} {ps : Ed} (hv : Valid n ps) : ∀ {r : List Nat} {h : Nat}, h < n → OkR ps h r → far' ps h r < n
  | [], _, hh, _ => hh
  | a :: r, h, _, k => walk_lt hv (r := r) (far_lt hv k.1) k.2
/-- somewhere to go -/
theorem doors_some {n : Nat} {ps : Ed} (hn : 0 < n) (hv : Valid n ps) (hc : Con n ps []) (hp : ps ≠ []) {h : Nat} (hh : h < n) : doorsP ps h ≠ [] := by
  have some_door : ∀ y, adj ps [] y h → doorsP ps h ≠ [] := fun y ⟨i, _, e⟩ q => by
    have : i ∈ doorsP ps h := mem_doors.mpr (by
      rcases e with e | e <;> refine ⟨(List.getElem?_eq_some_iff.mp e).1, ?_⟩ <;> rw [List.getD_eq_getElem?_getD, e]
      · exact .inr rfl
      · exact .inl rfl)
    rw [q] at this
    cases this
  have go : ∀ b, b < n → b ≠ h → doorsP ps h ≠ [] := fun b hb hne => by
    have k : Cn (adj ps []) b h := ((hc b hb).symm adj_symm).trans (hc h hh)
    cases k with
    | refl => exact absurd rfl hne
    | step _ e => exact some_door _ e
  by_cases h1 : n = 1
  · cases ps with
    | nil => exact absurd rfl hp
    | cons p ps =>
      have := hv p List.mem_cons_self
      intro q
      have : 0 ∈ doorsP (p :: ps) h := mem_doors.mpr ⟨by simp, .inl (by show h = p.1; omega)⟩
      rw [q] at this
      cases this
  · by_cases h0 : h = 0
    · exact go 1 (by omega) (by omega)
    · exact go 0 hn (fun e => h0 e.symm)
/-- maps -/
theorem rd_map {A B : Type} [DecidableEq A] [DecidableEq B] (f : A → B) {l m : List A} (h : Rd l m) : Rd (l.map f) (m.map f) := by
  induction h with
  | refl => exact .refl
  | @step a b m x _ ih =>
    rw [List.map_append] at *
    exact .step (f x) ih
theorem nb_map {A B : Type} [DecidableEq A] [DecidableEq B] {f : A → B} (hf : ∀ x y, f x = f y → x = y) : ∀ {l : List A}, Nb l → Nb (l.map f)
  | [], _ => trivial
  | [_], _ => trivial
  | x :: y :: r, h => ⟨fun e => h.1 (hf _ _ e), nb_map hf (l := y :: r) h.2⟩
theorem red_map {A B : Type} [DecidableEq A] [DecidableEq B] {f : A → B} (hf : ∀ x y, f x = f y → x = y) (l : List A) : red (l.map f) = (red l).map f :=
  red_of (rd_map f (red_rd l).1) (nb_map hf (red_rd l).2)
end DI.Law

set_option Elab.async false
set_option linter.all false
set_option maxRecDepth 100000
set_option maxHeartbeats 1000000
/-! the law's own walks -/
namespace DI.Law
open PySem L2 DI FR
abbrev stD (s : Stt) : D := .tup [.int (s.1 : Nat), tN s.2]
section
variable {C : Calls} {st : Store}
theorem ixN_nat {n a : Nat} (h : a < n) : ixN n (a : Int) = some a := by
  unfold ixN
  rw [if_pos (by omega), if_pos (by omega)]
  simp
theorem ixN_last {n : Nat} (h : 0 < n) : ixN n (-1) = some (n - 1) := by
  unfold ixN
  rw [if_neg (by omega), if_pos (by omega)]
  congr 1
  omega
theorem as_sub {j : Nat} {k : IE} {S : Env} {l : List D} {n : Int} {i : Nat} {d : D} (hS : S[j]? = some (some (.lst l))) (hk : ev C S k st = .ok (.int n) st) (hi : ixN l.length n = some i) : asg C (.sub j k) d S st = .ok (S.set j (some (.lst (l.set i d)))) st := by
  rw [asg, hS]
  show R.bind (ev C S k st) _ = _
  rw [hk]
  show (match ixN l.length n with | some j' => _ | none => _) = _
  rw [hi]
theorem last_n {t : List Nat} (h : 0 < t.length) : idxD (lN t) (.int (-1)) = some (.int (t.getD (t.length - 1) 0 : Nat)) := by
  refine last_idx ?_
  rw [List.getLast?_eq_getElem?, List.getElem?_map, List.length_map, List.getElem?_eq_getElem (by omega), List.getD_eq_getElem?_getD, List.getElem?_eq_getElem (by omega)]
  rfl
theorem set_n (t : List Nat) (i x : Nat) : D.lst (((t.map fun (x : Nat) => (x : Int)).map D.int).set i (.int (x : Nat))) = lN (t.set i x) := by
  rw [← List.map_set, ← List.map_set]
theorem swap_step {S : Env} {j q : Nat} {t : List Nat} {a : Nat} (hS : S[j]? = some (some (lN t))) (hq : S[q]? = some (some (.int (a : Nat)))) (hjq : j ≠ q) (ha : a + 1 < t.length) :
    exec C WW (.unt (.cons (.sub j (.var q)) (.cons (.sub j (.neg (.con (.int 1)))) .nil)) (.cons (.idx (.var j) (.neg (.con (.int 1)))) (.cons (.idx (.var j) (.var q)) .nil))) S st = .nxt (S.set j (some (lN (swp t a)))) st := by
  have hj : j < S.length := (List.getElem?_eq_some_iff.mp hS).1
  have a1 := as_sub (C := C) (st := st) (j := j) (k := .var q) (S := S) (d := .int (t.getD (t.length - 1) 0 : Nat)) hS (e_var hq) (ixN_nat (a := a) (by simp; omega))
  rw [set_n] at a1
  have hS1 : (S.set j (some (lN (t.set a (t.getD (t.length - 1) 0)))))[j]? = some (some (lN (t.set a (t.getD (t.length - 1) 0)))) := List.getElem?_set_self hj
  have a2 := as_sub (C := C) (st := st) (j := j) (k := .neg (.con (.int 1))) (d := .int (t.getD a 0 : Nat)) hS1 (e_neg e_con) (ixN_last (by simp; omega))
  rw [set_n, List.set_set, List.length_map, List.length_map, List.length_set] at a2
  exact x_unt (es_cons (e_idx (x := lN t) (y := .int (-1)) (e_var hS) (e_neg e_con) (last_n (by omega))) (es_cons (e_idx (x := lN t) (y := .int (a : Nat)) (e_var hS) (e_var hq) (x_idxL (by omega))) es_nil)) (as_cons a1 (as_cons a2 as_nil))
theorem far_expr {S : Env} {p q h' : Nat} {ps : Ed} {a h : Nat} (hp : S[p]? = some (some (tP ps))) (hq : S[q]? = some (some (.int (a : Nat)))) (hh : S[h']? = some (some (.int (h : Nat)))) (k : At ps h a) :
    ev C S (.bin .Sub (.bin .Add (.idx (.idx (.var p) (.var q)) (.con (.int 0))) (.idx (.idx (.var p) (.var q)) (.con (.int 1)))) (.var h')) st = .ok (.int (farP ps h a : Nat)) st := by
  have g := e_idx (C := C) (st := st) (S := S) (a := .var p) (b := .var q) (x := tP ps) (y := .int (a : Nat)) (e_var hp) (e_var hq) (x_idxP (getD_get k.1))
  have g0 : ev C S (.idx (.idx (.var p) (.var q)) (.con (.int 0))) st = .ok (.int ((ps.getD a (0, 0)).1 : Nat)) st := e_idx g e_con rfl
  have g1 : ev C S (.idx (.idx (.var p) (.var q)) (.con (.int 1))) st = .ok (.int ((ps.getD a (0, 0)).2 : Nat)) st := e_idx g e_con rfl
  have z := e_bin (op := .Sub) (e_bin (op := .Add) g0 g1 (add_nn _ _)) (e_var hh) (sub_eq _ _)
  have e : ((((ps.getD a (0, 0)).1 + (ps.getD a (0, 0)).2 : Nat) : Int) - (h : Int)) = (farP ps h a : Nat) := by
    have := k.2
    unfold farP
    omega
  rw [e] at z
  exact z
def Moved (C : Calls) : Prop := ∀ (ps : Ed) (s : Stt) (a : Nat) (st : Store), At ps s.1 a → s.2.length = ps.length + 1 → ps.length ≤ 900 → C 28 [tP ps, .int (s.1 : Nat), tN s.2, .int (a : Nat)] st = .ok (stD (mv ps s a)) st
theorem r_moved {ps : Ed} {s : Stt} {a : Nat} (k : At ps s.1 a) (hl : s.2.length = ps.length + 1) (hp : ps.length ≤ 900) : runF C WW f__law_moved [tP ps, .int (s.1 : Nat), tN s.2, .int (a : Nat)] st = .ok (stD (mv ps s a)) st := by
  have k0 : exec C WW (nthS 0 f__law_moved.body) [some (tP ps), some (.int (s.1 : Nat)), some (tN s.2), some (.int (a : Nat)), none] st = .nxt [some (tP ps), some (.int (s.1 : Nat)), some (tN s.2), some (.int (a : Nat)), some (lN s.2)] st :=
    x_seto (e_blt (es_cons (e_var rfl) es_nil) (x_listT s.2)) rfl
  have k1 : exec C WW (nthS 1 f__law_moved.body) [some (tP ps), some (.int (s.1 : Nat)), some (tN s.2), some (.int (a : Nat)), some (lN s.2)] st = .nxt [some (tP ps), some (.int (s.1 : Nat)), some (tN s.2), some (.int (a : Nat)), some (lN (swp s.2 a))] st :=
    swap_step (j := 4) (q := 3) rfl rfl (by decide) (by have := k.1; omega)
  exact run_ret (S0 := [some (tP ps), some (.int (s.1 : Nat)), some (tN s.2), some (.int (a : Nat)), none]) ((s_nxt k0).trans ((s_nxt k1).trans (s_ret (x_ret (e_tup (es_cons (far_expr (p := 0) (q := 3) (h' := 1) rfl rfl rfl k) (es_cons (e_blt (es_cons (e_var rfl) es_nil) rfl) es_nil)) (by simp)))))) rfl
theorem ok_at {ps : Ed} {h a k : Nat} {r : List Nat} (o : OkR ps h r) (e : r[k]? = some a) : At ps (far' ps h (r.take k)) a := by
  obtain ⟨hk, e2⟩ := List.getElem?_eq_some_iff.mp e
  have q : r = r.take k ++ a :: r.drop (k + 1) := by
    conv => lhs; rw [← List.take_append_drop k r]
    rw [List.drop_eq_getElem_cons hk, e2]
  rw [q] at o
  exact (ok_app.mp o).2.1
theorem take_next {A : Type} {r : List A} {a : A} {k : Nat} (e : r[k]? = some a) : r.take (k + 1) = r.take k ++ [a] := by rw [List.take_succ, e]; rfl
theorem walk_next (ps : Ed) (s : Stt) (r : List Nat) (a : Nat) : walk ps s (r ++ [a]) = mv ps (walk ps s r) a := by rw [walk_app]; rfl
abbrev laF : IS := nthS 1 f__law_after.body
def LAfter (C : Calls) : Prop := ∀ (ps : Ed) (s : Stt) (r : List Nat) (st : Store), OkR ps s.1 r → s.2.length = ps.length + 1 → ps.length ≤ 900 → C 29 [tP ps, stD s, lN r] st = .ok (stD (walk ps s r)) st
theorem r_lafter (hM : Moved C) {ps : Ed} {s : Stt} {r : List Nat} (o : OkR ps s.1 r) (hl : s.2.length = ps.length + 1) (hp : ps.length ≤ 900) : runF C WW f__law_after [tP ps, stD s, lN r] st = .ok (stD (walk ps s r)) st := by
  have k0 : exec C WW (nthS 0 f__law_after.body) [some (tP ps), some (stD s), some (lN r), none, none, none] st = .nxt [some (tP ps), some (stD s), some (lN r), none, some (.int (s.1 : Nat)), some (tN s.2)] st := x_unp (e_var rfl) rfl
  have z : exec C WW laF [some (tP ps), some (stD s), some (lN r), none, some (.int (s.1 : Nat)), some (tN s.2)] st = _ := x_frr (i_lst (e_var rfl))
  obtain ⟨S', st', e, ⟨y3, eS⟩, est⟩ := for_list (b := fun x S st => (asg C (tgtS laF) x S st).out fun S st => execs C WW (bodS laF) S st)
    (fun k S' st' => (∃ y3, S' = [some (tP ps), some (stD s), some (lN r), y3, some (.int ((walk ps s (r.take k)).1 : Nat)), some (tN (walk ps s (r.take k)).2)]) ∧ st' = st) ((r.map fun (x : Nat) => (x : Int)).map D.int) (S := [some (tP ps), some (stD s), some (lN r), none, some (.int (s.1 : Nat)), some (tN s.2)]) (st := st) ⟨⟨none, rfl⟩, rfl⟩ fun k y S' st' hk ⟨⟨y3, eS⟩, est⟩ => by
      subst eS est
      obtain ⟨a, ha, rfl⟩ : ∃ a : Nat, r[k]? = some a ∧ y = .int a := by
        rw [List.getElem?_map, List.getElem?_map] at hk
        cases q : r[k]? with
        | none => rw [q] at hk; cases hk
        | some a => rw [q] at hk; cases hk; exact ⟨a, rfl, rfl⟩
      have ka := ok_at o ha
      rw [← walk_fst] at ka
      refine ⟨[some (tP ps), some (stD s), some (lN r), some (.int (a : Nat)), some (.int ((walk ps s (r.take (k + 1))).1 : Nat)), some (tN (walk ps s (r.take (k + 1))).2)], st', ?_, ⟨_, rfl⟩, rfl⟩
      have a0 : asg C (tgtS laF) (.int (a : Nat)) [some (tP ps), some (stD s), some (lN r), y3, some (.int ((walk ps s (r.take k)).1 : Nat)), some (tN (walk ps s (r.take k)).2)] st' = .ok [some (tP ps), some (stD s), some (lN r), some (.int (a : Nat)), some (.int ((walk ps s (r.take k)).1 : Nat)), some (tN (walk ps s (r.take k)).2)] st' := a_nam
      rw [a0, out_ok, take_next ha, walk_next]
      have wl : (walk ps s (r.take k)).2.length = ps.length + 1 := by rw [walk_len]; exact hl
      generalize walk ps s (r.take k) = w at *
      have k1 : exec C WW (nthS 0 (bodS laF)) [some (tP ps), some (stD s), some (lN r), some (.int (a : Nat)), some (.int (w.1 : Nat)), some (tN w.2)] st' = .nxt [some (tP ps), some (stD s), some (lN r), some (.int (a : Nat)), some (.int ((mv ps w a).1 : Nat)), some (tN (mv ps w a).2)] st' :=
        x_unp ((e_cal (es_cons (e_var rfl) (es_cons (e_var rfl) (es_cons (e_var rfl) (es_cons (e_var rfl) es_nil))))).trans (hM ps w a st' ka wl hp)) rfl
      exact (s_nxt k1).trans s_nil
  subst eS est
  rw [List.length_map, List.length_map, List.take_length] at e
  exact run_ret (S0 := [some (tP ps), some (stD s), some (lN r), none, none, none]) ((s_nxt k0).trans ((s_nxt (z.trans e)).trans (s_ret (x_ret (e_tup (es_cons (e_var rfl) (es_cons (e_var rfl) es_nil)) (by simp)))))) rfl
end
end DI.Law

set_option Elab.async false
set_option linter.all false
set_option maxRecDepth 100000
set_option maxHeartbeats 1000000
/-! roads that are drawn -/
namespace DI.Law
open PySem L2 DI FR
section
variable {C : Calls} {st : Store}
theorem tP_eq (ps : Ed) : tP ps = .tup ((ps.map fun p => [(p.1 : Int), (p.2 : Int)]).map tI') := by
  rw [List.map_map]
  rfl
theorem ne_P (ps : Ed) : cmpD .NotEq (tP ps) (.tup []) = some (!decide (ps = [])) := by
  have e : cmpD .NotEq (tP ps) (.tup []) = (eqD (tP ps) (.tup (([] : List (List Int)).map tI'))).map not := rfl
  rw [e, tP_eq, eqD_tt]
  show some (!decide _) = _
  congr 2
  exact decide_eq_decide.mpr (by cases ps <;> simp)
abbrev rdF : IS := nthS 1 f__law_road.body
theorem road_turn (hD : Doors C) (hd : DrwR C) {R : Store} {B : Int} (hB : B + 100 < 2 ^ 40) (g : DrR R B st) {n h : Nat} {ps : Ed} (hn : Net n ps) (hp : ps ≠ []) (hh : h < n) {f : List Nat} (hf : f.length ≤ 100) (m k : Nat) (x6 x7 : Option D) :
    ∃ a y6 st', execs C WW (bodS rdF) [some (.obj 0), some (tP ps), some (.int (h : Nat)), some (.int (m : Nat)), some (lN f), some (.int (k : Nat)), x6, x7] st = .nxt [some (.obj 0), some (tP ps), some (.int (farP ps h a : Nat)), some (.int (m : Nat)), some (lN (f ++ [a])), some (.int (k : Nat)), y6, some (.int (a : Nat))] st' ∧ At ps h a ∧ DrR R (B + 1) st' := by
  have hm := hn.m1
  have h0 : 0 < (doorsP ps h).length := List.length_pos_iff.mpr (doors_some hn.n0 hn.hv hn.con hp hh)
  have hdl : (doorsP ps h).length ≤ 900 := by
    have := filter_le ps.length fun i => decide (h = (ps.getD i (0, 0)).1 ∨ h = (ps.getD i (0, 0)).2)
    unfold doorsP
    omega
  obtain ⟨v, st', d, hv, g'⟩ := drw_natR hd (doorsP ps h).length (by omega) g h0 (by omega)
  have ha : (doorsP ps h).getD v 0 ∈ doorsP ps h := by
    rw [List.getD_eq_getElem?_getD, List.getElem?_eq_getElem hv]
    exact List.getElem_mem hv
  have at_ : At ps h ((doorsP ps h).getD v 0) := mem_doors.mp ha
  have k0 : exec C WW (nthS 0 (bodS rdF)) [some (.obj 0), some (tP ps), some (.int (h : Nat)), some (.int (m : Nat)), some (lN f), some (.int (k : Nat)), x6, x7] st = .nxt [some (.obj 0), some (tP ps), some (.int (h : Nat)), some (.int (m : Nat)), some (lN f), some (.int (k : Nat)), some (lN (doorsP ps h)), x7] st :=
    x_set ((e_cal (es_cons (e_var rfl) (es_cons (e_var rfl) es_nil))).trans (hD ps h st (by omega)))
  have k1 : exec C WW (nthS 1 (bodS rdF)) [some (.obj 0), some (tP ps), some (.int (h : Nat)), some (.int (m : Nat)), some (lN f), some (.int (k : Nat)), some (lN (doorsP ps h)), x7] st = .nxt [some (.obj 0), some (tP ps), some (.int (h : Nat)), some (.int (m : Nat)), some (lN f), some (.int (k : Nat)), some (lN (doorsP ps h)), some (.int ((doorsP ps h).getD v 0 : Nat))] st' :=
    x_set (e_idx (x := lN (doorsP ps h)) (y := .int (v : Nat)) (e_var rfl) (e_draw rfl (e_blt (es_cons (e_var rfl) es_nil) (x_lenL _)) d) (x_idxL hv))
  have k2 := x_app (C := C) (st := st') (W := WW) (i := 4) (l := (f.map fun (x : Nat) => (x : Int)).map D.int) (S := [some (.obj 0), some (tP ps), some (.int (h : Nat)), some (.int (m : Nat)), some (lN f), some (.int (k : Nat)), some (lN (doorsP ps h)), some (.int ((doorsP ps h).getD v 0 : Nat))]) rfl (e_var (i := 7) (d := .int ((doorsP ps h).getD v 0 : Nat)) rfl) (by simp; omega)
  rw [app_nat] at k2
  have k3 : exec C WW (nthS 3 (bodS rdF)) [some (.obj 0), some (tP ps), some (.int (h : Nat)), some (.int (m : Nat)), some (lN (f ++ [(doorsP ps h).getD v 0])), some (.int (k : Nat)), some (lN (doorsP ps h)), some (.int ((doorsP ps h).getD v 0 : Nat))] st' = .nxt [some (.obj 0), some (tP ps), some (.int (farP ps h ((doorsP ps h).getD v 0) : Nat)), some (.int (m : Nat)), some (lN (f ++ [(doorsP ps h).getD v 0])), some (.int (k : Nat)), some (lN (doorsP ps h)), some (.int ((doorsP ps h).getD v 0 : Nat))] st' :=
    x_set (far_expr (p := 1) (q := 7) (h' := 2) rfl rfl rfl at_)
  exact ⟨_, _, st', (s_nxt k0).trans ((s_nxt k1).trans ((s_nxt k2).trans ((s_nxt k3).trans s_nil))), at_, g'⟩
def Road (C : Calls) : Prop := ∀ (R : Store) (B : Int) (st : Store) (n h m : Nat) (ps : Ed), B + 1000 < 2 ^ 40 → DrR R B st → Net n ps → h < n → m ≤ 50 → ∃ r st', C 30 [.obj 0, tP ps, .int (h : Nat), .int (m : Nat)] st = .ok (lN r) st' ∧ OkR ps h r ∧ r.length ≤ m ∧ DrR R (B + m) st'
theorem r_road (hD : Doors C) (hd : DrwR C) {R : Store} {B : Int} {n h m : Nat} {ps : Ed} (hB : B + 1000 < 2 ^ 40) (g : DrR R B st) (hn : Net n ps) (hh : h < n) (hm : m ≤ 50) : ∃ r st', runF C WW f__law_road [.obj 0, tP ps, .int (h : Nat), .int (m : Nat)] st = .ok (lN r) st' ∧ OkR ps h r ∧ r.length ≤ m ∧ DrR R (B + m) st' := by
  let S0 : Env := [some (.obj 0), some (tP ps), some (.int (h : Nat)), some (.int (m : Nat)), none, none, none, none]
  let S1 : Env := [some (.obj 0), some (tP ps), some (.int (h : Nat)), some (.int (m : Nat)), some (lN []), none, none, none]
  have k0 : exec C WW (nthS 0 f__law_road.body) S0 st = .nxt S1 st := x_seto (e_lst es_nil (by simp)) rfl
  have c1 : ev C S1 (.cmp .NotEq (.var 1) (.tup .nil)) st = .ok (.bl (!decide (ps = []))) st := e_cmp (e_var rfl) (e_tup es_nil (by simp)) (ne_P ps)
  by_cases hp : ps = []
  · rw [decide_eq_true hp] at c1
    have z : exec C WW rdF S1 st = _ := x_frr (i_range (n := 0) ((e_iteF c1 rfl).trans e_con) (by omega))
    have e : exec C WW rdF S1 st = .nxt S1 st := z.trans forR_nil
    exact ⟨[], st, run_ret (S0 := S0) ((s_nxt k0).trans ((s_nxt e).trans (s_frz.trans (s_ret (x_ret (e_var rfl)))))) rfl, trivial, Nat.zero_le _, g.mono (by omega)⟩
  · rw [decide_eq_false hp] at c1
    have z : exec C WW rdF S1 st = _ := x_frr (i_range (n := m) ((e_iteT c1 rfl).trans (e_var rfl)) (by omega))
    obtain ⟨S', st', e, f, y5, y6, y7, eS, of, lf, gf⟩ := for_range (b := fun x S st => (asg C (tgtS rdF) x S st).out fun S st => execs C WW (bodS rdF) S st)
      (fun k S' st' => ∃ f y5 y6 y7, S' = [some (.obj 0), some (tP ps), some (.int (far' ps h f : Nat)), some (.int (m : Nat)), some (lN f), y5, y6, y7] ∧ OkR ps h f ∧ f.length = k ∧ DrR R (B + (k : Int)) st') m (S := S1) (st := st) ⟨[], none, none, none, rfl, trivial, rfl, by simpa using g⟩ fun k S' st' hk ⟨f, y5, y6, y7, eS, of, lf, gf⟩ => by
        subst eS
        obtain ⟨a, z6, s', e, at_, g'⟩ := road_turn (C := C) hD hd (by omega) gf hn hp (walk_lt hn.hv hh of) (f := f) (by omega) m k y6 y7
        have e2 : far' ps h (f ++ [a]) = farP ps (far' ps h f) a := by unfold far'; rw [List.foldl_append]; rfl
        refine ⟨[some (.obj 0), some (tP ps), some (.int (far' ps h (f ++ [a]) : Nat)), some (.int (m : Nat)), some (lN (f ++ [a])), some (.int (k : Nat)), z6, some (.int (a : Nat))], s', ?_, f ++ [a], some (.int (k : Nat)), z6, some (.int (a : Nat)), rfl, ok_app.mpr ⟨of, at_, trivial⟩, by simp [lf], ?_⟩
        · have a0 : asg C (tgtS rdF) (.int (k : Nat)) [some (.obj 0), some (tP ps), some (.int (far' ps h f : Nat)), some (.int (m : Nat)), some (lN f), y5, y6, y7] st' = .ok [some (.obj 0), some (tP ps), some (.int (far' ps h f : Nat)), some (.int (m : Nat)), some (lN f), some (.int (k : Nat)), y6, y7] st' := a_nam
          rw [a0, out_ok, e2]
          exact e
        · exact g'.mono (by omega)
    subst eS
    exact ⟨f, st', run_ret (S0 := S0) ((s_nxt k0).trans ((s_nxt (z.trans e)).trans (s_frz.trans (s_ret (x_ret (e_var rfl)))))) rfl, of, by omega, gf⟩
end
end DI.Law

set_option Elab.async false
set_option linter.all false
set_option maxRecDepth 100000
set_option maxHeartbeats 1000000
/-! the network's own steps -/
namespace DI.Law
open PySem L2 DI FR
section
variable {C : Calls} {st : Store}
theorem NetAt.ins2 {st : Store} {i n : Nat} {ps : Ed} (h : NetAt st i n ps) : insAt st (.obj i) 0 = some (netK, [.int n, tP ps, tN (weak n ps), .tup ((cellsP n ps).map tN)]) := by
  have e : insAt st (.obj i) 0 = (match st[i]? with
    | some (.ins c' ks vs) => if c' = 0 then some (ks, vs) else none
    | _ => none) := rfl
  rw [e, h]
  exact if_pos rfl
theorem e_lnO {S : Env} {c f : Nat} {a : IE} {v : D} {kv : List Str × List D} {n : Nat} {st1 st2 : Store} (h : ev C S a st = .ok v st1) (hi : insAt st1 v c = some kv) (hc : C f [v] st1 = .ok (.int (n : Nat)) st2) (hn : n ≤ 1000) : ev C S (.lnO c f a) st = .ok (.int (n : Nat)) st2 := by
  have h63 : (n : Int) < 2 ^ 63 := Int.lt_of_le_of_lt (b := 1000) (by omega) (by decide)
  rw [ev]
  simp only [h, R.bind, hi, hc]
  rw [if_pos (And.intro (Int.natCast_nonneg n) h63)]
theorem e_mtd {S : Env} {c f : Nat} {x : Str} {o : IE} {es : IEs} {v : D} {kv : List Str × List D} {l : List D} {st1 st2 : Store} (h : ev C S o st = .ok v st1) (hi : insAt st1 v c = some kv) (hx : kv.1.contains x = false) (hes : evs C S es st1 = .ok l st2) : ev C S (.mtd c f x o es) st = C f (v :: l) st2 := by
  rw [ev, h]
  show (match insAt st1 v c with | some kv => if kv.1.contains x then R.no else (evs C S es st1).bind fun l st => C f (v :: l) st | none => .no) = _
  rw [hi]
  show (if kv.1.contains x then R.no else (evs C S es st1).bind fun l st => C f (v :: l) st) = _
  rw [if_neg (by rw [hx]; decide), hes]
  rfl
theorem Props.eln (P : Props C) {S : Env} {a : IE} {i n : Nat} {ps : Ed} (h : NetAt st i n ps) (hm : ps.length ≤ 1000) (ha : ev C S a st = .ok (.obj i) st) : ev C S (.lnO 0 38 a) st = .ok (.int (ps.length : Nat)) st :=
  e_lnO ha h.ins2 (P.len i n ps st h) hm
theorem in_pair {h : Nat} (p : Nat × Nat) (k : h = p.1 ∨ h = p.2) : inD (.int (h : Nat)) (pD p) = some true := by
  rw [in_t h [p.1, p.2]]
  congr 1
  exact decide_eq_true (by simpa using k)
theorem below_t (hb : Below C) {a b : Nat} (h : a < b) : C 1 [.int (a : Nat), .int (b : Nat)] st = .ok (.bl true) st := by
  rw [hb, decide_eq_true (by omega), decide_eq_true (by omega)]
  rfl
def Perm19 (C : Calls) : Prop := ∀ (t : List Nat) (st : Store), t.Perm (List.range t.length) → t.length ≤ 900 → C 19 [tN t] st = .ok (.bl true) st
theorem r_perm (hb : Below C) {t : List Nat} (hp : t.Perm (List.range t.length)) (hl : t.length ≤ 900) : runF C WW f_is_permutation [tN t] st = .ok (.bl true) st := by
  have c1 : ev C [some (tN t), none] (.blt .isi (.cons (.var 0) (.cons (.con (.ty "tuple")) .nil))) st = .ok (.bl true) st := e_blt (es_cons (e_var rfl) (es_cons e_con es_nil)) rfl
  have hc : compR (trn C [some (tN t), none] [1] (.cal 1 "is_below" (.cons (.var 1) (.cons (.blt .len (.cons (.var 0) .nil)) .nil))) (.nam 1) .nil) ((t.map fun (x : Nat) => (x : Int)).map D.int) st = .ok (((t.map fun (x : Nat) => (x : Int)).map D.int).map fun _ => D.bl true) st :=
    compR_map fun x hx => by
      obtain ⟨y, hy, rfl⟩ := List.mem_map.mp hx
      obtain ⟨z, hz, rfl⟩ := List.mem_map.mp hy
      have hzl : z < t.length := List.mem_range.mp (hp.mem_iff.mp hz)
      exact t_one (S2 := [some (tN t), some (.int (z : Nat))]) (st1 := st) rfl ((e_cal (es_cons (e_var rfl) (es_cons (e_blt (es_cons (e_var rfl) es_nil) (x_lenT t)) es_nil))).trans (below_t hb hzl))
  have hall : ∀ l : List D, bltD .all [.lst (l.map fun _ => D.bl true)] = some (.bl true) := fun l => by
    have e : blsOf (l.map fun _ => D.bl true) = some (l.map fun _ => true) := by
      induction l with
      | nil => rfl
      | cons _ l ih => rw [List.map_cons, blsOf, ih]; rfl
    show (blsOf (l.map fun _ => D.bl true)).map (fun bs => D.bl (bs.all id)) = _
    rw [e]
    show some (D.bl _) = _
    congr 2
    simp
  have c2 : ev C [some (tN t), none] (.blt .all (.cons (.lcp (.cal 1 "is_below" (.cons (.var 1) (.cons (.blt .len (.cons (.var 0) .nil)) .nil))) (.nam 1) (.val (.var 0)) .nil [1]) .nil)) st = .ok (.bl true) st :=
    e_blt (es_cons (e_lcp (i_tup (e_var rfl)) hc (by simp; omega)) es_nil) (hall _)
  have k0 : exec C WW (nthS 0 f_is_permutation.body) [some (tN t), none] st = .nxt [some (tN t), none] st :=
    (x_iffF ((e_orF (e_not c1 rfl) rfl).trans (e_not c2 rfl)) rfl).trans s_nil
  have c3 : ev C [some (tN t), none] (retE (nthS 1 f_is_permutation.body)) st = .ok (.bl true) st := by
    refine e_cmp (x := lN (List.range t.length)) (y := lN (List.range t.length)) (e_blt (es_cons (e_var rfl) es_nil) (x_sorted hp List.pairwise_lt_range)) (e_blt (es_cons (e_blt (es_cons (e_var rfl) es_nil) (x_lenT t)) es_nil) (x_listRg _ (by omega))) ?_
    show eqD (lI _) (lI _) = _
    rw [eqD_l, decide_eq_true rfl]
  exact run_ret (S0 := [some (tN t), none]) ((s_nxt k0).trans (s_ret (x_ret c3))) rfl
def GoodS (ps : Ed) (n : Nat) (s : Stt) : Prop := s.1 < n ∧ s.2.length = ps.length + 1 ∧ s.2.Perm (List.range s.2.length)
def Chk (C : Calls) : Prop := ∀ (i n : Nat) (ps : Ed) (s : Stt) (st : Store), NetAt st i n ps → Net n ps → GoodS ps n s → C 20 [.obj i, stD s] st = .ok .non st
theorem r_check (P : Props C) (hb : Below C) (h19 : Perm19 C) {i n : Nat} {ps : Ed} {s : Stt} (h : NetAt st i n ps) (hn : Net n ps) (g : GoodS ps n s) : runF C WW f_check_state [.obj i, stD s] st = .ok .non st := by
  obtain ⟨g1, g2, g3⟩ := g
  have hm := hn.m1
  let S0 : Env := [some (.obj i), some (stD s)]
  have i0 : ev C S0 (.idx (.var 1) (.con (.int 0))) st = .ok (.int (s.1 : Nat)) st := e_idx (x := stD s) (y := .int 0) (e_var rfl) e_con rfl
  have i1 : ev C S0 (.idx (.var 1) (.con (.int 1))) st = .ok (tN s.2) st := e_idx (x := stD s) (y := .int 1) (e_var rfl) e_con rfl
  have c1 : ev C S0 (.blt .isi (.cons (.var 1) (.cons (.con (.ty "tuple")) .nil))) st = .ok (.bl true) st := e_blt (es_cons (e_var rfl) (es_cons e_con es_nil)) rfl
  have c2 : ev C S0 (.cmp .NotEq (.blt .len (.cons (.var 1) .nil)) (.con (.int 2))) st = .ok (.bl false) st := e_cmp (x := .int 2) (y := .int 2) (e_blt (es_cons (e_var rfl) es_nil) rfl) e_con (by show cmpD .NotEq (.int 2) (.int 2) = _; rw [ne_int]; rfl)
  have k0 : exec C WW (nthS 0 f_check_state.body) S0 st = .nxt S0 st := (x_iffF ((e_orF (e_not c1 rfl) rfl).trans c2) rfl).trans s_nil
  have c3 : ev C S0 (.cal 1 "is_below" (.cons (.idx (.var 1) (.con (.int 0))) (.cons (.prp 0 40 (.var 0) "places") .nil))) st = .ok (.bl true) st := (e_cal (es_cons i0 (es_cons (P.epl h (e_var rfl)) es_nil))).trans (below_t hb g1)
  have k1 : exec C WW (nthS 1 f_check_state.body) S0 st = .nxt S0 st := (x_iffF (e_not c3 rfl) rfl).trans s_nil
  have c4 : ev C S0 (.cal 19 "is_permutation" (.cons (.idx (.var 1) (.con (.int 1))) .nil)) st = .ok (.bl true) st := (e_cal (es_cons i1 es_nil)).trans (h19 s.2 st g3 (by omega))
  have c5 : ev C S0 (.cmp .NotEq (.blt .len (.cons (.idx (.var 1) (.con (.int 1))) .nil)) (.bin .Add (.lnO 0 38 (.var 0)) (.con (.int 1)))) st = .ok (.bl false) st := by
    have z := e_cmp (op := .NotEq) (e_blt (es_cons i1 es_nil) (x_lenT s.2)) (e_bin (op := .Add) (P.eln h (by omega) (e_var (S := S0) (i := 0) rfl)) (e_con (d := .int (1 : Nat))) (add_nn _ 1)) (ne_int _ _)
    rw [g2, decide_eq_true rfl] at z
    exact z
  have k2 : exec C WW (nthS 2 f_check_state.body) S0 st = .nxt S0 st := (x_iffF ((e_orF (e_not c4 rfl) rfl).trans c5) rfl).trans s_nil
  exact run_nxt (S0 := S0) ((s_nxt k0).trans ((s_nxt k1).trans ((s_nxt k2).trans s_nil))) rfl
def IsStep (C : Calls) : Prop := ∀ (i n h a : Nat) (ps : Ed) (st : Store), NetAt st i n ps → Net n ps → At ps h a → C 21 [.obj i, .int (h : Nat), .int (a : Nat)] st = .ok (.bl true) st
theorem r_isstep (P : Props C) (hb : Below C) {i n h a : Nat} {ps : Ed} (ht : NetAt st i n ps) (hn : Net n ps) (k : At ps h a) : runF C WW f_is_step [.obj i, .int (h : Nat), .int (a : Nat)] st = .ok (.bl true) st := by
  have hm := hn.m1
  let S0 : Env := [some (.obj i), some (.int (h : Nat)), some (.int (a : Nat))]
  have c1 : ev C S0 (.cal 1 "is_below" (.cons (.var 2) (.cons (.lnO 0 38 (.var 0)) .nil))) st = .ok (.bl true) st := (e_cal (es_cons (e_var rfl) (es_cons (P.eln ht (by omega) (e_var rfl)) es_nil))).trans (below_t hb k.1)
  have c2 : ev C S0 (.cmp .In (.var 1) (.idx (.prp 0 41 (.var 0) "passages") (.var 2))) st = .ok (.bl true) st := e_cmp (x := .int (h : Nat)) (y := pD (ps.getD a (0, 0))) (e_var rfl) (e_idx (x := tP ps) (y := .int (a : Nat)) (P.epa ht (e_var rfl)) (e_var rfl) (x_idxP (getD_get k.1))) (in_pair _ k.2)
  exact run_ret (S0 := S0) (s_ret (x_ret ((e_andT c1 rfl).trans c2))) rfl
def FarEnd (C : Calls) : Prop := ∀ (i n h a : Nat) (ps : Ed) (st : Store), NetAt st i n ps → Net n ps → At ps h a → C 39 [.obj i, .int (a : Nat), .int (h : Nat)] st = .ok (.int (farP ps h a : Nat)) st
theorem r_farend (hb : Below C) {i n h a : Nat} {ps : Ed} (ht : NetAt st i n ps) (hn : Net n ps) (k : At ps h a) : runF C WW f_Network_far_end [.obj i, .int (a : Nat), .int (h : Nat)] st = .ok (.int (farP ps h a : Nat)) st := by
  have hm := hn.m1
  have hmem : ps.getD a (0, 0) ∈ ps := by
    rw [List.getD_eq_getElem?_getD, List.getElem?_eq_getElem k.1]
    exact List.getElem_mem k.1
  have hlt : h < n := by
    have := hn.hv _ hmem
    rcases k.2 with e | e <;> omega
  let S0 : Env := [some (.obj i), some (.int (a : Nat)), some (.int (h : Nat)), none, none]
  have jo : ∀ S : Env, S[0]? = some (some (.obj i)) → ev C S (.att (.var 0) "joints") st = .ok (tP ps) st := fun S hS => e_att (e_var hS) (by rw [ht.see]; rfl)
  have ma : ev C S0 (.att (.var 0) "many") st = .ok (.int (n : Nat)) st := e_att (e_var rfl) (by rw [ht.see]; rfl)
  have ix : ∀ S : Env, S[0]? = some (some (.obj i)) → S[1]? = some (some (.int (a : Nat))) → ev C S (.idx (.att (.var 0) "joints") (.var 1)) st = .ok (pD (ps.getD a (0, 0))) st := fun S h0 h1 => e_idx (x := tP ps) (y := .int (a : Nat)) (jo S h0) (e_var h1) (x_idxP (getD_get k.1))
  have c1 : ev C S0 (.cal 1 "is_below" (.cons (.var 1) (.cons (.blt .len (.cons (.att (.var 0) "joints") .nil)) .nil))) st = .ok (.bl true) st := (e_cal (es_cons (e_var rfl) (es_cons (e_blt (es_cons (jo S0 rfl) es_nil) (x_lenP ps)) es_nil))).trans (below_t hb k.1)
  have k0 : exec C WW (nthS 0 f_Network_far_end.body) S0 st = .nxt S0 st := (x_iffF (e_not c1 rfl) rfl).trans s_nil
  have c2 : ev C S0 (.cal 1 "is_below" (.cons (.var 2) (.cons (.att (.var 0) "many") .nil))) st = .ok (.bl true) st := (e_cal (es_cons (e_var rfl) (es_cons ma es_nil))).trans (below_t hb hlt)
  have c3 : ev C S0 (.cmp .NotIn (.var 2) (.idx (.att (.var 0) "joints") (.var 1))) st = .ok (.bl false) st := e_cmp (x := .int (h : Nat)) (y := pD (ps.getD a (0, 0))) (e_var rfl) (ix S0 rfl rfl) (by
    show (inD (.int (h : Nat)) (pD (ps.getD a (0, 0)))).map not = _
    rw [in_pair _ k.2]
    rfl)
  have k1 : exec C WW (nthS 1 f_Network_far_end.body) S0 st = .nxt S0 st := (x_iffF ((e_orF (e_not c2 rfl) rfl).trans c3) rfl).trans s_nil
  let S1 : Env := [some (.obj i), some (.int (a : Nat)), some (.int (h : Nat)), some (.int ((ps.getD a (0, 0)).1 : Nat)), some (.int ((ps.getD a (0, 0)).2 : Nat))]
  have k2 : exec C WW (nthS 2 f_Network_far_end.body) S0 st = .nxt S1 st := x_unp (ix S0 rfl rfl) rfl
  have c4 : ev C S1 (.cmp .Eq (.var 2) (.var 3)) st = .ok (.bl (decide ((h : Int) = ((ps.getD a (0, 0)).1 : Nat)))) st := e_cmp (e_var rfl) (e_var rfl) (eq_int _ _)
  have c5 : ev C S1 (retE (nthS 3 f_Network_far_end.body)) st = .ok (.int (farP ps h a : Nat)) st := by
    have hk := k.2
    unfold farP
    by_cases e : h = (ps.getD a (0, 0)).1
    · rw [decide_eq_true (by omega)] at c4
      rw [show (ps.getD a (0, 0)).1 + (ps.getD a (0, 0)).2 - h = (ps.getD a (0, 0)).2 by omega]
      exact (e_iteT c4 rfl).trans (e_var rfl)
    · rw [decide_eq_false (by omega)] at c4
      rw [show (ps.getD a (0, 0)).1 + (ps.getD a (0, 0)).2 - h = (ps.getD a (0, 0)).1 by omega]
      exact (e_iteF c4 rfl).trans (e_var rfl)
  exact run_ret (S0 := S0) ((s_nxt k0).trans ((s_nxt k1).trans ((s_nxt k2).trans (s_ret (x_ret c5))))) rfl
def Stepped (C : Calls) : Prop := ∀ (i n a : Nat) (ps : Ed) (s : Stt) (st : Store), NetAt st i n ps → Net n ps → At ps s.1 a → s.2.length = ps.length + 1 → C 22 [.obj i, stD s, .int (a : Nat)] st = .ok (stD (mv ps s a)) st
theorem r_stepped (hF : FarEnd C) {i n a : Nat} {ps : Ed} {s : Stt} (ht : NetAt st i n ps) (hn : Net n ps) (k : At ps s.1 a) (hl : s.2.length = ps.length + 1) : runF C WW f_stepped [.obj i, stD s, .int (a : Nat)] st = .ok (stD (mv ps s a)) st := by
  have k0 : exec C WW (nthS 0 f_stepped.body) [some (.obj i), some (stD s), some (.int (a : Nat)), none, none, none] st = .nxt [some (.obj i), some (stD s), some (.int (a : Nat)), none, some (.int (s.1 : Nat)), some (tN s.2)] st := x_unp (e_var rfl) rfl
  have k1 : exec C WW (nthS 1 f_stepped.body) [some (.obj i), some (stD s), some (.int (a : Nat)), none, some (.int (s.1 : Nat)), some (tN s.2)] st = .nxt [some (.obj i), some (stD s), some (.int (a : Nat)), some (lN s.2), some (.int (s.1 : Nat)), some (tN s.2)] st := x_seto (e_blt (es_cons (e_var rfl) es_nil) (x_listT s.2)) rfl
  have k2 : exec C WW (nthS 2 f_stepped.body) [some (.obj i), some (stD s), some (.int (a : Nat)), some (lN s.2), some (.int (s.1 : Nat)), some (tN s.2)] st = .nxt [some (.obj i), some (stD s), some (.int (a : Nat)), some (lN (swp s.2 a)), some (.int (s.1 : Nat)), some (tN s.2)] st := swap_step (j := 3) (q := 2) rfl rfl (by decide) (by have := k.1; omega)
  have m : ev C [some (.obj i), some (stD s), some (.int (a : Nat)), some (lN (swp s.2 a)), some (.int (s.1 : Nat)), some (tN s.2)] (.mtd 0 39 "far_end" (.var 0) (.cons (.var 2) (.cons (.var 4) .nil))) st = .ok (.int (farP ps s.1 a : Nat)) st :=
    (e_mtd (e_var rfl) ht.ins2 (show netK.contains ("far_end" : Str) = false by decide) (es_cons (e_var rfl) (es_cons (e_var rfl) es_nil))).trans (hF i n s.1 a ps st ht hn k)
  exact run_ret (S0 := [some (.obj i), some (stD s), some (.int (a : Nat)), none, none, none]) ((s_nxt k0).trans ((s_nxt k1).trans ((s_nxt k2).trans (s_ret (x_ret (e_tup (es_cons m (es_cons (e_blt (es_cons (e_var rfl) es_nil) rfl) es_nil)) (by simp))))))) rfl
end
end DI.Law

set_option Elab.async false
set_option linter.all false
set_option maxRecDepth 100000
set_option maxHeartbeats 1000000
/-! trace, after -/
namespace DI.Law
open PySem L2 DI FR
section
variable {C : Calls} {st : Store}
theorem g_pl {W : Nat} {s : IS} {S S1 : Env} {st1 : Store} {ds : List D} (h : exec C W s S st = .nxt S1 st1) : execG C W (.pl s) S st ds = .nxt S1 st1 ds := by rw [execG, h]; rfl
theorem g_yld {W : Nat} {e : IE} {S : Env} {st1 : Store} {d : D} {ds : List D} (h : ev C S e st = .ok d st1) (hl : ds.length < 16777216) : execG C W (.yld e) S st ds = .nxt S st1 (ds ++ [d]) := by
  rw [execG, h]
  simp only []
  rw [if_pos hl]
theorem g_frr {W : Nat} {t : IT} {it : II} {b : IGs} {S : Env} {st1 : Store} {l ds : List D} (h : itm C S it st = .ok l st1) : execG C W (.frr t it b) S st ds = forG (fun x S st ds => match asg C t x S st with
    | .ok S st => execGs C W b S st ds
    | _ => .no) l S st1 ds := by rw [execG, h] <;> rfl
theorem gs_nil {W : Nat} {S : Env} {ds : List D} : execGs C W .nil S st ds = .nxt S st ds := by rw [execGs]
theorem gs_nxt {W : Nat} {s : IG} {r : IGs} {S S1 : Env} {st1 : Store} {ds ds1 : List D} (h : execG C W s S st ds = .nxt S1 st1 ds1) : execGs C W (.cons s r) S st ds = execGs C W r S1 st1 ds1 := by rw [execGs, h]
theorem forG_inv {b : D → Env → Store → List D → OutG} (I : Nat → Env → Store → List D → Prop) : ∀ (l : List D) (k0 : Nat) (S : Env) (st : Store) (ds : List D), I k0 S st ds → (∀ k x S st ds, l[k]? = some x → I (k0 + k) S st ds → ∃ S' st' ds', b x S st ds = .nxt S' st' ds' ∧ I (k0 + k + 1) S' st' ds') → ∃ S' st' ds', forG b l S st ds = .nxt S' st' ds' ∧ I (k0 + l.length) S' st' ds'
  | [], k0, S, st, ds, h, _ => ⟨S, st, ds, rfl, h⟩
  | x :: l, k0, S, st, ds, h, hs => by
    obtain ⟨S1, st1, ds1, e1, h1⟩ := hs 0 x S st ds rfl h
    obtain ⟨S2, st2, ds2, e2, h2⟩ := forG_inv I l (k0 + 1) S1 st1 ds1 h1 fun k y S st ds hk hi => by
      have := hs (k + 1) y S st ds hk (by rw [show k0 + (k + 1) = k0 + 1 + k by omega]; exact hi)
      rw [show k0 + (k + 1) + 1 = k0 + 1 + k + 1 by omega] at this
      exact this
    refine ⟨S2, st2, ds2, ?_, by rw [List.length_cons, show k0 + (l.length + 1) = k0 + 1 + l.length by omega]; exact h2⟩
    rw [forG, e1]
    exact e2
def Trace (C : Calls) : Prop := ∀ (i n : Nat) (ps : Ed) (s : Stt) (r : List Nat) (st : Store), NetAt st i n ps → Net n ps → GoodS ps n s → OkR ps s.1 r → r.length ≤ 1000 → ∃ ds, C 42 ([.obj i, stD s] ++ r.map fun (x : Nat) => D.int x) st = .ok (.lst ds) st ∧ ds.getLast? = some (stD (walk ps s r))
theorem r_trace (hC : Chk C) (hI : IsStep C) (hS : Stepped C) {i n : Nat} {ps : Ed} {s : Stt} {r : List Nat} (ht : NetAt st i n ps) (hn : Net n ps) (g : GoodS ps n s) (o : OkR ps s.1 r) (hr : r.length ≤ 1000) : ∃ ds, runG C WW f_trace g_trace [.obj i, stD s, tN r] st = .ok (.lst ds) st ∧ ds.getLast? = some (stD (walk ps s r)) := by
  have k0 : execG C WW (.pl (.exp (.cal 20 "check_state" (.cons (.var 0) (.cons (.var 1) .nil))))) [some (.obj i), some (stD s), some (tN r), none, none] st [] = .nxt [some (.obj i), some (stD s), some (tN r), none, none] st [] :=
    g_pl (x_exp ((e_cal (es_cons (e_var rfl) (es_cons (e_var rfl) es_nil))).trans (hC i n ps s st ht hn g)))
  have k1 : execG C WW (.yld (.var 1)) [some (.obj i), some (stD s), some (tN r), none, none] st [] = .nxt [some (.obj i), some (stD s), some (tN r), none, none] st [stD s] := g_yld (e_var rfl) (by simp)
  have k2 : execG C WW (.frr (.tup (.cons (.nam 3) (.cons (.nam 4) .nil))) (.enm (.var 2)) (.cons (.pl (.iff (.not (.cal 21 "is_step" (.cons (.var 0) (.cons (.idx (.var 1) (.con (.int 0))) (.cons (.var 4) .nil))))) (.cons .nvr .nil) .nil)) (.cons (.pl (.set 1 (.cal 22 "stepped" (.cons (.var 0) (.cons (.var 1) (.cons (.var 4) .nil)))))) (.cons (.yld (.var 1)) .nil)))) [some (.obj i), some (stD s), some (tN r), none, none] st [stD s] = _ := g_frr (i_enmT (e_var rfl))
  obtain ⟨S', st', ds', e, ⟨y3, y4, eS⟩, est, lst, hlen⟩ := forG_inv (fun k S' st' ds' => (∃ y3 y4, S' = [some (.obj i), some (stD (walk ps s (r.take k))), some (tN r), y3, y4]) ∧ st' = st ∧ ds'.getLast? = some (stD (walk ps s (r.take k))) ∧ ds'.length = k + 1)
    (b := fun x S st ds => match asg C (.tup (.cons (.nam 3) (.cons (.nam 4) .nil))) x S st with
      | .ok S st => execGs C WW (.cons (.pl (.iff (.not (.cal 21 "is_step" (.cons (.var 0) (.cons (.idx (.var 1) (.con (.int 0))) (.cons (.var 4) .nil))))) (.cons .nvr .nil) .nil)) (.cons (.pl (.set 1 (.cal 22 "stepped" (.cons (.var 0) (.cons (.var 1) (.cons (.var 4) .nil)))))) (.cons (.yld (.var 1)) .nil))) S st ds
      | _ => .no) (enumD ((r.map fun (x : Nat) => (x : Int)).map D.int)) 0 [some (.obj i), some (stD s), some (tN r), none, none] st [stD s] ⟨⟨none, none, rfl⟩, rfl, rfl, rfl⟩ fun k y S' st' ds' hk ⟨⟨y3, y4, eS⟩, est, lst, hlen⟩ => by
      subst eS est
      rw [Nat.zero_add] at *
      obtain ⟨d, hd, rfl⟩ := enumD_get hk
      obtain ⟨a, ha, rfl⟩ : ∃ a : Nat, r[k]? = some a ∧ d = .int a := by
        rw [List.getElem?_map, List.getElem?_map] at hd
        cases q : r[k]? with
        | none => rw [q] at hd; cases hd
        | some a => rw [q] at hd; cases hd; exact ⟨a, rfl, rfl⟩
      have hkl := (List.getElem?_eq_some_iff.mp ha).1
      have ka := ok_at o ha
      rw [← walk_fst] at ka
      have wl : (walk ps s (r.take k)).2.length = ps.length + 1 := by rw [walk_len]; exact g.2.1
      rw [take_next ha, walk_next]
      generalize walk ps s (r.take k) = w at *
      let S1 : Env := [some (.obj i), some (stD w), some (tN r), some (.int (k : Nat)), some (.int (a : Nat))]
      have a0 : asg C (.tup (.cons (.nam 3) (.cons (.nam 4) .nil))) (.tup [.int (k : Nat), .int (a : Nat)]) [some (.obj i), some (stD w), some (tN r), y3, y4] st' = .ok S1 st' := rfl
      have c1 : ev C S1 (.cal 21 "is_step" (.cons (.var 0) (.cons (.idx (.var 1) (.con (.int 0))) (.cons (.var 4) .nil)))) st' = .ok (.bl true) st' := (e_cal (es_cons (e_var rfl) (es_cons (e_idx (x := stD w) (y := .int 0) (z := .int (w.1 : Nat)) (e_var rfl) e_con rfl) (es_cons (e_var rfl) es_nil)))).trans (hI i n w.1 a ps st' ht hn ka)
      have j0 := g_pl (ds := ds') ((x_iffF (W := WW) (p := .cons .nvr .nil) (q := .nil) (e_not c1 rfl) rfl).trans s_nil)
      have j1 : execG C WW (.pl (.set 1 (.cal 22 "stepped" (.cons (.var 0) (.cons (.var 1) (.cons (.var 4) .nil)))))) S1 st' ds' = .nxt [some (.obj i), some (stD (mv ps w a)), some (tN r), some (.int (k : Nat)), some (.int (a : Nat))] st' ds' := g_pl (x_set ((e_cal (es_cons (e_var rfl) (es_cons (e_var rfl) (es_cons (e_var rfl) es_nil)))).trans (hS i n a ps w st' ht hn ka wl)))
      have j2 : execG C WW (.yld (.var 1)) [some (.obj i), some (stD (mv ps w a)), some (tN r), some (.int (k : Nat)), some (.int (a : Nat))] st' ds' = .nxt [some (.obj i), some (stD (mv ps w a)), some (tN r), some (.int (k : Nat)), some (.int (a : Nat))] st' (ds' ++ [stD (mv ps w a)]) := g_yld (e_var rfl) (by omega)
      refine ⟨_, st', ds' ++ [stD (mv ps w a)], ?_, ⟨some (.int (k : Nat)), some (.int (a : Nat)), rfl⟩, rfl, by simp, by simp [hlen]⟩
      rw [a0]
      exact (gs_nxt j0).trans ((gs_nxt j1).trans ((gs_nxt j2).trans gs_nil))
  subst eS est
  rw [Nat.zero_add, enumD_len, List.length_map, List.length_map, List.take_length] at *
  refine ⟨ds', ?_, lst⟩
  have z : execGs C WW g_trace [some (.obj i), some (stD s), some (tN r), none, none] st' [] = _ := (gs_nxt k0).trans ((gs_nxt k1).trans ((gs_nxt (k2.trans e)).trans gs_nil))
  unfold runG
  rw [show ([D.obj i, stD s, tN r].map some ++ List.replicate (f_trace.nn - [D.obj i, stD s, tN r].length) none) = [some (.obj i), some (stD s), some (tN r), none, none] from rfl, z]
theorem e_gls {S : Env} {f : Nat} {x : Str} {es : IEs} {c : IE} {l xs ys : List D} {st1 st2 st3 : Store} (h : evs C S es st = .ok l st1) (hc : ev C S c st1 = .ok (.tup xs) st2) (hf : C f (l ++ xs) st2 = .ok (.lst ys) st3) : ev C S (.gls f x es c) st = .ok (.lst ys) st3 := by
  rw [ev]
  simp only [h, R.bind, hc, hf, R.calm]
def After (C : Calls) : Prop := ∀ (i n : Nat) (ps : Ed) (s : Stt) (r : List Nat) (st : Store), NetAt st i n ps → Net n ps → GoodS ps n s → OkR ps s.1 r → r.length ≤ 1000 → C 23 ([.obj i, stD s] ++ r.map fun (x : Nat) => D.int x) st = .ok (stD (walk ps s r)) st
theorem r_after (hT : Trace C) {i n : Nat} {ps : Ed} {s : Stt} {r : List Nat} (ht : NetAt st i n ps) (hn : Net n ps) (g : GoodS ps n s) (o : OkR ps s.1 r) (hr : r.length ≤ 1000) : runF C WW f_after [.obj i, stD s, tN r] st = .ok (stD (walk ps s r)) st := by
  obtain ⟨ds, e, l⟩ := hT i n ps s r st ht hn g o hr
  have hl : 0 < ds.length := by
    cases ds with
    | nil => cases l
    | cons _ _ => simp
  have e' : C 42 ([.obj i, stD s] ++ ((r.map fun (x : Nat) => (x : Int)).map D.int)) st = .ok (.lst ds) st := by
    rw [List.map_map]
    exact e
  have hx : idxD (.lst ds) (.int (-1)) = some (stD (walk ps s r)) := by
    show atI ds (-1) = _
    unfold atI
    rw [ixN_last hl]
    show ds[ds.length - 1]? = _
    rw [← List.getLast?_eq_getElem?]
    exact l
  exact run_ret (S0 := [some (.obj i), some (stD s), some (tN r)]) (s_ret (x_ret (e_idx (x := .lst ds) (y := .int (-1)) (e_gls (es_cons (e_var rfl) (es_cons (e_var rfl) es_nil)) (e_var rfl) e') (e_neg e_con) hx))) rfl
end
end DI.Law

set_option Elab.async false
set_option linter.all false
set_option maxRecDepth 100000
set_option maxHeartbeats 1000000
/-! passed -/
namespace DI.Law
open PySem L2 DI FR
section
variable {C : Calls} {st : Store}
theorem pn_eq {x0 x1 : Option D} (r : List Nat) (n : Nat) : ev C [x0, x1, some (lN r)] (.cmp .Eq (.blt .len (.cons (.var 2) .nil)) (.con (.int n))) st = .ok (.bl (decide (((r.length : Nat) : Int) = n))) st := e_cmp (e_blt (es_cons (e_var rfl) es_nil) (x_lenL r)) e_con (eq_int _ _)
theorem pn_ix {x0 x1 : Option D} {r : List Nat} (k : Nat) (h : k < r.length) : ev C [x0, x1, some (lN r)] (.idx (.var 2) (.con (.int k))) st = .ok (.int (r.getD k 0 : Nat)) st := e_idx (x := lN r) (y := .int k) (e_var rfl) e_con (x_idxL h)
theorem pn_ok {i : Nat} {s : D} {g : List Nat → D} : ∀ r : List Nat, r.length ≤ 6 → C 23 ([.obj i, s] ++ r.map fun (x : Nat) => D.int x) st = .ok (g r) st → execs C WW f__law_passed.body [some (.obj i), some s, some (lN r)] st = .ret (g r) st
  | [], _, h => s_ret ((x_iffT (pn_eq [] 0) rfl).trans (s_ret (x_ret ((e_cal (es_cons (e_var rfl) (es_cons (e_var rfl) es_nil))).trans h))))
  | [a], _, h => (s_nxt ((x_iffF (pn_eq [a] 0) rfl).trans s_nil)).trans (s_ret ((x_iffT (pn_eq [a] 1) rfl).trans (s_ret (x_ret ((e_cal (es_cons (e_var rfl) (es_cons (e_var rfl) (es_cons (pn_ix (r := [a]) 0 (by simp)) es_nil)))).trans h)))))
  | [a, b], _, h => (s_nxt ((x_iffF (pn_eq [a, b] 0) rfl).trans s_nil)).trans ((s_nxt ((x_iffF (pn_eq [a, b] 1) rfl).trans s_nil)).trans (s_ret ((x_iffT (pn_eq [a, b] 2) rfl).trans (s_ret (x_ret ((e_cal (es_cons (e_var rfl) (es_cons (e_var rfl) (es_cons (pn_ix (r := [a, b]) 0 (by simp)) (es_cons (pn_ix (r := [a, b]) 1 (by simp)) es_nil))))).trans h))))))
  | [a, b, c], _, h => (s_nxt ((x_iffF (pn_eq [a, b, c] 0) rfl).trans s_nil)).trans ((s_nxt ((x_iffF (pn_eq [a, b, c] 1) rfl).trans s_nil)).trans ((s_nxt ((x_iffF (pn_eq [a, b, c] 2) rfl).trans s_nil)).trans (s_ret ((x_iffT (pn_eq [a, b, c] 3) rfl).trans (s_ret (x_ret ((e_cal (es_cons (e_var rfl) (es_cons (e_var rfl) (es_cons (pn_ix (r := [a, b, c]) 0 (by simp)) (es_cons (pn_ix (r := [a, b, c]) 1 (by simp)) (es_cons (pn_ix (r := [a, b, c]) 2 (by simp)) es_nil)))))).trans h)))))))
  | [a, b, c, d], _, h => (s_nxt ((x_iffF (pn_eq [a, b, c, d] 0) rfl).trans s_nil)).trans ((s_nxt ((x_iffF (pn_eq [a, b, c, d] 1) rfl).trans s_nil)).trans ((s_nxt ((x_iffF (pn_eq [a, b, c, d] 2) rfl).trans s_nil)).trans ((s_nxt ((x_iffF (pn_eq [a, b, c, d] 3) rfl).trans s_nil)).trans (s_ret ((x_iffT (pn_eq [a, b, c, d] 4) rfl).trans (s_ret (x_ret ((e_cal (es_cons (e_var rfl) (es_cons (e_var rfl) (es_cons (pn_ix (r := [a, b, c, d]) 0 (by simp)) (es_cons (pn_ix (r := [a, b, c, d]) 1 (by simp)) (es_cons (pn_ix (r := [a, b, c, d]) 2 (by simp)) (es_cons (pn_ix (r := [a, b, c, d]) 3 (by simp)) es_nil))))))).trans h))))))))
  | [a, b, c, d, e], _, h => (s_nxt ((x_iffF (pn_eq [a, b, c, d, e] 0) rfl).trans s_nil)).trans ((s_nxt ((x_iffF (pn_eq [a, b, c, d, e] 1) rfl).trans s_nil)).trans ((s_nxt ((x_iffF (pn_eq [a, b, c, d, e] 2) rfl).trans s_nil)).trans ((s_nxt ((x_iffF (pn_eq [a, b, c, d, e] 3) rfl).trans s_nil)).trans ((s_nxt ((x_iffF (pn_eq [a, b, c, d, e] 4) rfl).trans s_nil)).trans (s_ret ((x_iffT (pn_eq [a, b, c, d, e] 5) rfl).trans (s_ret (x_ret ((e_cal (es_cons (e_var rfl) (es_cons (e_var rfl) (es_cons (pn_ix (r := [a, b, c, d, e]) 0 (by simp)) (es_cons (pn_ix (r := [a, b, c, d, e]) 1 (by simp)) (es_cons (pn_ix (r := [a, b, c, d, e]) 2 (by simp)) (es_cons (pn_ix (r := [a, b, c, d, e]) 3 (by simp)) (es_cons (pn_ix (r := [a, b, c, d, e]) 4 (by simp)) es_nil)))))))).trans h)))))))))
  | [a, b, c, d, e, f], _, h => (s_nxt ((x_iffF (pn_eq [a, b, c, d, e, f] 0) rfl).trans s_nil)).trans ((s_nxt ((x_iffF (pn_eq [a, b, c, d, e, f] 1) rfl).trans s_nil)).trans ((s_nxt ((x_iffF (pn_eq [a, b, c, d, e, f] 2) rfl).trans s_nil)).trans ((s_nxt ((x_iffF (pn_eq [a, b, c, d, e, f] 3) rfl).trans s_nil)).trans ((s_nxt ((x_iffF (pn_eq [a, b, c, d, e, f] 4) rfl).trans s_nil)).trans ((s_nxt ((x_iffF (pn_eq [a, b, c, d, e, f] 5) rfl).trans s_nil)).trans (s_ret (x_ret ((e_cal (es_cons (e_var rfl) (es_cons (e_var rfl) (es_cons (pn_ix (r := [a, b, c, d, e, f]) 0 (by simp)) (es_cons (pn_ix (r := [a, b, c, d, e, f]) 1 (by simp)) (es_cons (pn_ix (r := [a, b, c, d, e, f]) 2 (by simp)) (es_cons (pn_ix (r := [a, b, c, d, e, f]) 3 (by simp)) (es_cons (pn_ix (r := [a, b, c, d, e, f]) 4 (by simp)) (es_cons (pn_ix (r := [a, b, c, d, e, f]) 5 (by simp)) es_nil))))))))).trans h))))))))
  | _ :: _ :: _ :: _ :: _ :: _ :: _ :: _, hl, _ => by simp at hl
def Passed (C : Calls) : Prop := ∀ (i n : Nat) (ps : Ed) (s : Stt) (r : List Nat) (st : Store), NetAt st i n ps → Net n ps → GoodS ps n s → OkR ps s.1 r → r.length ≤ 6 → C 31 [.obj i, stD s, lN r] st = .ok (stD (walk ps s r)) st
theorem r_passed (hA : After C) {i n : Nat} {ps : Ed} {s : Stt} {r : List Nat} (ht : NetAt st i n ps) (hn : Net n ps) (g : GoodS ps n s) (o : OkR ps s.1 r) (hr : r.length ≤ 6) : runF C WW f__law_passed [.obj i, stD s, lN r] st = .ok (stD (walk ps s r)) st :=
  run_ret (S0 := [some (.obj i), some (stD s), some (lN r)]) (pn_ok (g := fun r => stD (walk ps s r)) r hr (hA i n ps s r st ht hn g o (by omega))) rfl
end
end DI.Law

set_option Elab.async false
set_option linter.all false
set_option maxRecDepth 100000
set_option maxHeartbeats 1000000
/-! the check of a walk -/
namespace DI.Law
open PySem L2 DI FR
section
variable {C : Calls} {st : Store}
theorem st_py (s : Stt) : (stD s).py = .tuple [.int (s.1 : Nat), .tuple ((s.2.map fun (x : Nat) => (x : Int)).map PyData.int)] := by
  rw [D.py]
  show PyData.tuple (pys [D.int (s.1 : Nat), tN s.2]) = _
  rw [pys, pys, pys, D.py, D.py, pys_int]
theorem shape_st (s : Stt) : SeqAt.shaped (stD s).py = true := by
  have h := depth_ints (s.2.map fun (x : Nat) => (x : Int))
  unfold SeqAt.shaped
  rw [st_py]
  rw [PyData.canLay0, PyData.canLayAll0, PyData.canLayAll0, PyData.canLayAll0, PyData.canLay0, PyData.canLay0, lay_int, PyData.depth, PyData.depthAll, PyData.depthAll, PyData.depthAll, PyData.depth, PyData.depth]
  simp only [Bool.and_true, Bool.true_and, decide_eq_true_eq]
  omega
theorem eq_st (s : Stt) : eqD (stD s) (stD s) = some true := by
  unfold eqD
  rw [shape_st, Bool.and_self, if_pos rfl, st_py]
  rw [PyData.eqv, PyData.eqvAll, PyData.eqvAll, PyData.eqvAll, PyData.eqv, PyData.eqv, eqv_ints]
  simp
theorem ne_st (s : Stt) : cmpD .NotEq (stD s) (stD s) = some false := by
  show (eqD (stD s) (stD s)).map not = _
  rw [eq_st]
  rfl
theorem ok_val {ps : Ed} (hm : ps.length ≤ 16) : ∀ {r : List Nat} {h : Nat}, OkR ps h r → Val (r.map fun (x : Nat) => (x : Int))
  | [], _, _ => fun x hx => by cases hx
  | a :: r, h, k => fun x hx => by
    rcases List.mem_cons.mp hx with rfl | hx
    · exact val_small (by have := k.1.1; omega)
    · exact ok_val hm k.2 x hx
theorem red_n (r : List Nat) : tI' (red (r.map fun (x : Nat) => (x : Int))) = tN (red r) := by
  rw [red_map (fun x y e => by omega)]
theorem rev_n (r : List Nat) : tI' (r.map fun (x : Nat) => (x : Int)).reverse = tN r.reverse := by
  rw [← List.map_reverse]
theorem swp_perm {t : List Nat} {a : Nat} (ha : a + 1 < t.length) : (swp t a).Perm t := by
  refine List.perm_iff_count.mpr fun x => ?_
  have hl : t.length - 1 < t.length := by omega
  have e1 : t.getD a 0 = t[a] := by rw [List.getD_eq_getElem?_getD, List.getElem?_eq_getElem (by omega)]; rfl
  have e2 : t.getD (t.length - 1) 0 = t[t.length - 1] := by rw [List.getD_eq_getElem?_getD, List.getElem?_eq_getElem hl]; rfl
  have e3 : (t.set a t[t.length - 1])[t.length - 1]'(by simp; omega) = t[t.length - 1] := List.getElem_set_ne (by omega) _
  unfold swp
  rw [e1, e2, List.count_set (by simp; omega), List.count_set (by omega), e3]
  have h0 : (if t[a] == x then 1 else 0) ≤ t.count x := by
    split
    · rename_i h
      exact List.count_pos_iff.mpr (by rw [← beq_iff_eq.mp h]; exact List.getElem_mem _)
    · exact Nat.zero_le _
  omega
theorem walk_perm {ps : Ed} : ∀ (r : List Nat) (s : Stt), s.2.length = ps.length + 1 → OkR ps s.1 r → (walk ps s r).2.Perm s.2
  | [], _, _, _ => List.Perm.refl _
  | a :: r, s, hl, k => by
    have h1 : (mv ps s a).2.length = ps.length + 1 := by rw [← hl]; exact swp_len s.2 a
    exact (walk_perm r (mv ps s a) h1 k.2).trans (swp_perm (by have := k.1.1; omega))
theorem good_walk {n : Nat} {ps : Ed} (hv : Valid n ps) {s : Stt} {r : List Nat} (g : GoodS ps n s) (k : OkR ps s.1 r) : GoodS ps n (walk ps s r) := by
  obtain ⟨g1, g2, g3⟩ := g
  have hl := walk_len ps r s
  refine ⟨by rw [walk_fst]; exact walk_lt hv g1 k, by rw [hl]; exact g2, ?_⟩
  rw [hl]
  exact (walk_perm r s g2 k).trans g3
theorem ok_red {ps : Ed} {s : Stt} {r : List Nat} (g : s.2.length = ps.length + 1) (k : OkR ps s.1 r) : OkR ps s.1 (red r) ∧ walk ps s r = walk ps s (red r) := rd_walk (red_rd r).1 g k
/-- the road that turns round once -/
def turned (r : List Nat) : List Nat := (r.take 2 ++ [r.getD 1 0] ++ r.drop 1).take 6
theorem ok_turned {ps : Ed} {h : Nat} {r : List Nat} (hl : 2 < r.length) (k : OkR ps h r) : OkR ps h (turned r) ∧ (turned r).length ≤ 6 := by
  match r, hl, k with
  | a :: b :: q, _, k => exact ⟨ok_take (ok_turn k) 6, by unfold turned; rw [List.length_take]; omega⟩
def WalkRight (C : Calls) : Prop := ∀ (R : Store) (B : Int) (st : Store) (i n : Nat) (ps : Ed), B + 4000 < 2 ^ 40 → DrR R B st → 2 ≤ i → NetAt st i n ps → Net n ps → ∃ st', C 37 [.obj 0, .obj i, tP ps] st = .ok (.bl true) st' ∧ DrR R (B + 100) st'
end
end DI.Law

set_option Elab.async false
set_option linter.all false
set_option maxRecDepth 100000
set_option maxHeartbeats 2000000
/-! the check of a walk -/
namespace DI.Law
open PySem L2 DI FR
section
variable {C : Calls} {st : Store}
/-- behind the draws -/
theorem walk_end (hR : Right C) (hB : Backed C) (hC : Cut C) (hA : LAfter C) (hP : Passed C) {i n : Nat} {ps : Ed} {s : Stt} {r : List Nat} (ht : NetAt st i n ps) (hn : Net n ps) (g : GoodS ps n s) (o : OkR ps s.1 r) (hr : r.length ≤ 6) :
    execs C WW (dropS 3 f__law_walk_right.body) [some (.obj 0), some (.obj i), some (tP ps), some (stD s), some (lN r), none] st = .ret (.bl true) st := by
  have hm := hn.m1
  obtain ⟨o2, w2⟩ := ok_red g.2.1 o
  obtain ⟨o3, w3⟩ := walk_back g.2.1 o
  have gw := good_walk hn.hv g o
  have hv := ok_val hm o
  have hl2 := rd_le r
  let S1 : Env := [some (.obj 0), some (.obj i), some (tP ps), some (stD s), some (lN r), some (stD (walk ps s r))]
  have k3 : exec C WW (nthS 3 f__law_walk_right.body) [some (.obj 0), some (.obj i), some (tP ps), some (stD s), some (lN r), none] st = .nxt S1 st :=
    x_set ((e_cal (es_cons (e_var rfl) (es_cons (e_var rfl) (es_cons (e_var rfl) es_nil)))).trans (hA ps s r st o g.2.1 (by omega)))
  have er : ev C S1 (.cal 36 "_law_right" (.cons (.var 4) .nil)) st = .ok (.bl true) st := (e_cal (es_cons (e_var rfl) es_nil)).trans (hR (r.map fun (x : Nat) => (x : Int)) st hv (by simpa using hr))
  have ec : ev C S1 (.blt .list (.cons (.cal 33 "_law_cut" (.cons (.var 4) .nil)) .nil)) st = .ok (lN (red r)) st := by
    have a := (e_cal (n := "_law_cut") (es_cons (e_var (C := C) (st := st) (S := S1) (i := 4) (d := lN r) rfl) es_nil)).trans (hC (r.map fun (x : Nat) => (x : Int)) st (by simpa using hr))
    rw [red_n] at a
    exact e_blt (es_cons a es_nil) rfl
  have eb : ev C S1 (.blt .list (.cons (.cal 32 "_law_backed" (.cons (.var 4) .nil)) .nil)) st = .ok (lN r.reverse) st := by
    have a := (e_cal (n := "_law_backed") (es_cons (e_var (C := C) (st := st) (S := S1) (i := 4) (d := lN r) rfl) es_nil)).trans (hB (r.map fun (x : Nat) => (x : Int)) st (by simpa using hr))
    rw [rev_n] at a
    exact e_blt (es_cons a es_nil) rfl
  have p1 := (e_cal (n := "_law_passed") (es_cons (e_var (C := C) (st := st) (S := S1) (i := 1) (d := .obj i) rfl) (es_cons (e_var (i := 3) (d := stD s) rfl) (es_cons ec es_nil)))).trans (hP i n ps s (red r) st ht hn g o2 (by omega))
  rw [← w2] at p1
  have p2 := (e_cal (n := "_law_passed") (es_cons (e_var (C := C) (st := st) (S := S1) (i := 1) (d := .obj i) rfl) (es_cons (e_var (i := 5) (d := stD (walk ps s r)) rfl) (es_cons eb es_nil)))).trans (hP i n ps (walk ps s r) r.reverse st ht hn gw o3 (by simpa using hr))
  rw [w3] at p2
  have p3 := (e_cal (n := "_law_passed") (es_cons (e_var (C := C) (st := st) (S := S1) (i := 1) (d := .obj i) rfl) (es_cons (e_var (i := 3) (d := stD s) rfl) (es_cons (e_var (i := 4) (d := lN r) rfl) es_nil)))).trans (hP i n ps s r st ht hn g o hr)
  have k4 : exec C WW (nthS 4 f__law_walk_right.body) S1 st = .nxt S1 st :=
    (x_iffF ((e_orF (e_not er rfl) rfl).trans (e_cmp (x := stD (walk ps s r)) (y := stD (walk ps s r)) p1 (e_var rfl) (ne_st _))) rfl).trans s_nil
  have e5 : ev C S1 (retE (nthS 5 f__law_walk_right.body)) st = .ok (.bl true) st :=
    (e_andT (e_cmp (op := .Eq) (x := stD s) (y := stD s) p2 (e_var rfl) (eq_st _)) rfl).trans (e_cmp (op := .Eq) (x := stD (walk ps s r)) (y := stD (walk ps s r)) p3 (e_var rfl) (eq_st _))
  exact (s_nxt k3).trans ((s_nxt k4).trans (s_ret (x_ret e5)))
end
end DI.Law

set_option Elab.async false
set_option linter.all false
set_option maxRecDepth 100000
set_option maxHeartbeats 2000000
/-! the check of a walk: the draws -/
namespace DI.Law
open PySem L2 DI FR
section
variable {C : Calls} {st : Store}
theorem slN_to (r : List Nat) (k : Nat) : slcD (lN r) none (some (k : Int)) = some (lN (r.take k)) := by
  show some (D.lst (cutD ((r.map fun (x : Nat) => (x : Int)).map D.int) none (some (k : Int)))) = _
  rw [cut_to, ← List.map_take, ← List.map_take]
theorem slN_from (r : List Nat) (k : Nat) : slcD (lN r) (some (k : Int)) none = some (lN (r.drop k)) := by
  show some (D.lst (cutD ((r.map fun (x : Nat) => (x : Int)).map D.int) (some (k : Int)) none)) = _
  rw [cut_from, ← List.map_drop, ← List.map_drop]
theorem e_to {S : Env} {a : IE} {r : List Nat} {k : Nat} (h : ev C S a st = .ok (lN r) st) : ev C S (.slc a .gap (.con (.int k))) st = .ok (lN (r.take k)) st := by
  refine e_slc (x := lN r) (l := none) (h := some (k : Int)) h rfl ?_ (slN_to r k)
  show (ev C S (.con (.int k)) st).bind intR = _
  rw [e_con]
  rfl
theorem e_from {S : Env} {a : IE} {r : List Nat} {k : Nat} (h : ev C S a st = .ok (lN r) st) : ev C S (.slc a (.con (.int k)) .gap) st = .ok (lN (r.drop k)) st := by
  refine e_slc (x := lN r) (l := some (k : Int)) (h := none) h ?_ rfl (slN_from r k)
  show (ev C S (.con (.int k)) st).bind intR = _
  rw [e_con]
  rfl
theorem e_turned {S : Env} {r : List Nat} (hS : S[4]? = some (some (lN r))) (hl : 2 < r.length) (hr : r.length ≤ 100) : ev C S (.slc (.bin .Add (.bin .Add (.slc (.var 4) .gap (.con (.int 2))) (.lst (.cons (.idx (.var 4) (.con (.int 1))) .nil))) (.slc (.var 4) (.con (.int 1)) .gap)) .gap (.con (.int 6))) st = .ok (lN (turned r)) st := by
  have a := e_to (k := 2) (e_var (C := C) (st := st) hS)
  have b : ev C S (.lst (.cons (.idx (.var 4) (.con (.int 1))) .nil)) st = .ok (lN [r.getD 1 0]) st := e_lst (es_cons (e_idx (x := lN r) (y := .int (1 : Nat)) (e_var hS) e_con (x_idxL (by omega))) es_nil) (by simp)
  have c := e_from (k := 1) (e_var (C := C) (st := st) hS)
  exact e_to (k := 6) (e_bin (e_bin a b (x_cat _ _ (by simp; omega))) c (x_cat _ _ (by simp; omega)))
theorem r_walk_right (P : Props C) (hd : DrwR C) (hM : MixR C) (hRd : Road C) (hR : Right C) (hB : Backed C) (hC : Cut C) (hA : LAfter C) (hP : Passed C) {R : Store} {B : Int} {i n : Nat} {ps : Ed} (hb : B + 4000 < 2 ^ 40) (g : DrR R B st) (hi : 2 ≤ i) (ht : NetAt st i n ps) (hn : Net n ps) :
    ∃ st', runF C WW f__law_walk_right [.obj 0, .obj i, tP ps] st = .ok (.bl true) st' ∧ DrR R (B + 100) st' := by
  have hm := hn.m1
  have hn1 := hn.n1
  obtain ⟨v, s1, d1, hv, g1⟩ := drw_natR hd n (by omega) g hn.n0 (by omega)
  obtain ⟨q, s2, d2, hq, g2⟩ := mix_natR hM (l := List.range (ps.length + 1)) (by simp; omega) (by omega) g1
  rw [List.length_range] at g2
  have hql : q.length = ps.length + 1 := by rw [hq.length_eq, List.length_range]
  obtain ⟨m, s3, d3, hm7, g3⟩ := drw_natR hd 7 (by omega) g2 (by decide) (by decide)
  obtain ⟨r, s4, d4, o4, l4, g4⟩ := hRd R _ s3 n v m ps (by omega) g3 hn hv (by omega)
  have gs : GoodS ps n (v, q) := ⟨hv, hql, by rw [hql]; exact hq⟩
  let S0 : Env := [some (.obj 0), some (.obj i), some (tP ps), none, none, none]
  let S1 : Env := [some (.obj 0), some (.obj i), some (tP ps), some (stD (v, q)), none, none]
  let S2 : Env := [some (.obj 0), some (.obj i), some (tP ps), some (stD (v, q)), some (lN r), none]
  have e0 : ev C S0 (retE (nthS 0 f__law_walk_right.body)) st = .ok (stD (v, q)) s2 :=
    e_tup (es_cons (e_draw rfl (P.epl ht (e_var rfl)) d1) (es_cons (e_blt (z := tN q) (es_cons ((e_cal (es_cons (e_var rfl) (es_cons (e_blt (es_cons (e_bin (x := .int ps.length) (y := .int (1 : Nat)) (e_blt (es_cons (e_var rfl) es_nil) (x_lenP ps)) e_con (add_nn _ _)) es_nil) (x_listRg _ (by omega))) es_nil))).trans d2) es_nil) rfl) es_nil)) (by simp)
  have k0 : exec C WW (nthS 0 f__law_walk_right.body) S0 st = .nxt S1 s2 := x_set e0
  have k1 : exec C WW (nthS 1 f__law_walk_right.body) S1 s2 = .nxt S2 s4 :=
    x_set ((e_cal (es_cons (e_var rfl) (es_cons (e_var rfl) (es_cons (e_idx (x := stD (v, q)) (y := .int 0) (z := .int (v : Nat)) (e_var rfl) e_con rfl) (es_cons (e_draw rfl e_con d3) es_nil))))).trans d4)
  have c1 : ev C S2 (.cmp .Gt (.blt .len (.cons (.var 4) .nil)) (.con (.int 2))) s4 = .ok (.bl (decide ((2 : Int) < (r.length : Nat)))) s4 := e_cmp (e_blt (es_cons (e_var rfl) es_nil) (x_lenL r)) e_con rfl
  have fin : ∀ (r' : List Nat) (B' : Int) (s' : Store), B' ≤ B + 100 → DrR R B' s' → OkR ps v r' → r'.length ≤ 6 → exec C WW (nthS 2 f__law_walk_right.body) S2 s4 = .nxt [some (.obj 0), some (.obj i), some (tP ps), some (stD (v, q)), some (lN r'), none] s' → ∃ st', runF C WW f__law_walk_right [.obj 0, .obj i, tP ps] st = .ok (.bl true) st' ∧ DrR R (B + 100) st' := fun r' B' s' hB' g' o' l' k2 =>
    ⟨s', run_ret (S0 := S0) ((s_nxt k0).trans ((s_nxt k1).trans ((s_nxt k2).trans (walk_end hR hB hC hA hP (g.net g' hi ht) hn gs o' l')))) rfl, g'.mono hB'⟩
  by_cases hl : 2 < r.length
  · rw [decide_eq_true (by omega)] at c1
    obtain ⟨w, s5, d5, hw, g5⟩ := drw_natR hd 2 (by omega) g4 (by decide) (by decide)
    have c2 : ev C S2 (.cmp .Eq (.cal 7 "_law_draw" (.cons (.var 0) (.cons (.con (.int 2)) .nil))) (.con (.int 0))) s4 = .ok (.bl (decide ((w : Int) = 0))) s5 := e_cmp (e_draw rfl e_con d5) e_con (eq_int _ _)
    by_cases hw0 : (w : Int) = 0
    · rw [decide_eq_true hw0] at c2
      obtain ⟨t1, t2⟩ := ok_turned hl o4
      exact fin (turned r) _ s5 (by omega) g5 t1 t2 ((x_iffT ((e_andT c1 rfl).trans c2) rfl).trans ((s_nxt (x_set (e_turned rfl hl (by omega)))).trans s_nil))
    · rw [decide_eq_false hw0] at c2
      exact fin r _ s5 (by omega) g5 o4 (by omega) ((x_iffF ((e_andT c1 rfl).trans c2) rfl).trans s_nil)
  · rw [decide_eq_false (by omega)] at c1
    exact fin r _ s4 (by omega) g4 o4 (by omega) ((x_iffF (e_andF c1 rfl) rfl).trans s_nil)
end
end DI.Law

set_option Elab.async false
set_option linter.all false
set_option maxRecDepth 100000
set_option maxHeartbeats 2000000
/-! the law: its two loops -/
namespace DI.Law
open PySem L2 DI FR
section
variable {C : Calls} {st : Store}
theorem e_drawV {S : Env} {e : IE} {top v i : Nat} {st2 : Store} (h0 : S[i]? = some (some (.obj 0))) (he : ev C S e st = .ok (.int top) st) (h : C 7 [.obj 0, .int top] st = .ok (.int v) st2) : ev C S (.cal 7 "_law_draw" (.cons (.var i) (.cons e .nil))) st = .ok (.int v) st2 :=
  (e_cal (es_cons (e_var h0) (es_cons he es_nil))).trans h
structure Cal (C : Calls) : Prop where
  pr : Props C
  drw : Drw C
  beg : ∀ ns : List Int, ns.length ≤ 63 → ∃ st', C 8 [.scr ns] [] = .ok (.obj 0) st' ∧ DrSt 0 st'
  ties : Ties C
  right : Right C
  row : Row C
  wr : WalkRight C
  back : Back C
  redu : Redu C
  bare : Bare C
abbrev rowsF : IS := nthS 1 f_law.body
abbrev netsF : IS := nthS 2 f_law.body
abbrev lawE (s y2 y8 y9 : Option D) : Env := [s, some (.obj 0), y2, none, none, none, none, none, y8, y9, none]
theorem rows_turn (c : Cal C) {B : Int} (hB : B + 6000 < 2 ^ 40) (h : DrSt B st) (s y8 y9 : Option D) (k : Nat) : ∃ st', execs C WW (bodS rowsF) (lawE s (some (.int k)) y8 y9) st = .nxt (lawE s (some (.int k)) y8 y9) st' ∧ DrSt (B + 50) st' := by
  obtain ⟨l, s1, e1, v1, l1, d1⟩ := c.row B st (by omega) h
  have r1 := e_not (C := C) (S := lawE s (some (.int k)) y8 y9) ((e_cal (n := "_law_right") (es_cons ((e_cal (f := 35) (n := "_law_row") (es_cons (e_var (i := 1) rfl) es_nil)).trans e1) es_nil)).trans (c.right l s1 v1 l1)) (q := true) rfl
  exact ⟨s1, (s_nxt ((x_iffF r1 rfl).trans s_nil)).trans s_nil, d1⟩
theorem nets_turn (c : Cal C) {B : Int} (hB : B + 9000 < 2 ^ 40) (h : DrSt B st) (s y8 y9 : Option D) (k : Nat) : ∃ y8' y9' st', execs C WW (bodS netsF) (lawE s (some (.int k)) y8 y9) st = .nxt (lawE s (some (.int k)) y8' y9') st' ∧ DrSt (B + 400) st' := by
  obtain ⟨a, s1, e1, ha, d1⟩ := drw_nat c.drw 3 (by omega) h (by omega) (by omega)
  obtain ⟨b, s2, e2, hb, d2⟩ := drw_nat c.drw 3 (by omega) d1 (by omega) (by omega)
  obtain ⟨m, s3, e3, hm, d3⟩ := drw_nat c.drw 3 (by omega) d2 (by omega) (by omega)
  obtain ⟨n, ps, s4, e4, hn, d4⟩ := c.ties (B + 1 + 1 + 1) s3 a b m (by omega) (by omega) hm (by omega) d3
  have q := (e_cal (C := C) (f := 17) (n := "_law_ties") (S := lawE s (some (.int k)) y8 y9) (es_cons (e_var (i := 1) rfl) (es_cons (e_bin (op := .Add) (e_con (d := .int ((1 : Nat) : Int))) (e_drawV (i := 1) rfl (e_con (d := .int ((3 : Nat) : Int))) e1) (add_nn 1 a)) (es_cons (e_drawV (i := 1) rfl (e_con (d := .int ((3 : Nat) : Int))) e2) (es_cons (e_drawV (i := 1) rfl (e_con (d := .int ((3 : Nat) : Int))) e3) es_nil))))).trans e4
  have k0 : exec C WW (nthS 0 (bodS netsF)) (lawE s (some (.int k)) y8 y9) st = .nxt (lawE s (some (.int k)) (some (.int n)) (some (tP ps))) s4 := x_unp q rfl
  obtain ⟨em, hat⟩ := c.pr.make (S := lawE s (some (.int k)) (some (.int n)) (some (tP ps))) (a := .var 8) (b := .var 9) (st := s4) (e_var rfl) (e_var rfl) hn
  obtain ⟨R, dR⟩ := (d4.app [netC n ps]).rest
  have h2 : 2 ≤ s4.length := by
    obtain ⟨R4, d4R⟩ := d4.rest
    have := d4R.len
    omega
  obtain ⟨s6, e6, d6⟩ := c.wr R _ _ s4.length n ps (by omega) dR h2 hat hn
  have r2 := e_not (C := C) (S := lawE s (some (.int k)) (some (.int n)) (some (tP ps))) ((e_cal (f := 37) (n := "_law_walk_right") (es_cons (e_var (i := 1) rfl) (es_cons em (es_cons (e_var (i := 9) rfl) es_nil)))).trans e6) (q := true) rfl
  exact ⟨_, _, s6, (s_nxt k0).trans ((s_nxt ((x_iffF r2 rfl).trans s_nil)).trans s_nil), d6.st.mono (by omega)⟩
end
end DI.Law

set_option Elab.async false
set_option linter.all false
set_option maxRecDepth 100000
set_option maxHeartbeats 2000000
/-! the law: its loops run -/
namespace DI.Law
open PySem L2 DI FR
section
variable {C : Calls} {st : Store}
theorem rows_run (c : Cal C) {B : Int} (hB : B + 7000 < 2 ^ 40) (h : DrSt B st) (s : Option D) : ∃ y2 st', exec C WW rowsF (lawE s none none none) st = .nxt (lawE s y2 none none) st' ∧ DrSt (B + 500) st' := by
  have z : exec C WW rowsF (lawE s none none none) st = _ := x_frr (i_range (n := 10) e_con (by omega))
  obtain ⟨S', st', e, ⟨y2, eS⟩, d⟩ := for_range (b := fun x S st => (asg C (tgtS rowsF) x S st).out fun S st => execs C WW (bodS rowsF) S st)
    (fun k S' st' => (∃ y2, S' = lawE s y2 none none) ∧ DrSt (B + 50 * (k : Int)) st') 10 (S := lawE s none none none) (st := st) ⟨⟨none, rfl⟩, by simpa using h⟩ fun k S' st' hk ⟨⟨y2, eS⟩, d⟩ => by
      subst eS
      obtain ⟨s2, e2, d2⟩ := rows_turn c (by omega) d s none none k
      have a0 : asg C (tgtS rowsF) (.int k) (lawE s y2 none none) st' = .ok (lawE s (some (.int k)) none none) st' := a_nam
      refine ⟨lawE s (some (.int k)) none none, s2, ?_, ⟨_, rfl⟩, d2.mono (by omega)⟩
      rw [a0, out_ok]
      exact e2
  subst eS
  exact ⟨y2, st', z.trans e, d.mono (by omega)⟩
theorem nets_run (c : Cal C) {B : Int} (hB : B + 20000 < 2 ^ 40) (h : DrSt B st) (s y2 : Option D) : ∃ y2' y8 y9 st', exec C WW netsF (lawE s y2 none none) st = .nxt (lawE s y2' y8 y9) st' ∧ DrSt (B + 2400) st' := by
  have z : exec C WW netsF (lawE s y2 none none) st = _ := x_frr (i_range (n := 6) e_con (by omega))
  obtain ⟨S', st', e, ⟨y2', y8, y9, eS⟩, d⟩ := for_range (b := fun x S st => (asg C (tgtS netsF) x S st).out fun S st => execs C WW (bodS netsF) S st)
    (fun k S' st' => (∃ y2 y8 y9, S' = lawE s y2 y8 y9) ∧ DrSt (B + 400 * (k : Int)) st') 6 (S := lawE s y2 none none) (st := st) ⟨⟨y2, none, none, rfl⟩, by simpa using h⟩ fun k S' st' hk ⟨⟨z2, y8, y9, eS⟩, d⟩ => by
      subst eS
      obtain ⟨z8, z9, s2, e2, d2⟩ := nets_turn c (by omega) d s y8 y9 k
      have a0 : asg C (tgtS netsF) (.int k) (lawE s z2 y8 y9) st' = .ok (lawE s (some (.int k)) y8 y9) st' := a_nam
      refine ⟨lawE s (some (.int k)) z8 z9, s2, ?_, ⟨_, _, _, rfl⟩, d2.mono (by omega)⟩
      rw [a0, out_ok]
      exact e2
  subst eS
  exact ⟨y2', y8, y9, st', z.trans e, d.mono (by omega)⟩
end
end DI.Law

set_option Elab.async false
set_option linter.all false
set_option maxRecDepth 100000
set_option maxHeartbeats 2000000
/-! the law: four draws -/
namespace DI.Law
open PySem L2 DI FR
section
variable {C : Calls} {st : Store}
abbrev lawD (s y2 y8 y9 : Option D) (a b c d : Nat) : Env := [s, some (.obj 0), y2, none, some (.int a), some (.int b), some (.int c), some (.int d), y8, y9, none]
theorem four_run (c : Cal C) {B : Int} (hB : B + 100 < 2 ^ 40) (h : DrSt B st) (s y2 y8 y9 : Option D) : ∃ a b c' d st', exec C WW (nthS 3 f_law.body) (lawE s y2 y8 y9) st = .nxt (lawD s y2 y8 y9 a b c' d) st' ∧ a < 3 ∧ b < 3 ∧ c' < 3 ∧ d < 3 := by
  obtain ⟨a, s1, e1, ha, d1⟩ := drw_nat c.drw 3 (by omega) h (by omega) (by omega)
  obtain ⟨b, s2, e2, hb, d2⟩ := drw_nat c.drw 3 (by omega) d1 (by omega) (by omega)
  obtain ⟨m, s3, e3, hm, d3⟩ := drw_nat c.drw 3 (by omega) d2 (by omega) (by omega)
  obtain ⟨d, s4, e4, hd, d4⟩ := drw_nat c.drw 3 (by omega) d3 (by omega) (by omega)
  have one : ∀ (k v : Nat) (sa sb : Store), C 7 [.obj 0, .int ((3 : Nat) : Int)] sa = .ok (.int v) sb → trn C (lawE s y2 y8 y9) [10] (.cal 7 "_law_draw" (.cons (.var 1) (.cons (.con (.int 3)) .nil))) (.nam 10) .nil (.int k) sa = .ok (some (.int v)) sb := fun k v sa sb e =>
    t_one (S2 := [s, some (.obj 0), y2, none, none, none, none, none, y8, y9, some (.int k)]) (st1 := sa) a_nam (e_drawV (i := 1) rfl e_con e)
  have hc : compR (trn C (lawE s y2 y8 y9) [10] (.cal 7 "_law_draw" (.cons (.var 1) (.cons (.con (.int 3)) .nil))) (.nam 10) .nil) ((List.range 4).map fun (x : Nat) => D.int x) st = .ok [.int a, .int b, .int m, .int d] s4 := by
    show compR _ [D.int (0 : Nat), D.int (1 : Nat), D.int (2 : Nat), D.int (3 : Nat)] st = _
    simp only [compR, one _ _ _ _ e1, one _ _ _ _ e2, one _ _ _ _ e3, one _ _ _ _ e4, R.bind]
  have hi : itm C (lawE s y2 y8 y9) (.rng (.cons (.con (.int 4)) .nil)) st = .ok ((List.range 4).map fun (x : Nat) => D.int x) st := i_range (n := 4) e_con (by omega)
  exact ⟨a, b, m, d, s4, x_unp (e_lcp hi hc (by simp)) (by rw [asg]; rfl), ha, hb, hm, hd⟩
end
end DI.Law

set_option Elab.async false
set_option linter.all false
set_option maxRecDepth 100000
set_option maxHeartbeats 2000000
/-! the law: the row of twelve -/
namespace DI.Law
open PySem L2 DI FR
section
variable {C : Calls} {st : Store}
def rowL (a b c d : Nat) : List Int := [a, b, c, d, a, a, b, d, c, c, d, b]
abbrev lawR (s y2 y8 y9 : Option D) (a b c d : Nat) : Env := [s, some (.obj 0), y2, some (lI (rowL a b c d)), some (.int a), some (.int b), some (.int c), some (.int d), y8, y9, none]
theorem row_val {a b c d : Nat} (ha : a < 3) (hb : b < 3) (hc : c < 3) (hd : d < 3) : Val (rowL a b c d) := fun x hx => by
  simp only [rowL, List.mem_cons, List.not_mem_nil, or_false] at hx
  rcases hx with rfl | rfl | rfl | rfl | rfl | rfl | rfl | rfl | rfl | rfl | rfl | rfl <;> exact val_small (by omega)
theorem k5 (cc : Cal C) {s y2 y8 y9 : Option D} {a b c d : Nat} (ha : a < 3) (hb : b < 3) (hc : c < 3) (hd : d < 3) : exec C WW (nthS 5 f_law.body) (lawR s y2 y8 y9 a b c d) st = .nxt (lawR s y2 y8 y9 a b c d) st := by
  obtain ⟨t, et, ot⟩ := repr_t (row_val ha hb hc hd).rev (by simp [rowL])
  have v := e_revL (C := C) (st := st) (S := lawR s y2 y8 y9 a b c d) (a := .var 3) (e_var rfl)
  rw [rev_l] at v
  have args := (e_cal (C := C) (f := 24) (n := "back") (S := lawR s y2 y8 y9 a b c d) (st := st) (es_cons (e_var (i := 4) rfl) (es_cons (e_var (i := 5) rfl) (es_cons (e_var (i := 6) rfl) (es_cons (e_var (i := 7) rfl) (es_cons (e_var (i := 4) rfl) (es_cons (e_var (i := 4) rfl) (es_cons (e_var (i := 5) rfl) (es_cons (e_var (i := 7) rfl) (es_cons (e_var (i := 6) rfl) (es_cons (e_var (i := 6) rfl) (es_cons (e_var (i := 7) rfl) (es_cons (e_var (i := 5) rfl) es_nil))))))))))))).trans (cc.back (rowL a b c d) st (by simp [rowL]))
  exact (x_iffF (e_cmp (x := .str t) (y := .str t) (e_blt (es_cons args es_nil) et) (e_blt (es_cons (e_blt (bi := .tuple) (z := tI' (rowL a b c d).reverse) (es_cons v es_nil) rfl) es_nil) et) (ne_str t ot)) rfl).trans s_nil
theorem k6 (cc : Cal C) {s y2 y8 y9 : Option D} {a b c d : Nat} (ha : a < 3) (hb : b < 3) (hc : c < 3) (hd : d < 3) : exec C WW (nthS 6 f_law.body) (lawR s y2 y8 y9 a b c d) st = .nxt (lawR s y2 y8 y9 a b c d) st := by
  obtain ⟨t, et, ot⟩ := repr_t (row_val ha hb hc hd).red (by have := rd_le (rowL a b c d); simp [rowL] at this ⊢; omega)
  have args := (e_cal (C := C) (f := 25) (n := "reduced") (S := lawR s y2 y8 y9 a b c d) (st := st) (es_cons (e_var (i := 4) rfl) (es_cons (e_var (i := 5) rfl) (es_cons (e_var (i := 6) rfl) (es_cons (e_var (i := 7) rfl) (es_cons (e_var (i := 4) rfl) (es_cons (e_var (i := 4) rfl) (es_cons (e_var (i := 5) rfl) (es_cons (e_var (i := 7) rfl) (es_cons (e_var (i := 6) rfl) (es_cons (e_var (i := 6) rfl) (es_cons (e_var (i := 7) rfl) (es_cons (e_var (i := 5) rfl) es_nil))))))))))))).trans (cc.redu (rowL a b c d) st (by simp [rowL]))
  have bb := (e_cal (C := C) (f := 34) (n := "_law_bare") (S := lawR s y2 y8 y9 a b c d) (st := st) (es_cons (e_var (i := 3) rfl) es_nil)).trans (cc.bare (rowL a b c d) st (by simp [rowL]))
  exact (x_iffF (e_cmp (x := .str t) (y := .str t) (e_blt (es_cons args es_nil) et) (e_blt (es_cons bb es_nil) et) (ne_str t ot)) rfl).trans s_nil
end
end DI.Law

set_option Elab.async false
set_option linter.all false
set_option maxRecDepth 100000
set_option maxHeartbeats 2000000
/-! the law: the last statements -/
namespace DI.Law
open PySem L2 DI FR
section
variable {C : Calls} {st : Store}
theorem k7 (cc : Cal C) {S : Env} : exec C WW (nthS 7 f_law.body) S st = .nxt S st := by
  have a1 := (e_cal (C := C) (f := 25) (n := "reduced") (S := S) (st := st) (es_cons (e_con (d := .int 1)) (es_cons (e_con (d := .int 2)) (es_cons (e_con (d := .int 3)) (es_cons (e_con (d := .int 4)) (es_cons (e_con (d := .int 5)) (es_cons (e_con (d := .int 6)) (es_cons (e_con (d := .int 6)) (es_cons (e_con (d := .int 5)) (es_cons (e_con (d := .int 4)) (es_cons (e_con (d := .int 3)) (es_cons (e_con (d := .int 2)) (es_cons (e_con (d := .int 1)) es_nil))))))))))))).trans (cc.redu [1, 2, 3, 4, 5, 6, 6, 5, 4, 3, 2, 1] st (by simp))
  have a2 := (e_cal (C := C) (f := 25) (n := "reduced") (S := S) (st := st) (es_cons (e_con (d := .int 7)) (es_cons (e_con (d := .int 1)) (es_cons (e_con (d := .int 2)) (es_cons (e_con (d := .int 3)) (es_cons (e_con (d := .int 4)) (es_cons (e_con (d := .int 4)) (es_cons (e_con (d := .int 3)) (es_cons (e_con (d := .int 2)) (es_cons (e_con (d := .int 1)) (es_cons (e_con (d := .int 8)) es_nil))))))))))).trans (cc.redu [7, 1, 2, 3, 4, 4, 3, 2, 1, 8] st (by simp))
  have b1 := e_cmp (op := .NotEq) a1 (e_tup es_nil (by simp)) (ne_t _ [])
  have b2 := e_cmp (op := .NotEq) a2 (e_tup (es_cons (e_con (d := .int 7)) (es_cons (e_con (d := .int 8)) es_nil)) (by simp)) (ne_t _ [7, 8])
  rw [show red ([1, 2, 3, 4, 5, 6, 6, 5, 4, 3, 2, 1] : List Int) = [] by decide +kernel] at b1
  rw [show red ([7, 1, 2, 3, 4, 4, 3, 2, 1, 8] : List Int) = [7, 8] by decide +kernel] at b2
  exact (x_iffF ((e_orF b1 rfl).trans b2) rfl).trans s_nil
end
end DI.Law

set_option Elab.async false
set_option linter.all false
set_option maxRecDepth 100000
set_option maxHeartbeats 2000000
/-! the law; the levels -/
namespace DI.Law
open PySem L2 DI FR
section
variable {C : Calls} {st : Store}
theorem k8 (cc : Cal C) {S : Env} : ev C S (retE (nthS 8 f_law.body)) st = .ok (.bl true) st := by
  obtain ⟨s, es, os⟩ := repr_lt (l := [[], [], [], [1]]) (fun c hc => by
    simp only [List.mem_cons, List.not_mem_nil, or_false] at hc
    rcases hc with rfl | rfl | rfl | rfl
    · exact fun x hx => absurd hx (by simp)
    · exact fun x hx => absurd hx (by simp)
    · exact fun x hx => absurd hx (by simp)
    · exact fun x hx => by rw [List.mem_singleton.mp hx]; decide +kernel) (fun c hc => by
    simp only [List.mem_cons, List.not_mem_nil, or_false] at hc
    rcases hc with rfl | rfl | rfl | rfl <;> simp) (by simp)
  have a1 := (e_cal (C := C) (f := 24) (n := "back") (S := S) (st := st) es_nil).trans (cc.back [] st (by simp))
  have a2 := (e_cal (C := C) (f := 25) (n := "reduced") (S := S) (st := st) es_nil).trans (cc.redu [] st (by simp))
  have a3 := (e_cal (C := C) (f := 25) (n := "reduced") (S := S) (st := st) (es_cons (e_con (d := .int 3)) (es_cons (e_con (d := .int 3)) es_nil))).trans (cc.redu [3, 3] st (by simp))
  have a4 := (e_cal (C := C) (f := 25) (n := "reduced") (S := S) (st := st) (es_cons (e_con (d := .int 0)) (es_cons (e_con (d := .int 1)) (es_cons (e_con (d := .int 1)) (es_cons (e_con (d := .int 0)) (es_cons (e_con (d := .int 1)) es_nil)))))).trans (cc.redu [0, 1, 1, 0, 1] st (by simp))
  rw [show red ([] : List Int) = [] by decide +kernel] at a2
  rw [show red ([3, 3] : List Int) = [] by decide +kernel] at a3
  rw [show red ([0, 1, 1, 0, 1] : List Int) = [1] by decide +kernel] at a4
  exact e_cmp (x := .str s) (y := .str s) (e_blt (es_cons (e_lst (es_cons a1 (es_cons a2 (es_cons a3 (es_cons a4 es_nil)))) (by simp)) es_nil) es)
    (e_blt (es_cons (e_lst (es_cons (e_tup es_nil (by simp)) (es_cons (e_tup es_nil (by simp)) (es_cons (e_tup es_nil (by simp)) (es_cons (e_tup (es_cons (e_con (d := .int 1)) es_nil) (by simp)) es_nil)))) (by simp)) es_nil) es) (eq_str s os)
theorem k4 {s y2 y8 y9 : Option D} {a b c d : Nat} : exec C WW (nthS 4 f_law.body) (lawD s y2 y8 y9 a b c d) st = .nxt (lawR s y2 y8 y9 a b c d) st :=
  x_set (e_lst (es_cons (e_var (i := 4) rfl) (es_cons (e_var (i := 5) rfl) (es_cons (e_var (i := 6) rfl) (es_cons (e_var (i := 7) rfl) (es_cons (e_var (i := 4) rfl) (es_cons (e_var (i := 4) rfl) (es_cons (e_var (i := 5) rfl) (es_cons (e_var (i := 7) rfl) (es_cons (e_var (i := 6) rfl) (es_cons (e_var (i := 6) rfl) (es_cons (e_var (i := 7) rfl) (es_cons (e_var (i := 5) rfl) es_nil)))))))))))) (by simp [rowL]))
theorem r_law (c : Cal C) (ns : List Int) (hl : ns.length ≤ 63) : ∃ st', runF C WW f_law [.scr ns] [] = .ok (.bl true) st' := by
  obtain ⟨s0, e0, d0⟩ := c.beg ns hl
  have k0 : exec C WW (nthS 0 f_law.body) [some (.scr ns), none, none, none, none, none, none, none, none, none, none] [] = .nxt (lawE (some (.scr ns)) none none none) s0 := x_set ((e_cal (es_cons (e_var rfl) es_nil)).trans e0)
  obtain ⟨y2, s1, k1, d1⟩ := rows_run c (by omega) d0 (some (.scr ns))
  obtain ⟨z2, y8, y9, s2, k2, d2⟩ := nets_run c (by omega) d1 (some (.scr ns)) y2
  obtain ⟨a, b, m, d, s3, k3, ha, hb, hm, hd⟩ := four_run c (by omega) d2 (some (.scr ns)) z2 y8 y9
  exact ⟨_, run_ret (S0 := [some (.scr ns), none, none, none, none, none, none, none, none, none, none]) ((s_nxt k0).trans ((s_nxt k1).trans ((s_nxt k2).trans ((s_nxt k3).trans ((s_nxt k4).trans ((s_nxt (k5 c ha hb hm hd)).trans ((s_nxt (k6 c ha hb hm hd)).trans ((s_nxt (k7 c)).trans (s_ret (x_ret (k8 c))))))))))) rfl⟩
/-! the levels -/
theorem call_of {k f : Nat} {ds l : List D} {st : Store} {F : Fn} (hf : fns[f]? = some F) (hb : bindE F ds = some l) (hg : F.gen = none) : callN fns WW (k + 1) f ds st = runF (callN fns WW k) WW F l st := by
  rw [callN]
  dsimp only
  rw [hf]
  show (match bindE F ds with | none => R.no | some l => match F.gen with | none => runF (callN fns WW k) WW F l st | some b => runG (callN fns WW k) WW F b l st) = _
  rw [hb]
  show (match F.gen with | none => runF (callN fns WW k) WW F l st | some b => runG (callN fns WW k) WW F b l st) = _
  rw [hg]
theorem call_gen {k f : Nat} {ds l : List D} {st : Store} {F : Fn} {b : IGs} (hf : fns[f]? = some F) (hb : bindE F ds = some l) (hg : F.gen = some b) : callN fns WW (k + 1) f ds st = runG (callN fns WW k) WW F b l st := by
  rw [callN]
  dsimp only
  rw [hf]
  show (match bindE F ds with | none => R.no | some l => match F.gen with | none => runF (callN fns WW k) WW F l st | some b => runG (callN fns WW k) WW F b l st) = _
  rw [hb]
  show (match F.gen with | none => runF (callN fns WW k) WW F l st | some b => runG (callN fns WW k) WW F b l st) = _
  rw [hg]
theorem q0 (k : Nat) (i : Int) (st : Store) : callN fns WW (k + 1) 0 [.int i] st = .ok (.bl true) st := (call_of rfl rfl rfl).trans (r_is_integer i)
theorem q1 (k : Nat) : Below (callN fns WW (k + 2)) := fun i j st => (call_of rfl rfl rfl).trans (r_is_below (q0 k) i j)
theorem q2 (k : Nat) : Passage (callN fns WW (k + 3)) := fun n p st h1 h2 => (call_of rfl rfl rfl).trans (r_is_passage (q1 k) h1 h2)
theorem q3 (k : Nat) : Reach (callN fns WW (k + 1)) := fun n a ps wd w st h1 h2 h3 h4 => (call_of rfl rfl rfl).trans (r_reached h1 h2 h3 h4)
theorem q4 (k : Nat) : Prob (callN fns WW (k + 4)) := fun n ps st h => (call_of rfl rfl rfl).trans (r_problem (q0 (k + 2)) (q2 k) (q3 (k + 2)) h)
theorem q5 (k : Nat) (c n : Int) (hc : 0 ≤ c ∧ c < 2 ^ 60) (hn : 0 ≤ n ∧ n < 2 ^ 50) : ∃ v : Int, 0 ≤ v ∧ v < 2 ^ 32 ∧ ∀ st, callN fns WW (k + 1) 5 [.int c, .int n] st = .ok (.int v) st := by
  obtain ⟨v, h0, h1, e⟩ := r_mixed (C := callN fns WW k) hc hn
  exact ⟨v, h0, h1, fun st => (call_of rfl rfl rfl).trans (e st)⟩
theorem q6 (k : Nat) (ns : List Int) (st : Store) : ∃ f, Cel f ∧ callN fns WW (k + 1) 6 [.scr ns] st = .ok (lI f) st := by
  obtain ⟨f, h, e⟩ := r_folded (C := callN fns WW k) ns st
  exact ⟨f, h, (call_of rfl rfl rfl).trans e⟩
theorem q7 (k : Nat) : Drw (callN fns WW (k + 2)) := fun B st top hB h h0 h1 => by
  obtain ⟨v, st', e, z⟩ := r_draw (C := callN fns WW (k + 1)) (q5 k) hB h h0 h1
  exact ⟨v, st', (call_of rfl rfl rfl).trans e, z⟩
theorem q7R (k : Nat) : DrwR (callN fns WW (k + 2)) := fun R B st top hB h h0 h1 => by
  obtain ⟨v, st', e, z⟩ := r_drawR (C := callN fns WW (k + 1)) (q5 k) hB h h0 h1
  exact ⟨v, st', (call_of rfl rfl rfl).trans e, z⟩
theorem q8 (k : Nat) (ns : List Int) (hl : ns.length ≤ 63) : ∃ st', callN fns WW (k + 2) 8 [.scr ns] [] = .ok (.obj 0) st' ∧ DrSt 0 st' := by
  obtain ⟨st', e, h⟩ := r_begun (C := callN fns WW (k + 1)) (q6 k) ns hl
  exact ⟨st', (call_of rfl rfl rfl).trans e, h⟩
theorem q9 (k : Nat) : Mix (callN fns WW (k + 3)) := fun B st things hl hB h => by
  obtain ⟨q, st', e, z⟩ := r_mixed_up (q7 k) hl hB h
  exact ⟨q, st', (call_of rfl rfl rfl).trans e, z⟩
theorem q9R (k : Nat) : MixR (callN fns WW (k + 3)) := fun R B st things hl hB h => by
  obtain ⟨q, st', e, z⟩ := r_mixed_upR (q7R k) hl hB h
  exact ⟨q, st', (call_of rfl rfl rfl).trans e, z⟩
theorem q10 (k : Nat) : Tie (callN fns WW (k + 1)) := fun a b st => (call_of rfl rfl rfl).trans (r_tie a b)
theorem q11 (k : Nat) : Tree (callN fns WW (k + 3)) := fun B st many low h1 h2 h3 hB h => by
  obtain ⟨es, st', e, z⟩ := r_tree (q10 (k + 1)) (q7 k) h1 h2 h3 hB h
  exact ⟨es, st', (call_of rfl rfl rfl).trans e, z⟩
theorem q12 (k : Nat) : Ring (callN fns WW (k + 2)) := fun p st h => (call_of rfl rfl rfl).trans (r_ring (q10 k) h)
theorem q13 (k : Nat) : Core (callN fns WW (k + 3)) := fun B st hB h => by
  obtain ⟨es, st', e, z⟩ := r_core (q12 k) (q7 k) hB h
  exact ⟨es, st', (call_of rfl rfl rfl).trans e, z⟩
theorem q14 (k : Nat) : Shift (callN fns WW (k + 2)) := fun ps low hinge st h1 h2 h3 => (call_of rfl rfl rfl).trans (r_shift (q10 k) h1 h2 h3)
theorem q15 (k : Nat) : Top (callN fns WW (k + 1)) := fun ps st h => (call_of rfl rfl rfl).trans (r_top h)
theorem q16 (k : Nat) : Named (callN fns WW (k + 4)) := fun B st n ps hn hB h => by
  obtain ⟨qs, st', e, z⟩ := r_named (q10 (k + 2)) (q9 k) hn (by omega) h
  exact ⟨qs, st', (call_of rfl rfl rfl).trans e, z⟩
theorem q17 (k : Nat) : Ties (callN fns WW (k + 5)) := fun B st c t m h1 h2 h3 hB h => by
  obtain ⟨n, qs, st', e, z⟩ := r_ties (q10 (k + 3)) (q7 (k + 2)) (q13 (k + 1)) (q14 (k + 2)) (q15 (k + 3)) (q11 (k + 1)) (q16 k) h1 h2 h3 hB h
  exact ⟨n, qs, st', (call_of rfl rfl rfl).trans e, z⟩
theorem q18 (k : Nat) : Doors (callN fns WW (k + 1)) := fun ps x st h => (call_of rfl rfl rfl).trans (r_doors h)
theorem q27 (k : Nat) : New (callN fns WW (k + 5)) := fun n ps st h => (call_of rfl rfl rfl).trans (r_init (q3 (k + 3)) (q4 k) h)
theorem qprops (k : Nat) : Props (callN fns WW (k + 5)) := ⟨q27 k, fun i n ps st h => (call_of rfl rfl rfl).trans (r_len h), fun i n ps st h => (call_of rfl rfl rfl).trans (r_places h), fun i n ps st h => (call_of rfl rfl rfl).trans (r_passages h)⟩
theorem bind_star {F : Fn} {l r : List D} (hs : F.star = true) (hp : F.np = l.length) (hl : l.length ≤ 100) (hr : r.length ≤ 10000) : bindE F (l ++ r) = some (l ++ [.tup r]) := by
  unfold bindE
  rw [hs, hp, if_pos rfl, if_pos ⟨by simp, by rw [List.length_append]; omega⟩, List.take_left, List.drop_left]
theorem tN_eq (r : List Nat) : tN r = .tup (r.map fun (x : Nat) => D.int x) := by
  unfold tN
  first
    | rfl
    | (congr 1; simp)
theorem q24 (k : Nat) : Back (callN fns WW (k + 1)) := fun l st h => (call_of rfl (bind_star (F := f_back) (l := []) (r := l.map D.int) rfl rfl (by simp) (by rw [List.length_map]; omega)) rfl).trans (r_back l)
theorem q25 (k : Nat) : Redu (callN fns WW (k + 1)) := fun l st h => (call_of rfl (bind_star (F := f_reduced) (l := []) (r := l.map D.int) rfl rfl (by simp) (by rw [List.length_map]; omega)) rfl).trans (r_redu h)
theorem q32 (k : Nat) : Backed (callN fns WW (k + 2)) := fun l st h => (call_of rfl rfl rfl).trans (r_backed (q24 k) h)
theorem q33 (k : Nat) : Cut (callN fns WW (k + 2)) := fun l st h => (call_of rfl rfl rfl).trans (r_cut (q25 k) h)
theorem q34 (k : Nat) : Bare (callN fns WW (k + 1)) := fun l st h => (call_of rfl rfl rfl).trans (r_bare h)
theorem q36 (k : Nat) : Right (callN fns WW (k + 3)) := fun l st h1 h2 => (call_of rfl rfl rfl).trans (r_right (q32 k) (q33 k) (q34 (k + 1)) h1 h2)
theorem q35 (k : Nat) : Row (callN fns WW (k + 3)) := fun B st hB h => by
  obtain ⟨l, st', e, z⟩ := r_row (q7 k) hB h
  exact ⟨l, st', (call_of rfl rfl rfl).trans e, z⟩
theorem q19 (k : Nat) : Perm19 (callN fns WW (k + 3)) := fun t st h1 h2 => (call_of rfl rfl rfl).trans (r_perm (q1 k) h1 h2)
theorem q20 (k : Nat) : Chk (callN fns WW (k + 6)) := fun i n ps s st h1 h2 h3 => (call_of rfl rfl rfl).trans (r_check (qprops k) (q1 (k + 3)) (q19 (k + 2)) h1 h2 h3)
theorem q21 (k : Nat) : IsStep (callN fns WW (k + 6)) := fun i n h a ps st h1 h2 h3 => (call_of rfl rfl rfl).trans (r_isstep (qprops k) (q1 (k + 3)) h1 h2 h3)
theorem q39 (k : Nat) : FarEnd (callN fns WW (k + 3)) := fun i n h a ps st h1 h2 h3 => (call_of rfl rfl rfl).trans (r_farend (q1 k) h1 h2 h3)
theorem q22 (k : Nat) : Stepped (callN fns WW (k + 4)) := fun i n a ps s st h1 h2 h3 h4 => (call_of rfl rfl rfl).trans (r_stepped (q39 k) h1 h2 h3 h4)
theorem q42 (k : Nat) : Trace (callN fns WW (k + 7)) := fun i n ps s r st h1 h2 h3 h4 h5 => by
  obtain ⟨ds, e, z⟩ := r_trace (C := callN fns WW (k + 6)) (q20 k) (q21 k) (q22 (k + 2)) h1 h2 h3 h4 h5
  exact ⟨ds, (call_gen (b := g_trace) rfl (bind_star (F := f_trace) (l := [.obj i, stD s]) (r := r.map fun (x : Nat) => D.int x) rfl rfl (by simp) (by rw [List.length_map]; omega)) rfl).trans (by rw [tN_eq] at e; exact e), z⟩
theorem q23 (k : Nat) : After (callN fns WW (k + 8)) := fun i n ps s r st h1 h2 h3 h4 h5 =>
  (call_of rfl (bind_star (F := f_after) (l := [.obj i, stD s]) (r := r.map fun (x : Nat) => D.int x) rfl rfl (by simp) (by rw [List.length_map]; omega)) rfl).trans (by have e := r_after (q42 k) h1 h2 h3 h4 h5; rw [tN_eq] at e; exact e)
theorem q28 (k : Nat) : Moved (callN fns WW (k + 1)) := fun ps s a st h1 h2 h3 => (call_of rfl rfl rfl).trans (r_moved h1 h2 h3)
theorem q29 (k : Nat) : LAfter (callN fns WW (k + 2)) := fun ps s r st h1 h2 h3 => (call_of rfl rfl rfl).trans (r_lafter (q28 k) h1 h2 h3)
theorem q30 (k : Nat) : Road (callN fns WW (k + 3)) := fun R B st n h m ps hB g hn hh hm => by
  obtain ⟨r, st', e, z⟩ := r_road (q18 (k + 1)) (q7R k) hB g hn hh hm
  exact ⟨r, st', (call_of rfl rfl rfl).trans e, z⟩
theorem q31 (k : Nat) : Passed (callN fns WW (k + 9)) := fun i n ps s r st h1 h2 h3 h4 h5 => (call_of rfl rfl rfl).trans (r_passed (q23 k) h1 h2 h3 h4 h5)
theorem q37 (k : Nat) : WalkRight (callN fns WW (k + 10)) := fun R B st i n ps hb g hi ht hn => by
  obtain ⟨st', e, z⟩ := r_walk_right (qprops (k + 4)) (q7R (k + 7)) (q9R (k + 6)) (q30 (k + 6)) (q36 (k + 6)) (q32 (k + 7)) (q33 (k + 7)) (q29 (k + 7)) (q31 k) hb g hi ht hn
  exact ⟨st', (call_of rfl rfl rfl).trans e, z⟩
theorem qcal (k : Nat) : Cal (callN fns WW (k + 10)) := ⟨qprops (k + 5), q7 (k + 8), q8 (k + 8), q17 (k + 5), q36 (k + 7), q35 (k + 7), q37 k, q24 (k + 9), q25 (k + 9), q34 (k + 9)⟩
theorem law_true : ∀ ns : List Int, ns.length ≤ 63 → ∃ st, callN fns WW 12 26 [.scr ns] [] = .ok (.bl true) st := fun ns hl => by
  obtain ⟨st, e⟩ := r_law (qcal 1) ns hl
  exact ⟨st, (call_of rfl rfl rfl).trans e⟩
end
end DI.Law

set_option Elab.async false
open PySem PySem.W PyProof.Rows in
set_option maxRecDepth 100000 in
set_option maxHeartbeats 0 in
theorem PySem.Challenge.cw_handwalk_k09_walks_turned_holds : PySem.Challenge.rw_handwalk_k09_walks_turned.Holds := by
  w_on; o_law; k_head; (case hw => w_witness2)
  k_fill
  refine DI.walk_ofG (l := PySem.Challenge.rw_handwalk_k09_walks_turned) (n := 63) (k := 12) rfl (by decide) rfl ⟨rfl, rfl, by decide, by decide⟩ (fun w h Y => PySem.W.kIn_of Y) ?F
  case F =>
    intro w mg fa h KX G hmg
    refine' DI.Law.all_mk KX G hmg ?aC ?pg ?hd ?po ?sa ?mk ?kc ?n_weak ?n_pieces ?n_many ?n_joints ?rd ?ga ?m_MAX_PLACES ?m_MAX_PASSAGES ?a0 ?l0 ?c0 ?k0 ?a1 ?l1 ?c1 ?k1 ?a2 ?l2 ?c2 ?k2 ?a3 ?l3 ?c3 ?k3 ?a4 ?l4 ?c4 ?k4 ?a5 ?l5 ?c5 ?k5 ?a6 ?l6 ?c6 ?k6 ?a7 ?l7 ?c7 ?k7 ?a8 ?l8 ?c8 ?k8 ?a9 ?l9 ?c9 ?k9 ?a10 ?l10 ?c10 ?k10 ?a11 ?l11 ?c11 ?k11 ?a12 ?l12 ?c12 ?k12 ?a13 ?l13 ?c13 ?k13 ?a14 ?l14 ?c14 ?k14 ?a15 ?l15 ?c15 ?k15 ?a16 ?l16 ?c16 ?k16 ?a17 ?l17 ?c17 ?k17 ?a18 ?l18 ?c18 ?k18 ?a19 ?l19 ?c19 ?k19 ?a20 ?l20 ?c20 ?k20 ?a21 ?l21 ?c21 ?k21 ?a22 ?l22 ?c22 ?k22 ?a23 ?l23 ?c23 ?k23 ?a24 ?l24 ?c24 ?k24 ?a25 ?l25 ?c25 ?k25 ?a26 ?l26 ?c26 ?k26 ?a27 ?i27 ?l27 ?c27 ?k27 ?a28 ?l28 ?c28 ?k28 ?a29 ?l29 ?c29 ?k29 ?a30 ?l30 ?c30 ?k30 ?a31 ?l31 ?c31 ?k31 ?a32 ?l32 ?c32 ?k32 ?a33 ?l33 ?c33 ?k33 ?a34 ?l34 ?c34 ?k34 ?a35 ?l35 ?c35 ?k35 ?a36 ?l36 ?c36 ?k36 ?a37 ?l37 ?c37 ?k37 ?a38 ?i38 ?l38 ?c38 ?k38 ?a39 ?i39 ?l39 ?c39 ?k39 ?a40 ?g40 ?t40 ?r40 ?l40 ?c40 ?k40 ?a41 ?g41 ?t41 ?r41 ?l41 ?c41 ?k41 ?a42 ?l42 ?c42 ?k42 ?z_len ?z_list ?z_tuple ?z_sum ?z_all ?z_any ?z_min ?z_max ?z_sorted ?z_abs ?z_isinstance ?z_range ?z_enumerate ?z_zip ?z_set ?z_int ?z_bool ?z_str ?z_repr DI.Law.law_true
    (case aC => k_is)
    (case pg => k_is)
    (case hd => k_is)
    (case po => k_is)
    (case sa => k_is)
    (case mk => k_is)
    (case kc => k_is)
    (case n_weak => k_is)
    (case n_pieces => k_is)
    (case n_many => k_is)
    (case n_joints => k_is)
    (case rd => k_is)
    (case ga => k_is)
    (case m_MAX_PLACES => k_is)
    (case m_MAX_PASSAGES => k_is)
    (case a0 => k_is)
    (case l0 => k_is)
    (case c0 => k_is)
    (case k0 => k_is)
    (case a1 => k_is)
    (case l1 => k_is)
    (case c1 => k_is)
    (case k1 => k_is)
    (case a2 => k_is)
    (case l2 => k_is)
    (case c2 => k_is)
    (case k2 => k_is)
    (case a3 => k_is)
    (case l3 => k_is)
    (case c3 => k_is)
    (case k3 => k_is)
    (case a4 => k_is)
    (case l4 => k_is)
    (case c4 => k_is)
    (case k4 => k_is)
    (case a5 => k_is)
    (case l5 => k_is)
    (case c5 => k_is)
    (case k5 => k_is)
    (case a6 => k_is)
    (case l6 => k_is)
    (case c6 => k_is)
    (case k6 => k_is)
    (case a7 => k_is)
    (case l7 => k_is)
    (case c7 => k_is)
    (case k7 => k_is)
    (case a8 => k_is)
    (case l8 => k_is)
    (case c8 => k_is)
    (case k8 => k_is)
    (case a9 => k_is)
    (case l9 => k_is)
    (case c9 => k_is)
    (case k9 => k_is)
    (case a10 => k_is)
    (case l10 => k_is)
    (case c10 => k_is)
    (case k10 => k_is)
    (case a11 => k_is)
    (case l11 => k_is)
    (case c11 => k_is)
    (case k11 => k_is)
    (case a12 => k_is)
    (case l12 => k_is)
    (case c12 => k_is)
    (case k12 => k_is)
    (case a13 => k_is)
    (case l13 => k_is)
    (case c13 => k_is)
    (case k13 => k_is)
    (case a14 => k_is)
    (case l14 => k_is)
    (case c14 => k_is)
    (case k14 => k_is)
    (case a15 => k_is)
    (case l15 => k_is)
    (case c15 => k_is)
    (case k15 => k_is)
    (case a16 => k_is)
    (case l16 => k_is)
    (case c16 => k_is)
    (case k16 => k_is)
    (case a17 => k_is)
    (case l17 => k_is)
    (case c17 => k_is)
    (case k17 => k_is)
    (case a18 => k_is)
    (case l18 => k_is)
    (case c18 => k_is)
    (case k18 => k_is)
    (case a19 => k_is)
    (case l19 => k_is)
    (case c19 => k_is)
    (case k19 => k_is)
    (case a20 => k_is)
    (case l20 => k_is)
    (case c20 => k_is)
    (case k20 => k_is)
    (case a21 => k_is)
    (case l21 => k_is)
    (case c21 => k_is)
    (case k21 => k_is)
    (case a22 => k_is)
    (case l22 => k_is)
    (case c22 => k_is)
    (case k22 => k_is)
    (case a23 => k_is)
    (case l23 => k_is)
    (case c23 => k_is)
    (case k23 => k_is)
    (case a24 => k_is)
    (case l24 => k_is)
    (case c24 => k_is)
    (case k24 => k_is)
    (case a25 => k_is)
    (case l25 => k_is)
    (case c25 => k_is)
    (case k25 => k_is)
    (case a26 => k_is)
    (case l26 => k_is)
    (case c26 => k_is)
    (case k26 => k_is)
    (case a27 => k_is)
    (case i27 => k_is)
    (case l27 => k_is)
    (case c27 => k_is)
    (case k27 => k_is)
    (case a28 => k_is)
    (case l28 => k_is)
    (case c28 => k_is)
    (case k28 => k_is)
    (case a29 => k_is)
    (case l29 => k_is)
    (case c29 => k_is)
    (case k29 => k_is)
    (case a30 => k_is)
    (case l30 => k_is)
    (case c30 => k_is)
    (case k30 => k_is)
    (case a31 => k_is)
    (case l31 => k_is)
    (case c31 => k_is)
    (case k31 => k_is)
    (case a32 => k_is)
    (case l32 => k_is)
    (case c32 => k_is)
    (case k32 => k_is)
    (case a33 => k_is)
    (case l33 => k_is)
    (case c33 => k_is)
    (case k33 => k_is)
    (case a34 => k_is)
    (case l34 => k_is)
    (case c34 => k_is)
    (case k34 => k_is)
    (case a35 => k_is)
    (case l35 => k_is)
    (case c35 => k_is)
    (case k35 => k_is)
    (case a36 => k_is)
    (case l36 => k_is)
    (case c36 => k_is)
    (case k36 => k_is)
    (case a37 => k_is)
    (case l37 => k_is)
    (case c37 => k_is)
    (case k37 => k_is)
    (case a38 => k_is)
    (case i38 => k_is)
    (case l38 => k_is)
    (case c38 => k_is)
    (case k38 => k_is)
    (case a39 => k_is)
    (case i39 => k_is)
    (case l39 => k_is)
    (case c39 => k_is)
    (case k39 => k_is)
    (case a40 => k_is)
    (case g40 => k_is)
    (case t40 => k_is)
    (case r40 => k_is)
    (case l40 => k_is)
    (case c40 => k_is)
    (case k40 => k_is)
    (case a41 => k_is)
    (case g41 => k_is)
    (case t41 => k_is)
    (case r41 => k_is)
    (case l41 => k_is)
    (case c41 => k_is)
    (case k41 => k_is)
    (case a42 => k_is)
    (case l42 => k_is)
    (case c42 => k_is)
    (case k42 => k_is)
    (case z_len => k_is)
    (case z_list => k_is)
    (case z_tuple => k_is)
    (case z_sum => k_is)
    (case z_all => k_is)
    (case z_any => k_is)
    (case z_min => k_is)
    (case z_max => k_is)
    (case z_sorted => k_is)
    (case z_abs => k_is)
    (case z_isinstance => k_is)
    (case z_range => k_is)
    (case z_enumerate => k_is)
    (case z_zip => k_is)
    (case z_set => k_is)
    (case z_int => k_is)
    (case z_bool => k_is)
    (case z_str => k_is)
    (case z_repr => k_is)
